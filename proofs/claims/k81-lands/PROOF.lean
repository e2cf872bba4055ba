import PyProof.Rows.All
import Wide.All
import OpenK.AllK
import Wide.FinOn
import HandS.ForMost
import HandS.IsInst
import HandS.Property
import HandS.DictComp
import HandS.SortInts
import HandS.SortRule
import HandS.Style
import HandS.Conv
import HandS.Walk
import HandS.TupLe
import HandS.TupAny
import HandS.TupSets
import HandS.Deep
import HandS.NoneIn
import KE.GoesEnum
import KE.DataMinMax
import KE.SortData
import PySem.Challenge.RW_storelands_k81_whole_which_lands_bear
set_option Elab.async false
set_option linter.all false
set_option maxRecDepth 100000
/-! La: two heaps (settled data B within the whole heap H), what an expression gives by growth alone. -/
namespace Lw
open PySem PySem.Spec PyProof.Rows L2
abbrev Slo := L2.St
/-- an object that may change: no tuple -/
def Mo (o : HO) : Prop := ∀ xs, o ≠ .tup xs
structure Gr (B H B' H' : Hp) : Prop where
  bb : Same B B'
  sub : Same B' H'
  hh : Same H H'
  fr : ∀ a o, B a = none → H a = some o → Mo o → B' a = none
variable {B H B1 H1 B2 H2 B' H' : Hp} {p : Addr} {o : HO}
theorem Gr.refl (s : Same B H) : Gr B H B H := ⟨Same.refl B, s, Same.refl H, fun _ _ h _ _ => h⟩
theorem Gr.trans (g : Gr B H B1 H1) (k : Gr B1 H1 B2 H2) : Gr B H B2 H2 :=
  ⟨g.bb.trans k.bb, k.sub, g.hh.trans k.hh, fun a o h1 h2 m => k.fr a o (g.fr a o h1 h2 m) (g.hh a o h2) m⟩
theorem none_of_same (s : Same B H) (n : H p = none) : B p = none := s.free n
theorem same_new (n : H p = none) : Same H (upd H p o) := fun b u e => by rw [upd_ne (ne_of_none e n)]; exact e
theorem same_upd2 (s : Same B H) : Same (upd B p o) (upd H p o) := fun b u e => by
  by_cases hb : b = p
  · subst hb; rw [upd_same] at e ⊢; exact e
  · rw [upd_ne hb] at e ⊢; exact s b u e
theorem same_off (s : Same B H) (n : B p = none) : Same B (upd H p o) := fun b u e => by
  rw [upd_ne (ne_of_none e n)]; exact s b u e
theorem Gr.new (s : Same B H) (n : H p = none) : Gr B H (upd B p o) (upd H p o) :=
  ⟨same_new (none_of_same s n), same_upd2 s, same_new n, fun a u h1 h2 _ => by rw [upd_ne (ne_of_none h2 n)]; exact h1⟩
theorem Gr.newM (s : Same B H) (n : H p = none) : Gr B H B (upd H p o) :=
  ⟨Same.refl B, same_off s (none_of_same s n), same_new n, fun _ _ h1 _ _ => h1⟩
/-- a tuple that stands is settled -/
theorem Gr.tup {xs : List V} (s : Same B H) (h : H p = some (.tup xs)) : Gr B H (upd B p (.tup xs)) H := by
  refine ⟨fun b u e => ?_, fun b u e => ?_, Same.refl H, fun a u h1 h2 m => ?_⟩
  · by_cases hb : b = p
    · subst hb; rw [upd_same]; exact (h.symm.trans (s b u e)).symm ▸ rfl
    · rw [upd_ne hb]; exact e
  · by_cases hb : b = p
    · subst hb; rw [upd_same] at e; rw [← e]; exact h
    · rw [upd_ne hb] at e; exact s b u e
  · by_cases ha : a = p
    · subst ha; rw [h] at h2; cases h2; exact absurd rfl (m xs)
    · rw [upd_ne ha]; exact h1
/-- an object of one's own is settled: it was not there at the entry -/
theorem Gr.settle (g : Gr B H B1 H1) (n : H p = none) (n1 : B1 p = none) (h : H1 p = some o) : Gr B H (upd B1 p o) H1 := by
  refine ⟨g.bb.trans (same_new n1), fun b u e => ?_, g.hh, fun a u h1 h2 m => ?_⟩
  · by_cases hb : b = p
    · subst hb; rw [upd_same] at e; rw [← e]; exact h
    · rw [upd_ne hb] at e; exact g.sub b u e
  · rw [upd_ne (ne_of_none h2 n)]; exact g.fr a u h1 h2 m
/-- an object of one's own is changed -/
theorem Gr.put (g : Gr B H B1 H1) (n : H p = none) (n1 : B1 p = none) : Gr B H B1 (upd H1 p o) :=
  ⟨g.bb, same_off g.sub n1, same_off g.hh n, g.fr⟩
/-- .. and stays one's own while all grows -/
theorem Gr.own (g : Gr B H B1 H1) (n : B p = none) (h : H p = some o) (m : Mo o) : B1 p = none ∧ H1 p = some o := ⟨g.fr p o n h m, g.hh p o h⟩
theorem mo_lst {xs : List V} : Mo (.lst xs) := fun _ e => nomatch e
theorem mo_dK {xs : List (Key × V)} : Mo (.dK xs) := fun _ e => nomatch e
theorem mo_dT {xs : List (List Key × V)} : Mo (.dT xs) := fun _ e => nomatch e
theorem mo_ins {C dx : Addr} {fs} : Mo (.ins C dx fs) := fun _ e => nomatch e
/-! ### what a value is -/
abbrev VP := V → Hp → Prop
class Mn (P : VP) : Prop where
  mn : ∀ {v : V} {H H' : Hp}, Same H H' → P v H → P v H'
def RX (x : V) : VP := fun v _ => v = x
/-- a tuple of these, a list of these -/
def VT (xs : List V) : VP := fun v H => ∃ a, v = .ref a ∧ H a = some (.tup xs)
def VL (xs : List V) : VP := fun v H => ∃ a, v = .ref a ∧ H a = some (.lst xs)
instance {x : V} : Mn (RX x) := ⟨fun _ h => h⟩
instance {xs : List V} : Mn (VT xs) := ⟨fun s ⟨a, e, h⟩ => ⟨a, e, s _ _ h⟩⟩
instance {xs : List V} : Mn (VL xs) := ⟨fun s ⟨a, e, h⟩ => ⟨a, e, s _ _ h⟩⟩
/-- values for things, one by one -/
def Rs {α : Type} (R : α → VP) : List α → List V → Hp → Prop
  | [], [], _ => True
  | x :: xs, v :: vs, H => R x v H ∧ Rs R xs vs H
  | _, _, _ => False
section
variable {α β : Type} {R : α → VP} {xs ys : List α} {vs ws : List V} {x : α} {v : V}
theorem Rs.mn [∀ x, Mn (R x)] (s : Same H H') : ∀ {xs : List α} {vs : List V}, Rs R xs vs H → Rs R xs vs H'
  | [], [], _ => True.intro
  | _ :: _, _ :: _, ⟨h, t⟩ => ⟨Mn.mn s h, Rs.mn s t⟩
theorem Rs.len : ∀ {xs : List α} {vs : List V}, Rs R xs vs H → vs.length = xs.length
  | [], [], _ => rfl
  | _ :: _, _ :: _, ⟨_, t⟩ => congrArg (· + 1) (Rs.len t)
theorem Rs.app : ∀ {xs ys : List α} {vs ws : List V}, Rs R xs vs H → Rs R ys ws H → Rs R (xs ++ ys) (vs ++ ws) H
  | [], _, [], _, _, k => k
  | _ :: _, _, _ :: _, _, ⟨h, t⟩, k => ⟨h, Rs.app t k⟩
theorem Rs.one (h : R x v H) : Rs R [x] [v] H := ⟨h, True.intro⟩
theorem Rs.get : ∀ {xs : List α} {vs : List V} {i : Nat} {x : α}, Rs R xs vs H → xs[i]? = some x → ∃ v, vs[i]? = some v ∧ R x v H
  | [], [], _, _, _, e => by simp at e
  | _ :: _, v :: _, 0, x, ⟨h, _⟩, e => by simp at e; subst e; exact ⟨v, rfl, h⟩
  | _ :: _, _ :: _, i + 1, x, ⟨_, t⟩, e => by
    obtain ⟨v, h1, h2⟩ := Rs.get (i := i) (x := x) t (by simpa using e)
    exact ⟨v, by simpa using h1, h2⟩
theorem Rs.at {i : Nat} (r : Rs R xs vs H) (e : vs[i]? = some v) : ∃ x, xs[i]? = some x ∧ R x v H := by
  have hl := r.len
  have hi : i < xs.length := by rw [← hl]; exact (List.getElem?_eq_some_iff.mp e).1
  obtain ⟨w, h1, h2⟩ := r.get (List.getElem?_eq_getElem hi)
  rw [e] at h1; cases h1
  exact ⟨_, List.getElem?_eq_getElem hi, h2⟩
theorem Rs.set [∀ x, Mn (R x)] : ∀ {xs : List α} {vs : List V} (i : Nat), Rs R xs vs H → R x v H → Rs R (xs.set i x) (vs.set i v) H
  | [], [], _, _, _ => True.intro
  | _ :: _, _ :: _, 0, ⟨_, t⟩, k => ⟨k, t⟩
  | _ :: _, _ :: _, i + 1, ⟨h, t⟩, k => ⟨h, Rs.set i t k⟩
theorem Rs.rev [∀ x, Mn (R x)] : ∀ {xs : List α} {vs : List V}, Rs R xs vs H → Rs R xs.reverse vs.reverse H
  | [], [], _ => True.intro
  | x :: xs, v :: vs, ⟨h, t⟩ => by
    rw [List.reverse_cons, List.reverse_cons]
    exact Rs.app (Rs.rev t) (Rs.one h)
theorem Rs.imp {R' : β → VP} {f : α → β} : ∀ {xs : List α} {vs : List V}, Rs R xs vs H → (∀ x v, x ∈ xs → R x v H → R' (f x) v H') → Rs R' (xs.map f) vs H'
  | [], [], _, _ => True.intro
  | x :: xs, v :: vs, ⟨h, t⟩, k => ⟨k x v (List.mem_cons_self ..) h, Rs.imp t fun x v m => k x v (List.mem_cons_of_mem _ m)⟩
/-- things that are values themselves -/
theorem Rs.vals {f : α → V} : ∀ {xs : List α} {vs : List V}, Rs (fun x => RX (f x)) xs vs H → vs = xs.map f
  | [], [], _ => rfl
  | _ :: _, _ :: _, ⟨h, t⟩ => by rw [List.map_cons, ← Rs.vals t, show _ = _ from h]
theorem Rs.ofv (f : α → V) : ∀ (xs : List α), Rs (fun x => RX (f x)) xs (xs.map f) H
  | [] => True.intro
  | _ :: xs => ⟨rfl, Rs.ofv f xs⟩
def TO (R : α → VP) (xs : List α) : VP := fun v H => ∃ a vs, v = .ref a ∧ H a = some (.tup vs) ∧ Rs R xs vs H
def LO (R : α → VP) (xs : List α) : VP := fun v H => ∃ a vs, v = .ref a ∧ H a = some (.lst vs) ∧ Rs R xs vs H
instance [∀ x, Mn (R x)] : Mn (TO R xs) := ⟨fun s ⟨a, vs, e, h, r⟩ => ⟨a, vs, e, s _ _ h, r.mn s⟩⟩
instance [∀ x, Mn (R x)] : Mn (LO R xs) := ⟨fun s ⟨a, vs, e, h, r⟩ => ⟨a, vs, e, s _ _ h, r.mn s⟩⟩
end
abbrev vn (n : Nat) : V := .int (n : Int)
def vo : Option Nat → V
  | none => .non
  | some n => vn n
/-- a tuple of numbers, a list of them; a pair -/
abbrev IT (ns : List Nat) : VP := VT (ns.map vn)
abbrev IL (ns : List Nat) : VP := VL (ns.map vn)
abbrev I2 (q : Nat × Nat) : VP := VT [vn q.1, vn q.2]
abbrev OL (os : List (Option Nat)) : VP := VL (os.map vo)
theorem vn_inj {a b : Nat} (h : vn a = vn b) : a = b := Int.ofNat.inj (V.int.inj h)
theorem dec_vn (a b : Nat) : decide (vn a = vn b) = decide (a = b) := by
  by_cases h : a = b
  · subst h; simp
  · rw [decide_eq_false h, decide_eq_false fun e => h (vn_inj e)]
theorem vo_inj : ∀ {a b : Option Nat}, vo a = vo b → a = b
  | none, none, _ => rfl
  | none, some _, h => nomatch h
  | some _, none, h => nomatch h
  | some a, some b, h => congrArg some (vn_inj h)
/-! ### by growth alone -/
def Ev (te : TE) (σ : Slo) (B H : Hp) (P : VP) : Prop := ∀ B1 H1, Gr B H B1 H1 → ∀ Q : VK, (∀ v B' H', Gr B1 H1 B' H' → P v B' → Q v H') → te σ H1 Q
def EvT (tt : TT) (σ : Slo) (B H : Hp) (b : Bool) : Prop := ∀ B1 H1, Gr B H B1 H1 → ∀ Q : Bool → Hp → Prop, (∀ B' H', Gr B1 H1 B' H' → Q b H') → tt σ H1 Q
def EvA (ta : TA) (σ : Slo) (B H : Hp) (P : List V → Hp → Prop) : Prop := ∀ B1 H1, Gr B H B1 H1 → ∀ Q : List V → Hp → Prop, (∀ vs B' H', Gr B1 H1 B' H' → P vs B' → Q vs H') → ta σ H1 Q
/-- a new list -/
def EvM (te : TE) (σ : Slo) (B H : Hp) (P : List V → Hp → Prop) : Prop := ∀ B1 H1, Gr B H B1 H1 → ∀ Q : VK,
  (∀ p vs B' H', Gr B1 H1 B' H' → H1 p = none → B' p = none → H' p = some (.lst vs) → P vs B' → Q (.ref p) H') → te σ H1 Q
/-- what is walked: these things -/
def EvI {α : Type} (wi : TI) (σ : Slo) (B H : Hp) (R : α → VP) (xs : List α) : Prop := ∀ B1 H1, Gr B H B1 H1 → ∀ T : It → Hp → Prop,
  (∀ J B' H' vs, Gr B1 H1 B' H' → Rs R xs vs B' → Walk J xs.length (Same B') (YAt vs) → T J H') → wi σ H1 T
section
variable {σ : Slo} {ta tb te tc : TE} {t u : TT} {P P' P2 : VP} {v x y : V} {i : Nat} {b c : Bool} {vs : List V} {PL : List V → Hp → Prop} {a : Addr} {o : HO}
theorem Gr.ok (g : Gr B H B1 H1) : Gr B1 H1 B1 H1 := Gr.refl g.sub
theorem Ev.go (h : Ev te σ B H P) (s : Same B H) {Q : VK} (k : ∀ v B' H', Gr B H B' H' → P v B' → Q v H') : te σ H Q := h B H (Gr.refl s) Q k
theorem EvT.go (h : EvT t σ B H b) (s : Same B H) {Q : Bool → Hp → Prop} (k : ∀ B' H', Gr B H B' H' → Q b H') : t σ H Q := h B H (Gr.refl s) Q k
theorem EvM.go (h : EvM te σ B H PL) (s : Same B H) {Q : VK} (k : ∀ p vs B' H', Gr B H B' H' → H p = none → B' p = none → H' p = some (.lst vs) → PL vs B' → Q (.ref p) H') : te σ H Q := h B H (Gr.refl s) Q k
theorem Ev.mono (g : Gr B H B' H') (h : Ev te σ B H P) : Ev te σ B' H' P := fun B1 H1 g1 Q k => h B1 H1 (g.trans g1) Q k
theorem EvT.mono (g : Gr B H B' H') (h : EvT t σ B H b) : EvT t σ B' H' b := fun B1 H1 g1 Q k => h B1 H1 (g.trans g1) Q k
theorem Ev.imp (h : Ev te σ B H P) (k : ∀ v B', Same B B' → P v B' → P' v B') : Ev te σ B H P' := fun B1 H1 g1 Q q =>
  h B1 H1 g1 Q fun v B' H' g p => q v B' H' g (k v B' (g1.bb.trans g.bb) p)
theorem EvT.eq (h : EvT t σ B H b) (e : b = c) : EvT t σ B H c := e ▸ h
theorem Ev.eq (h : Ev te σ B H (RX x)) (e : x = y) : Ev te σ B H (RX y) := e ▸ h
theorem ev_var (i : Nat) (h : σ[i]? = some (some v)) (p : P v B) [Mn P] : Ev (tVar i) σ B H P := fun B1 H1 g Q k => ⟨v, h, k v B1 H1 g.ok (Mn.mn g.bb p)⟩
theorem evx (i : Nat) (h : σ[i]? = some (some v)) : Ev (tVar i) σ B H (RX v) := ev_var i h rfl
theorem ev_c : Ev (tC v) σ B H (RX v) := fun B1 H1 g Q k => k v B1 H1 g.ok rfl
theorem EvM.ev (h : EvM te σ B H PL) (m : ∀ vs B B', Same B B' → PL vs B → PL vs B') : Ev te σ B H (fun v B' => ∃ a vs, v = .ref a ∧ B' a = some (.lst vs) ∧ PL vs B') := fun B1 H1 g1 Q k =>
  h B1 H1 g1 Q fun p vs B' H' g n n' e q => k (.ref p) (upd B' p (.lst vs)) H' (g.settle n n' e) ⟨p, vs, rfl, upd_same, m _ _ _ (same_new n') q⟩
theorem EvM.lo {α : Type} {R : α → VP} {xs : List α} [∀ x, Mn (R x)] (h : EvM te σ B H (Rs R xs)) : Ev te σ B H (LO R xs) := h.ev fun _ _ _ s r => r.mn s
theorem EvM.vl {xs : List V} (h : EvM te σ B H (fun vs _ => vs = xs)) : Ev te σ B H (VL xs) :=
  (h.ev fun _ _ _ _ r => r).imp fun v B' _ ⟨a, vs, e, ha, r⟩ => ⟨a, e, r ▸ ha⟩
theorem EvM.imp {PL' : List V → Hp → Prop} (h : EvM te σ B H PL) (k : ∀ vs B', Same B B' → PL vs B' → PL' vs B') : EvM te σ B H PL' := fun B1 H1 g1 Q q =>
  h B1 H1 g1 Q fun p vs B' H' g n n' e z => q p vs B' H' g n n' e (k vs B' (g1.bb.trans g.bb) z)
theorem EvM.vals {α : Type} {f : α → V} {xs : List α} (h : EvM te σ B H (Rs (fun x => RX (f x)) xs)) : EvM te σ B H (fun vs _ => vs = xs.map f) := h.imp fun _ _ _ r => r.vals
/-! ### operators -/
/-- a result without the heap's growth -/
theorem ev_opx {r : R2} (ha : Ev ta σ B H P) (hb : Ev tb σ B H P') [Mn P] (hr : ∀ x y B' H', Gr B H B' H' → P x B' → P' y B' → ∀ Q : VK, Q v H' → r x y H' Q) : Ev (tOp r ta tb) σ B H (RX v) := fun B1 H1 g1 Q k =>
  ha B1 H1 g1 _ fun x B2 H2 g p => hb B2 H2 (g1.trans g) _ fun y B3 H3 g' p' => hr x y B3 H3 (g1.trans (g.trans g')) (Mn.mn g'.bb p) p' Q (k v B3 H3 (g.trans g') rfl)
theorem ev_opP {r : R2} (ha : Ev ta σ B H P) (hb : Ev tb σ B H P') [Mn P] (hr : ∀ x y B' H', Gr B H B' H' → P x B' → P' y B' → ∀ Q : VK, (∀ v B3 H3, Gr B' H' B3 H3 → P2 v B3 → Q v H3) → r x y H' Q) : Ev (tOp r ta tb) σ B H P2 := fun B1 H1 g1 Q k =>
  ha B1 H1 g1 _ fun x B2 H2 g p => hb B2 H2 (g1.trans g) _ fun y B3 H3 g' p' => hr x y B3 H3 (g1.trans (g.trans g')) (Mn.mn g'.bb p) p' Q fun w B4 H4 g4 p4 => k w B4 H4 ((g.trans g').trans g4) p4
theorem ev_I0 {g : Int → Int → V} {i j : Int} (ha : Ev ta σ B H (RX (.int i))) (hb : Ev tb σ B H (RX (.int j))) : Ev (tOp (rI0 g) ta tb) σ B H (RX (g i j)) :=
  ev_opx ha hb fun _ _ _ _ _ p p' Q q => ⟨i, j, p, p', q⟩
theorem ev_I {C : Int → Int → Prop} {g : Int → Int → V} {i j : Int} (ha : Ev ta σ B H (RX (.int i))) (hb : Ev tb σ B H (RX (.int j))) (hc : C i j) : Ev (tOp (rI C g) ta tb) σ B H (RX (g i j)) :=
  ev_opx ha hb fun _ _ _ _ _ p p' Q q => ⟨i, j, p, p', hc, q⟩
theorem ev_eq (ha : Ev ta σ B H (RX x)) (hb : Ev tb σ B H (RX y)) (hs : scal x y = true) : Ev (tOp rEq ta tb) σ B H (RX (.bl (decide (x = y)))) :=
  ev_opx ha hb fun _ _ _ _ _ p p' Q q => by cases p; cases p'; exact ⟨hs, q⟩
theorem ev_ne (ha : Ev ta σ B H (RX x)) (hb : Ev tb σ B H (RX y)) (hs : scal x y = true) : Ev (tOp rNe ta tb) σ B H (RX (.bl (!decide (x = y)))) :=
  ev_opx ha hb fun _ _ _ _ _ p p' Q q => by cases p; cases p'; exact ⟨hs, q⟩
theorem ev_isN (ha : Ev ta σ B H (RX x)) : Ev (tOp (fun x y H Q => y = .non ∧ Q (.bl (decide (x = .non))) H) ta (tC .non)) σ B H (RX (.bl (decide (x = .non)))) :=
  ev_opx ha ev_c fun _ _ _ _ _ p p' Q q => by cases p; exact ⟨p', q⟩
theorem ev_notN (ha : Ev ta σ B H (RX x)) : Ev (tOp (fun x y H Q => y = .non ∧ Q (.bl (!decide (x = .non))) H) ta (tC .non)) σ B H (RX (.bl (!decide (x = .non)))) :=
  ev_opx ha ev_c fun _ _ _ _ _ p p' Q q => by cases p; exact ⟨p', q⟩
/-- t[i], l[i] -/
theorem ev_ixT {K : PySem.W.Frag} {α : Type} {R : α → VP} {xs : List α} {k : α} [∀ x, Mn (R x)] (ha : Ev ta σ B H (TO R xs)) (hb : Ev tb σ B H (RX (vn i))) (h : xs[i]? = some k) : Ev (tOp (rIxT K) ta tb) σ B H (R k) :=
  ev_opP ha hb fun x y B' H' g ⟨a, vs, e, hv, r⟩ p' Q q => by
    obtain ⟨v, h1, h2⟩ := r.get h
    exact ⟨a, vs, i, v, e, p', SqT.of (g.sub _ _ hv), atI_nat h1, q v B' H' g.ok h2⟩
theorem ev_ixL {K : PySem.W.Frag} {α : Type} {R : α → VP} {xs : List α} {k : α} [∀ x, Mn (R x)] (ha : Ev ta σ B H (LO R xs)) (hb : Ev tb σ B H (RX (vn i))) (h : xs[i]? = some k) : Ev (tOp (rIxL K) ta tb) σ B H (R k) :=
  ev_opP ha hb fun x y B' H' g ⟨a, vs, e, hv, r⟩ p' Q q => by
    obtain ⟨v, h1, h2⟩ := r.get h
    exact ⟨a, vs, i, v, e, p', SqL.of (g.sub _ _ hv), atI_nat h1, q v B' H' g.ok h2⟩
/-- .. of a list of one's own -/
theorem ev_ixM {K : PySem.W.Frag} {α : Type} {R : α → VP} {xs : List α} {k : α} [∀ x, Mn (R x)] (ha : Ev ta σ B H (RX (.ref a))) (hb : Ev tb σ B H (RX (vn i))) (hl : H a = some (.lst vs)) (r : Rs R xs vs B) (h : xs[i]? = some k) : Ev (tOp (rIxL K) ta tb) σ B H (R k) :=
  ev_opP ha hb fun x y B' H' g e p' Q q => by
    obtain ⟨v, h1, h2⟩ := r.get h
    exact ⟨a, vs, i, v, e, p', SqL.of (g.hh _ _ hl), atI_nat h1, q v B' H' g.ok (Mn.mn g.bb h2)⟩
theorem ev_ixVM {K : PySem.W.Frag} (ha : Ev ta σ B H (RX (.ref a))) (hb : Ev tb σ B H (RX (vn i))) (hl : H a = some (.lst vs)) (h : vs[i]? = some v) : Ev (tOp (rIxL K) ta tb) σ B H (RX v) :=
  ev_opx ha hb fun x y B' H' g e p' Q q => ⟨a, vs, i, v, e, p', SqL.of (g.hh _ _ hl), atI_nat h, q⟩
theorem ev_ixVT {K : PySem.W.Frag} (ha : Ev ta σ B H (VT vs)) (hb : Ev tb σ B H (RX (vn i))) (h : vs[i]? = some v) : Ev (tOp (rIxT K) ta tb) σ B H (RX v) :=
  ev_opx ha hb fun x y B' H' g ⟨a, e, hv⟩ p' Q q => ⟨a, vs, i, v, e, p', SqT.of (g.sub _ _ hv), atI_nat h, q⟩
theorem ev_ixVL {K : PySem.W.Frag} (ha : Ev ta σ B H (VL vs)) (hb : Ev tb σ B H (RX (vn i))) (h : vs[i]? = some v) : Ev (tOp (rIxL K) ta tb) σ B H (RX v) :=
  ev_opx ha hb fun x y B' H' g ⟨a, e, hv⟩ p' Q q => ⟨a, vs, i, v, e, p', SqL.of (g.sub _ _ hv), atI_nat h, q⟩
/-- in, not in -/
theorem ev_inT {K : PySem.W.Frag} {neg : Bool} (ha : Ev ta σ B H (RX x)) (hb : Ev tb σ B H (VT vs)) (hx : flatV x = true) (hf : vs.all flatV = true) : Ev (tOp (rIn K neg) ta tb) σ B H (RX (.bl (if neg then !inV x vs else inV x vs))) :=
  ev_opx ha hb fun _ _ B' H' g p ⟨a, e, hv⟩ Q q => by cases p; exact ⟨a, vs, e, .inr (SqT.of (g.sub _ _ hv)), hx, hf, q⟩
theorem ev_inL {K : PySem.W.Frag} {neg : Bool} (ha : Ev ta σ B H (RX x)) (hb : Ev tb σ B H (VL vs)) (hx : flatV x = true) (hf : vs.all flatV = true) : Ev (tOp (rIn K neg) ta tb) σ B H (RX (.bl (if neg then !inV x vs else inV x vs))) :=
  ev_opx ha hb fun _ _ B' H' g p ⟨a, e, hv⟩ Q q => by cases p; exact ⟨a, vs, e, .inl (SqL.of (g.sub _ _ hv)), hx, hf, q⟩
theorem ev_inM {K : PySem.W.Frag} {neg : Bool} (ha : Ev ta σ B H (RX x)) (hb : Ev tb σ B H (RX (.ref a))) (hl : H a = some (.lst vs)) (hx : flatV x = true) (hf : vs.all flatV = true) : Ev (tOp (rIn K neg) ta tb) σ B H (RX (.bl (if neg then !inV x vs else inV x vs))) :=
  ev_opx ha hb fun _ _ B' H' g p e Q q => by cases p; exact ⟨a, vs, e, .inl (SqL.of (g.hh _ _ hl)), hx, hf, q⟩
/-! ### tests, and, or, not, if -/
theorem et_val (h : Ev te σ B H (RX (.bl b))) : EvT (tTest te) σ B H b := fun B1 H1 g1 Q k => h B1 H1 g1 _ fun v B' H' g p => ⟨b, p, k B' H' g⟩
theorem et_B (h : Ev te σ B H (RX (.bl b))) : EvT (tB te) σ B H b := fun B1 H1 g1 Q k => h B1 H1 g1 _ fun v B' H' g p => ⟨b, p, k B' H' g⟩
theorem et_yes : EvT tYes σ B H true := fun B1 H1 g1 Q k => k B1 H1 g1.ok
theorem et_not (h : EvT t σ B H b) : EvT (tNot t) σ B H (!b) := fun B1 H1 g1 Q k => h B1 H1 g1 _ fun B' H' g => k B' H' g
theorem et_and (h : EvT t σ B H b) (h' : b = true → EvT u σ B H c) : EvT (tAnd t u) σ B H (b && c) := fun B1 H1 g1 Q k => h B1 H1 g1 _ fun B' H' g => by
  cases b with
  | true => exact h' rfl B' H' (g1.trans g) _ fun B2 H2 g2 => k B2 H2 (g.trans g2)
  | false => exact k B' H' g
theorem et_or (h : EvT t σ B H b) (h' : b = false → EvT u σ B H c) : EvT (tOr t u) σ B H (b || c) := fun B1 H1 g1 Q k => h B1 H1 g1 _ fun B' H' g => by
  cases b with
  | false => exact h' rfl B' H' (g1.trans g) _ fun B2 H2 g2 => k B2 H2 (g.trans g2)
  | true => exact k B' H' g
theorem ev_and (h : Ev ta σ B H (RX (.bl b))) (h' : b = true → Ev tb σ B H (RX (.bl c))) : Ev (tAndV ta tb) σ B H (RX (.bl (b && c))) := fun B1 H1 g1 Q k => h B1 H1 g1 _ fun v B' H' g p => ⟨b, p, by
  cases b with
  | true => exact h' rfl B' H' (g1.trans g) _ fun v B2 H2 g2 p2 => k v B2 H2 (g.trans g2) p2
  | false => exact k _ B' H' g rfl⟩
theorem ev_not (h : Ev ta σ B H (RX (.bl b))) : Ev (tNotV ta) σ B H (RX (.bl (!b))) := fun B1 H1 g1 Q k => h B1 H1 g1 _ fun v B' H' g p => ⟨b, p, k _ B' H' g rfl⟩
theorem ev_if (h : EvT t σ B H b) (h1 : b = true → Ev ta σ B H P) (h2 : b = false → Ev tb σ B H P) : Ev (tIf t ta tb) σ B H P := fun B1 H1 g1 Q k => h B1 H1 g1 _ fun B' H' g => by
  cases b with
  | true => exact h1 rfl B' H' (g1.trans g) _ fun v B2 H2 g2 p2 => k v B2 H2 (g.trans g2) p2
  | false => exact h2 rfl B' H' (g1.trans g) _ fun v B2 H2 g2 p2 => k v B2 H2 (g.trans g2) p2
theorem ev_chainI {f g : Int → Int → Bool} {i j k : Int} (ha : Ev ta σ B H (RX (.int i))) (hb : Ev tb σ B H (RX (.int j))) (hc : Ev tc σ B H (RX (.int k))) :
    Ev (tChain (rI0 fun i j => .bl (f i j)) (rI0 fun i j => .bl (g i j)) ta tb tc) σ B H (RX (.bl (f i j && g j k))) := fun B1 H1 g1 Q q =>
  ha B1 H1 g1 _ fun x B2 H2 g2 p => hb B2 H2 (g1.trans g2) _ fun y B3 H3 g3 p' => ⟨i, j, p, p', _, rfl, by
    cases e : f i j with
    | true => exact hc B3 H3 (g1.trans (g2.trans g3)) _ fun z B4 H4 g4 p4 => ⟨j, k, p', p4, q _ B4 H4 ((g2.trans g3).trans g4) (by rw [e]; rfl)⟩
    | false => exact q _ B3 H3 (g2.trans g3) (by rw [e]; rfl)⟩
/-! ### arguments, calls, displays -/
def AX (xs : List V) : List V → Hp → Prop := fun vs _ => vs = xs
def AC (P : VP) (PL : List V → Hp → Prop) : List V → Hp → Prop := fun ws B => ∃ v vs, ws = v :: vs ∧ P v B ∧ PL vs B
theorem ea_nil : EvA tNil σ B H (AX []) := fun B1 H1 g Q k => k [] B1 H1 g.ok rfl
theorem ea_x {tr : TA} {xs : List V} (h : Ev te σ B H (RX x)) (hr : EvA tr σ B H (AX xs)) : EvA (tCons te tr) σ B H (AX (x :: xs)) := fun B1 H1 g1 Q k =>
  h B1 H1 g1 _ fun v B2 H2 g p => hr B2 H2 (g1.trans g) _ fun vs B3 H3 g3 q => k _ B3 H3 (g.trans g3) (by cases p; cases q; rfl)
theorem ea_c {tr : TA} (h : Ev te σ B H P) (hr : EvA tr σ B H PL) [Mn P] : EvA (tCons te tr) σ B H (AC P PL) := fun B1 H1 g1 Q k =>
  h B1 H1 g1 _ fun v B2 H2 g p => hr B2 H2 (g1.trans g) _ fun vs B3 H3 g3 q => k _ B3 H3 (g.trans g3) ⟨v, vs, rfl, Mn.mn g3.bb p, q⟩
/-- a promise by growth: the arguments vs in B, then a value of P -/
def Pr (R : List V → Hp → VP → Prop) : Sp := fun vs H Q _ => ∃ B P, Same B H ∧ R vs B P ∧ ∀ v B' H', Gr B H B' H' → P v B' → Q v H'
theorem ev_call {R : List V → Hp → VP → Prop} {E : XK} {tr : TA} (h : EvA tr σ B H PL) (hr : ∀ vs B', Same B B' → PL vs B' → R (vs ++ []) B' P) : Ev (tCall (Pr R) [] E tr) σ B H P := fun B1 H1 g1 Q k =>
  h B1 H1 g1 _ fun vs B2 H2 g p => ⟨B2, P, g.sub, hr vs B2 (g1.bb.trans g.bb) p, fun v B3 H3 g3 p3 => k v B3 H3 (g.trans g3) p3⟩
theorem ev_cb {r : List V → Hp → VK → Prop} {tr : TA} (h : EvA tr σ B H PL) (hr : ∀ vs B' H', Gr B H B' H' → PL vs B' → ∀ Q : VK, (∀ v B3 H3, Gr B' H' B3 H3 → P v B3 → Q v H3) → r vs H' Q) : Ev (tCB r tr) σ B H P := fun B1 H1 g1 Q k =>
  h B1 H1 g1 _ fun vs B2 H2 g p => hr vs B2 H2 (g1.trans g) p Q fun v B3 H3 g3 p3 => k v B3 H3 (g.trans g3) p3
theorem ev_cbx {r : List V → Hp → VK → Prop} {tr : TA} (h : EvA tr σ B H PL) (hr : ∀ vs B' H', Gr B H B' H' → PL vs B' → ∀ Q : VK, Q v H' → r vs H' Q) : Ev (tCB r tr) σ B H (RX v) :=
  ev_cb h fun vs B' H' g p Q q => hr vs B' H' g p Q (q v B' H' g.ok rfl)
theorem em_cb {r : List V → Hp → VK → Prop} {tr : TA} {PM : List V → Hp → Prop} (h : EvA tr σ B H PL) (hr : ∀ vs B' H', Gr B H B' H' → PL vs B' → ∀ Q : VK, (∀ p ws B3 H3, Gr B' H' B3 H3 → H' p = none → B3 p = none → H3 p = some (.lst ws) → PM ws B3 → Q (.ref p) H3) → r vs H' Q) : EvM (tCB r tr) σ B H PM := fun B1 H1 g1 Q k =>
  h B1 H1 g1 _ fun vs B2 H2 g p => hr vs B2 H2 (g1.trans g) p Q fun a ws B3 H3 g3 n n' e q => k a ws B3 H3 (g.trans g3) (g.hh.free n) n' e q
theorem sz (n : Nat) (h : n ≤ 1000000 := by decide) : n ≤ sizeLine := Nat.le_trans h (by decide)
theorem szl {n : Nat} (h : n < 1000000) : n < sizeLine := Nat.lt_of_lt_of_le h (by decide)
theorem ev_tup {tr : TA} (h : EvA tr σ B H PL) (hl : ∀ vs B', PL vs B' → vs.length ≤ 1000000) (m : ∀ vs B B', Same B B' → PL vs B → PL vs B') : Ev (tTup tr) σ B H (fun v B' => ∃ a vs, v = .ref a ∧ B' a = some (.tup vs) ∧ PL vs B') := fun B1 H1 g1 Q k =>
  h B1 H1 g1 _ fun vs B2 H2 g p => ⟨Nat.le_trans (hl _ _ p) (by decide), fun a n => k _ (upd B2 a (.tup vs)) _ (g.trans (Gr.new g.sub n)) ⟨a, vs, rfl, upd_same, m _ _ _ (same_new (none_of_same g.sub n)) p⟩⟩
theorem ev_tupx {tr : TA} {xs : List V} (h : EvA tr σ B H (AX xs)) (hl : xs.length ≤ 1000000 := by first | decide | simp) : Ev (tTup tr) σ B H (VT xs) :=
  (ev_tup h (fun vs _ e => by cases e; exact hl) (fun _ _ _ _ e => e)).imp fun v B' _ ⟨a, vs, e, ha, q⟩ => ⟨a, e, by cases q; exact ha⟩
theorem em_lst {tr : TA} {xs : List V} (h : EvA tr σ B H (AX xs)) (hl : xs.length ≤ 1000000 := by first | decide | simp) : EvM (tLst tr) σ B H (fun vs _ => vs = xs) := fun B1 H1 g1 Q k =>
  h B1 H1 g1 _ fun vs B2 H2 g p => by
    cases p
    exact ⟨Nat.le_trans hl (by decide), fun a n => k a xs B2 _ (g.trans (Gr.newM g.sub n)) (g.hh.free n) (none_of_same g.sub n) upd_same rfl⟩
/-- len -/
def PN (n : Nat) : VP := fun v B' => ∃ a vs, v = .ref a ∧ (B' a = some (.lst vs) ∨ B' a = some (.tup vs)) ∧ vs.length = n
instance {n : Nat} : Mn (PN n) := ⟨fun s ⟨a, vs, e, q, l⟩ => ⟨a, vs, e, q.imp (fun z => s _ _ z) fun z => s _ _ z, l⟩⟩
theorem ev_len {K : PySem.W.Frag} {n : Nat} (h : Ev te σ B H P) (hp : ∀ v B', P v B' → PN n v B') :
    Ev (tCB (fun xs H Q => ∃ p ys, xs = [.ref p] ∧ (SqL K H p ys ∨ SqT K H p ys) ∧ Q (.int ys.length) H) (tCons te tNil)) σ B H (RX (vn n)) :=
  ev_cbx (ea_c (P := PN n) (h.imp fun v B' _ p => hp v B' p) ea_nil) fun vs B' H' g ⟨v, ws, e, ⟨a, us, e1, q, l⟩, e2⟩ Q k => by
    cases e2; subst e e1 l
    exact ⟨a, us, rfl, q.imp (fun z => SqL.of (g.sub _ _ z)) fun z => SqT.of (g.sub _ _ z), k⟩
theorem ev_lenM {K : PySem.W.Frag} {n : Nat} (h : Ev te σ B H (RX (.ref a))) (hl : H a = some (.lst vs)) (hn : vs.length = n) :
    Ev (tCB (fun xs H Q => ∃ p ys, xs = [.ref p] ∧ (SqL K H p ys ∨ SqT K H p ys) ∧ Q (.int ys.length) H) (tCons te tNil)) σ B H (RX (vn n)) :=
  ev_cbx (ea_x h ea_nil) fun us B' H' g e Q k => by
    cases e; subst hn
    exact ⟨a, vs, rfl, .inl (SqL.of (g.hh _ _ hl)), k⟩
theorem pn_VT {vs : List V} {n : Nat} (e : vs.length = n) : ∀ v B, VT vs v B → PN n v B := fun _ _ ⟨a, h, q⟩ => ⟨a, vs, h, .inr q, e⟩
theorem pn_VL {vs : List V} {n : Nat} (e : vs.length = n) : ∀ v B, VL vs v B → PN n v B := fun _ _ ⟨a, h, q⟩ => ⟨a, vs, h, .inl q, e⟩
theorem pn_TO {α : Type} {R : α → VP} {xs : List α} {n : Nat} (e : xs.length = n) : ∀ v B, TO R xs v B → PN n v B := fun _ _ ⟨a, vs, h, q, r⟩ => ⟨a, vs, h, .inr q, r.len.trans e⟩
theorem pn_LO {α : Type} {R : α → VP} {xs : List α} {n : Nat} (e : xs.length = n) : ∀ v B, LO R xs v B → PN n v B := fun _ _ ⟨a, vs, h, q, r⟩ => ⟨a, vs, h, .inl q, r.len.trans e⟩
end
end Lw
/-! Lb: walks, comprehensions, loops, statements, dicts of numbers. -/
namespace Lw
open PySem PySem.Spec PyProof.Rows L2
section
variable {B H B1 H1 B2 H2 B' H' : Hp} {p a : Addr} {o : HO} {σ σ' : Slo} {ta : TA} {tb te tl tc tk tv td : TE} {t u tt : TT} {P P' P2 : VP} {v x y : V} {i j n : Nat} {b c : Bool} {vs : List V} {PL : List V → Hp → Prop} {α β : Type} {R : α → VP} {R' : β → VP} {xs : List α} {K : PySem.W.Frag}
abbrev RN : Nat → VP := fun n => RX (vn n)
/-! ### what is walked -/
theorem EvI.mono {wi : TI} (g : Gr B H B' H') (h : EvI wi σ B H R xs) : EvI wi σ B' H' R xs := fun B1 H1 g1 Q k => h B1 H1 (g.trans g1) Q k
theorem wk_list {ws : List V} {n : Nat} (h : B a = some (.lst ws)) (e : ws.length = n) : Walk (Itl K a) n (Same B) (YAt ws) := by
  subst e
  exact (walk_list (K := K) (a := a) (xs := ws)).mono (fun H s => SqL.of (s _ _ h)) fun _ _ _ _ _ _ y => y
theorem wk_tup {ws : List V} {n : Nat} (h : B a = some (.tup ws)) (e : ws.length = n) : Walk (Itt K a) n (Same B) (YAt ws) := by
  subst e
  exact (walk_tup (K := K) (a := a) (xs := ws)).mono (fun H s => SqT.of (s _ _ h)) fun _ _ _ _ _ _ y => y
theorem ei_list (h : Ev tl σ B H (LO R xs)) : EvI (iList K tl) σ B H R xs := fun B1 H1 g1 T k =>
  h B1 H1 g1 _ fun v B2 H2 g ⟨a, ws, e, ha, r⟩ => ⟨a, e, ⟨ws, SqL.of (g.sub _ _ ha)⟩, k _ B2 H2 ws g r (wk_list ha r.len)⟩
theorem ei_tup (h : Ev tl σ B H (TO R xs)) : EvI (iTup K tl) σ B H R xs := fun B1 H1 g1 T k =>
  h B1 H1 g1 _ fun v B2 H2 g ⟨a, ws, e, ha, r⟩ => ⟨a, e, ⟨ws, SqT.of (g.sub _ _ ha)⟩, k _ B2 H2 ws g r (wk_tup ha r.len)⟩
theorem VL.lo {f : α → V} {v : V} (h : VL (xs.map f) v B) : LO (fun x => RX (f x)) xs v B := let ⟨a, e, q⟩ := h; ⟨a, _, e, q, Rs.ofv f xs⟩
theorem VT.to {f : α → V} {v : V} (h : VT (xs.map f) v B) : TO (fun x => RX (f x)) xs v B := let ⟨a, e, q⟩ := h; ⟨a, _, e, q, Rs.ofv f xs⟩
theorem LO.vl {f : α → V} {v : V} (h : LO (fun x => RX (f x)) xs v B) : VL (xs.map f) v B := let ⟨a, _, e, q, r⟩ := h; ⟨a, e, by rw [← r.vals]; exact q⟩
theorem TO.vt {f : α → V} {v : V} (h : TO (fun x => RX (f x)) xs v B) : VT (xs.map f) v B := let ⟨a, _, e, q, r⟩ := h; ⟨a, e, by rw [← r.vals]; exact q⟩
theorem ei_VL {f : α → V} (h : Ev tl σ B H (VL (xs.map f))) : EvI (iList K tl) σ B H (fun x => RX (f x)) xs := ei_list (h.imp fun _ _ _ q => q.lo)
theorem ei_VT {f : α → V} (h : Ev tl σ B H (VT (xs.map f))) : EvI (iTup K tl) σ B H (fun x => RX (f x)) xs := ei_tup (h.imp fun _ _ _ q => q.to)
theorem rng_at (lo n : Nat) : Walk (Itr (lo : Int) n) n (Same B) (YAt ((List.range' lo n).map vn)) :=
  (walk_range (lo := (lo : Int)) (n := n)).mono (fun _ _ => True.intro) fun i H x H' hi _ y => by
    obtain ⟨e1, e2⟩ := y
    refine ⟨e1, ?_⟩
    rw [List.getElem?_map, List.getElem?_range' hi, e2]
    show some (V.int ((lo + 1 * i : Nat) : Int)) = some (V.int ((lo : Int) + (i : Int)))
    rw [Nat.one_mul]; rfl
theorem ei_rng1 (h : EvA ta σ B H (AX [vn n])) (hn : n ≤ 1000000) : EvI (iRng1 ta) σ B H RN (List.range n) := fun B1 H1 g1 T k =>
  h B1 H1 g1 _ fun us B2 H2 g e => ⟨(n : Int), e, by omega, by omega, by
    have w := rng_at (B := B2) 0 n
    rw [← List.range_eq_range'] at w
    exact k (Itr 0 n) B2 H2 ((List.range n).map vn) g (Rs.ofv vn _) (by rw [List.length_range]; exact w)⟩
theorem ei_rng2 {lo hi : Nat} (h : EvA ta σ B H (AX [vn lo, vn hi])) (h1 : lo ≤ 1000000) (h2 : hi ≤ 1000000) : EvI (iRng2 ta) σ B H RN (List.range' lo (hi - lo)) := fun B1 H1 g1 T k =>
  h B1 H1 g1 _ fun us B2 H2 g e => ⟨(lo : Int), (hi : Int), e, ⟨by omega, by omega, by omega, by omega⟩, by
    have w := rng_at (B := B2) lo (hi - lo)
    have e2 : ((hi : Int) - (lo : Int)).toNat = hi - lo := by omega
    rw [e2]
    exact k (Itr lo (hi - lo)) B2 H2 ((List.range' lo (hi - lo)).map vn) g (Rs.ofv vn _) (by rw [List.length_range']; exact w)⟩
theorem ei_rev [∀ x, Mn (R x)] {tr : TA} (h : EvA tr σ B H (AC (LO R xs) (AX []))) : EvI (iRev K tr) σ B H R xs.reverse := fun B1 H1 g1 T k =>
  h B1 H1 g1 _ fun us B2 H2 g ⟨w, ws, e, ⟨a, zs, e1, ha, r⟩, e2⟩ => ⟨a, zs, by cases e2; subst e1; exact e, SqL.of (g.sub _ _ ha), k _ B2 H2 zs.reverse g r.rev (by
    have w := (walk_rev (K := K) (a := a) (xs := zs)).mono (G' := Same B2) (Y' := YAt zs.reverse) (fun H s => SqL.of (s _ _ ha)) fun i H x H' hi _ y => ⟨y.1, by
      rw [List.getElem?_reverse hi]; exact y.2⟩
    rw [List.length_reverse, ← r.len]
    exact w)⟩
/-! ### comprehensions -/
theorem filter_take_succ {xs : List α} {i : Nat} {x : α} {p : α → Bool} (h : xs[i]? = some x) : (xs.take (i + 1)).filter p = (xs.take i).filter p ++ (if p x = true then [x] else []) := by
  rw [List.take_add_one, h, List.filter_append]
  show _ ++ [x].filter p = _
  rw [List.filter_cons]
  rfl
/-- [f x for x in xs if p x], the elements told by R' -/
theorem em_lc [∀ x, Mn (R x)] [∀ x, Mn (R' x)] {wi : TI} {g : TG} {ws : List Nat} (hi : EvI wi σ B H R xs) (p : α → Bool) (f : α → β) (hl : xs.length ≤ 900000)
    (turn : ∀ x v B' H', x ∈ xs → Gr B H B' H' → R x v B' → ∃ σ', (∀ B2 H2 (k : Slo → Hp → Prop), Gr B' H' B2 H2 → k σ' H2 → g v (wipe σ ws) H2 k) ∧ wipe σ' ws = wipe σ ws ∧ EvT tt σ' B' H' (p x) ∧ (p x = true → Ev te σ' B' H' (R' (f x)))) :
    EvM (tLc wi g tt te ws) σ B H (Rs R' ((xs.filter p).map f)) := fun B1 H1 g1 Q k => by
  refine hi B1 H1 g1 _ fun J B2 H2 vs g2 r w => fun D hD => ?_
  have hB2 : B2 D = none := none_of_same g2.sub hD
  refine lc_it w (fun i H' => ∃ B', Gr B2 H2 B' H' ∧ B' D = none ∧ ∃ acc, H' D = some (.lst acc) ∧ Rs R' (((xs.take i).filter p).map f) acc B') ?_ ?_ ?_ ?_
  · exact ⟨B2, Gr.newM g2.sub hD, hB2, [], upd_same, True.intro⟩
  · rintro i H' _ ⟨B', g', _⟩
    exact g'.bb.trans g'.sub
  · intro i x H0 H' hlt ⟨B', g0, nD, acc, hacc0, ra⟩ ⟨e0, hx⟩
    have g' : Gr B2 H2 B' H' := by rw [e0]; exact g0
    have hacc : H' D = some (.lst acc) := by rw [e0]; exact hacc0
    obtain ⟨z, hz, rz⟩ := (r.mn g'.bb).at hx
    have gg : Gr B H B' H' := (g1.trans g2).trans g'
    obtain ⟨σ', hg, hw, ht, he⟩ := turn z x B' H' (List.mem_of_getElem? hz) gg rz
    refine hg B' H' _ (Gr.refl g'.sub) ⟨hw, ?_⟩
    refine ht.go g'.sub fun B3 H3 g3 => ?_
    have hf := filter_take_succ (p := p) hz
    obtain ⟨n3, e3⟩ := g3.own nD hacc mo_lst
    by_cases hp : p z = true
    · rw [if_pos hp]
      refine (he hp) B3 H3 g3 _ fun y B4 H4 g4 q4 => ?_
      obtain ⟨n4, e4⟩ := g4.own n3 e3 mo_lst
      refine ⟨acc, e4, ?_, B4, ?_, n4, acc ++ [y], upd_same, ?_⟩
      · have h1 := ra.len
        rw [List.length_map] at h1
        have h2 : ((xs.take i).filter p).length ≤ (xs.take i).length := List.length_filter_le _ _
        have h3 : (xs.take i).length ≤ xs.length := by rw [List.length_take]; omega
        exact szl (by omega)
      · exact (g'.trans (g3.trans g4)).put hD n4
      · rw [hf, if_pos hp, List.map_append]
        exact Rs.app ((ra.mn g3.bb).mn g4.bb) (Rs.one q4)
    · rw [if_neg hp]
      refine ⟨B3, g'.trans g3, n3, acc, e3, ?_⟩
      rw [hf, if_neg hp, List.append_nil]
      exact ra.mn g3.bb
  · rintro H' ⟨B', g', nD, acc, hacc, ra⟩
    refine k D acc B' H' (g2.trans g') (g2.hh.free hD) nD hacc ?_
    rw [List.take_length] at ra
    exact ra
/-- the target a name -/
theorem em_lcN [∀ x, Mn (R x)] [∀ x, Mn (R' x)] {wi : TI} {j : Nat} {ws : List Nat} (hi : EvI wi σ B H R xs) (p : α → Bool) (f : α → β) (hl : xs.length ≤ 900000) (hw : ∀ v, wipe ((wipe σ ws).set j (some v)) ws = wipe σ ws)
    (turn : ∀ x v B' H', x ∈ xs → Gr B H B' H' → R x v B' → EvT tt ((wipe σ ws).set j (some v)) B' H' (p x) ∧ (p x = true → Ev te ((wipe σ ws).set j (some v)) B' H' (R' (f x)))) :
    EvM (tLc wi (gName j) tt te ws) σ B H (Rs R' ((xs.filter p).map f)) :=
  em_lc hi p f hl fun x v B' H' m g r => ⟨_, fun _ _ k _ q => q, hw v, turn x v B' H' m g r⟩
theorem filter_yes (xs : List α) : xs.filter (fun _ => true) = xs := by
  induction xs with
  | nil => rfl
  | cons x xs ih => rw [List.filter_cons, if_pos rfl, ih]
/-- no test -/
theorem em_lcM [∀ x, Mn (R x)] [∀ x, Mn (R' x)] {wi : TI} {j : Nat} {ws : List Nat} (hi : EvI wi σ B H R xs) (f : α → β) (hl : xs.length ≤ 900000) (hw : ∀ v, wipe ((wipe σ ws).set j (some v)) ws = wipe σ ws)
    (turn : ∀ x v B' H', x ∈ xs → Gr B H B' H' → R x v B' → Ev te ((wipe σ ws).set j (some v)) B' H' (R' (f x))) :
    EvM (tLc wi (gName j) tYes te ws) σ B H (Rs R' (xs.map f)) := by
  have h := em_lcN (tt := tYes) hi (fun _ => true) f hl hw fun x v B' H' m g r => ⟨et_yes, fun _ => turn x v B' H' m g r⟩
  rw [filter_yes] at h
  exact h
/-! ### loops -/
/-- for: the word over the turn, the slots, the settled heap and the whole one -/
theorem s_for [∀ x, Mn (R x)] {wi : TI} {g : TG} {tb : TS} {D : Ends} (hi : EvI wi σ B H R xs) (s : Same B H) (Pv : Nat → Slo → Hp → Hp → Prop)
    (h0 : ∀ B' H', Gr B H B' H' → Pv 0 σ B' H')
    (step : ∀ i x v σ' B' H', xs[i]? = some x → Same B' H' → Pv i σ' B' H' → R x v B' →
      g v σ' H' fun σ2 H2 => tb { D with nx := fun σ3 H3 => ∃ B3, Same B' B3 ∧ Same B3 H3 ∧ Pv (i + 1) σ3 B3 H3, ct := fun σ3 H3 => ∃ B3, Same B' B3 ∧ Same B3 H3 ∧ Pv (i + 1) σ3 B3 H3, bk := D.nx } σ2 H2)
    (done : ∀ σ' B' H', Same B' H' → Pv xs.length σ' B' H' → D.nx σ' H') : tFor wi g tb D σ H := by
  refine hi B H (Gr.refl s) _ fun J B0 H0 vs g0 r w => ?_
  refine ⟨fun i m σ' H' => m = xs.length - i ∧ i ≤ xs.length ∧ ∃ B', Same B0 B' ∧ Same B' H' ∧ Pv i σ' B' H', ⟨xs.length, by simp, Nat.zero_le _, B0, Same.refl _, g0.sub, h0 B0 H0 g0⟩, ?_⟩
  rintro i m σ' H' ⟨rfl, hle, B', s1, s2, q⟩
  have G := s1.trans s2
  by_cases hlt : i < xs.length
  · refine .inr ⟨w.goes i H' hlt G, fun σ3 H3 => ∃ B3, Same B' B3 ∧ Same B3 H3 ∧ Pv (i + 1) σ3 B3 H3, ?_, fun x H'' y => ?_⟩
    · rintro σ3 H3 ⟨B3, s3, s4, q3⟩
      exact ⟨xs.length - (i + 1), by omega, rfl, hlt, B3, s1.trans s3, s4, q3⟩
    · obtain ⟨e, hx⟩ := w.yields i H' x H'' hlt G y
      subst e
      obtain ⟨z, hz, rz⟩ := (r.mn s1).at hx
      exact step i z x σ' B' H'' hz s2 q rz
  · have e : i = xs.length := by omega
    subst e
    exact .inl ⟨w.stops H' G, done σ' B' H' s2 q⟩
/-- while, by a number that falls -/
theorem s_while {tb : TS} {D : Ends} (Pv : Nat → Slo → Hp → Hp → Prop) (m0 : Nat) (s0 : Same B H) (h0 : Pv m0 σ B H)
    (step : ∀ m σ' B' H', Same B' H' → Pv m σ' B' H' → ∃ b, EvT t σ' B' H' b ∧
      (b = true → ∀ B2 H2, Gr B' H' B2 H2 → tb { D with nx := fun σ3 H3 => ∃ m' B3, m' < m ∧ Same B3 H3 ∧ Pv m' σ3 B3 H3, ct := fun σ3 H3 => ∃ m' B3, m' < m ∧ Same B3 H3 ∧ Pv m' σ3 B3 H3, bk := D.nx } σ' H2) ∧
      (b = false → ∀ B2 H2, Gr B' H' B2 H2 → D.nx σ' H2)) : tWhile t tb D σ H := by
  refine ⟨fun m σ' H' => ∃ B', Same B' H' ∧ Pv m σ' B' H', ⟨m0, B, s0, h0⟩, ?_⟩
  rintro m σ' H' ⟨B', s, q⟩
  obtain ⟨b, hb, h1, h2⟩ := step m σ' B' H' s q
  refine hb.go s fun B2 H2 g => ?_
  cases b with
  | true =>
    rw [if_pos rfl]
    refine ⟨_, ?_, h1 rfl B2 H2 g⟩
    rintro σ3 H3 ⟨m', B3, hm, s3, q3⟩
    exact ⟨m', hm, B3, s3, q3⟩
  | false => exact h2 rfl B2 H2 g
/-! ### statements -/
variable {D : Ends} {tu tw tz : TS}
theorem s_asg (h : Ev te σ B H P) (s : Same B H) (k : ∀ v B' H', Gr B H B' H' → P v B' → D.nx (σ.set i (some v)) H') : tAsg te (gName i) D σ H := h.go s k
theorem s_asgx (h : Ev te σ B H (RX x)) (s : Same B H) (k : ∀ B' H', Gr B H B' H' → D.nx (σ.set i (some x)) H') : tAsg te (gName i) D σ H := h.go s fun v B' H' g e => by cases e; exact k B' H' g
theorem s_asgM (h : EvM te σ B H PL) (s : Same B H) (k : ∀ p vs B' H', Gr B H B' H' → H p = none → B' p = none → H' p = some (.lst vs) → PL vs B' → D.nx (σ.set i (some (.ref p))) H') : tAsg te (gName i) D σ H := h.go s k
theorem s_ret (h : Ev te σ B H P) (s : Same B H) (k : ∀ v B' H', Gr B H B' H' → P v B' → D.rt v H') : tRet te D σ H := h.go s k
theorem s_drop (h : Ev te σ B H P) (s : Same B H) (k : ∀ v B' H', Gr B H B' H' → P v B' → D.nx σ H') : tDrop te D σ H := h.go s k
theorem s_if (h : EvT t σ B H b) (s : Same B H) (h1 : b = true → ∀ B' H', Gr B H B' H' → tu D σ H') (h2 : b = false → ∀ B' H', Gr B H B' H' → tw D σ H') : tIfS t tu tw D σ H := h.go s fun B' H' g => by
  cases b with
  | true => exact h1 rfl B' H' g
  | false => exact h2 rfl B' H' g
/-- l.append(e), l one's own -/
theorem s_app {to : TE} (ho : Ev to σ B H (RX (.ref a))) (he : Ev te σ B H P) (s : Same B H) (hl : H a = some (.lst vs)) (hz : vs.length < 1000000) (k : ∀ v B' H', Gr B H B' H' → H' a = some (.lst vs) → P v B' → D.nx σ (upd H' a (.lst (vs ++ [v])))) :
    tDrop (tBM K "list" (fun x vs H Q => ∃ l xs y, x = .ref l ∧ vs = [y] ∧ H l = some (.lst xs) ∧ xs.length < sizeLine ∧ Q .non (upd H l (.lst (xs ++ [y])))) to (tCons te tNil)) D σ H :=
  ho.go s fun v1 B1 H1 g1 e1 => by
    cases e1
    exact ⟨.inl ⟨rfl, _, SqL.of (g1.hh _ _ hl)⟩, he B1 H1 g1 _ fun v2 B2 H2 g2 p2 => ⟨a, vs, v2, rfl, rfl, g2.hh _ _ (g1.hh _ _ hl), szl hz, k v2 B2 H2 (g1.trans g2) (g2.hh _ _ (g1.hh _ _ hl)) p2⟩⟩
/-- l.pop(), l one's own, the last item -/
theorem pop_go {to : TE} {Q : VK} {ws : List V} {y : V} (ho : Ev to σ B H (RX (.ref a))) (s : Same B H) (hl : H a = some (.lst (ws ++ [y]))) (k : ∀ B' H', Gr B H B' H' → H' a = some (.lst (ws ++ [y])) → Q y (upd H' a (.lst ws))) :
    tBM0 K "list" (fun x vs H Q => ∃ l xs y, x = .ref l ∧ vs = [] ∧ H l = some (.lst xs) ∧ xs[xs.length - 1]? = some y ∧ Q y (upd H l (.lst xs.dropLast))) to σ H Q :=
  ho.go s fun v1 B1 H1 g1 e1 => by
    cases e1
    have hl1 := g1.hh _ _ hl
    refine ⟨.inl ⟨rfl, _, SqL.of hl1⟩, a, _, y, rfl, rfl, hl1, ?_, ?_⟩
    · rw [List.length_append, List.length_singleton, Nat.add_sub_cancel, List.getElem?_append_right (Nat.le_refl _), Nat.sub_self]; rfl
    · rw [List.dropLast_concat]; exact k B1 H1 g1 hl1
/-- l[i] = e, l one's own -/
theorem s_setL {to ti : TE} {j : Nat} (he : Ev te σ B H P) (ho : Ev to σ B H (RX (.ref a))) (hi : Ev ti σ B H (RX (vn j))) (s : Same B H) (hl : H a = some (.lst vs)) (hj : j < vs.length) [Mn P]
    (k : ∀ v B' H', Gr B H B' H' → H' a = some (.lst vs) → P v B' → D.nx σ (upd H' a (.lst (vs.set j v)))) :
    tAsg te (gSub to ti (fun o i v H Q => ∃ l xs i' j, o = .ref l ∧ i = .int i' ∧ H l = some (.lst xs) ∧ ixN xs.length i' = some j ∧ Q (upd H l (.lst (xs.set j v))))) D σ H :=
  he.go s fun v1 B1 H1 g1 p1 => ho B1 H1 g1 _ fun v2 B2 H2 g2 e2 => hi B2 H2 (g1.trans g2) _ fun v3 B3 H3 g3 e3 => by
    cases e2; cases e3
    have hl3 := g3.hh _ _ (g2.hh _ _ (g1.hh _ _ hl))
    refine ⟨a, vs, _, j, rfl, rfl, hl3, ?_, k v1 B3 H3 ((g1.trans g2).trans g3) hl3 (Mn.mn g3.bb (Mn.mn g2.bb p1))⟩
    unfold ixN
    rw [if_pos (Int.natCast_nonneg _), if_pos (Int.ofNat_lt.mpr hj)]
    rfl
/-! ### dicts of numbers -/
abbrev ky (n : Nat) : Key := .inl (n : Int)
def dts (ks : List Nat) : List (Key × V) := ks.map fun k => (ky k, .bl true)
theorem ky_inj {a b : Nat} (h : ky a = ky b) : a = b := Int.ofNat.inj (Sum.inl.inj h)
theorem kV_ky (n : Nat) : kV (ky n) = vn n := rfl
theorem valV_dts (k : Nat) : ∀ ks : List Nat, valV (dts ks) (ky k) = if k ∈ ks then some (.bl true) else none
  | [] => rfl
  | q :: ks => by
    show valV ((ky q, V.bl true) :: dts ks) (ky k) = _
    by_cases h : q = k
    · subst h
      rw [valV_pos rfl, if_pos (List.mem_cons_self ..)]
    · rw [valV_neg fun e => h (ky_inj e), valV_dts k ks]
      by_cases m : k ∈ ks
      · rw [if_pos m, if_pos (List.mem_cons_of_mem _ m)]
      · rw [if_neg m, if_neg fun z => m ((List.mem_cons.mp z).resolve_left fun e => h e.symm)]
theorem some_dts (k : Nat) (ks : List Nat) : (valV (dts ks) (ky k)).isSome = decide (k ∈ ks) := by
  rw [valV_dts]
  by_cases m : k ∈ ks
  · rw [if_pos m, decide_eq_true m]; rfl
  · rw [if_neg m, decide_eq_false m]; rfl
theorem put_dts_new {k : Nat} {ks : List Nat} (m : k ∉ ks) : putK (dts ks) (ky k) (.bl true) = dts (ks ++ [k]) := by
  rw [putK_new _ (by rw [valV_dts, if_neg m])]
  unfold dts
  rw [List.map_append]; rfl
theorem put_dts_old {k : Nat} {ks : List Nat} (m : k ∈ ks) : putK (dts ks) (ky k) (.bl true) = dts ks := by
  unfold putK
  rw [if_pos (by rw [valV_any, some_dts, decide_eq_true m])]
  unfold dts
  rw [List.map_map]
  refine List.map_congr_left fun q _ => ?_
  show (if ky q = ky k then (ky q, V.bl true) else (ky q, V.bl true)) = _
  rw [ite_self]
/-- put: at the end, or as it was -/
def ins (ks : List Nat) (k : Nat) : List Nat := if k ∈ ks then ks else ks ++ [k]
theorem put_dts (ks : List Nat) (k : Nat) : putK (dts ks) (ky k) (.bl true) = dts (ins ks k) := by
  unfold ins
  by_cases m : k ∈ ks
  · rw [if_pos m, put_dts_old m]
  · rw [if_neg m, put_dts_new m]
theorem len_dts (ks : List Nat) : (dts ks).length = ks.length := List.length_map ..
def VD (ks : List Nat) : VP := fun v H => ∃ a, v = .ref a ∧ H a = some (.dK (dts ks))
instance {ks : List Nat} : Mn (VD ks) := ⟨fun s ⟨a, e, h⟩ => ⟨a, e, s _ _ h⟩⟩
/-- k in d -/
theorem ev_inD {ks : List Nat} (hk : Ev te σ B H (RX (vn n))) (hd : Ev td σ B H (VD ks)) : Ev (tDIn te td) σ B H (RX (.bl (decide (n ∈ ks)))) := fun B1 H1 g1 Q k =>
  hk B1 H1 g1 _ fun v B2 H2 g2 e => hd B2 H2 (g1.trans g2) _ fun w B3 H3 g3 ⟨a, e3, ha⟩ => by
    cases e; subst e3
    exact ⟨a, _, rfl, DGet.k (k := ky n) (g3.sub _ _ ha), k _ B3 H3 (g2.trans g3) (by rw [some_dts]; rfl)⟩
theorem ev_inDM {ks : List Nat} (hk : Ev te σ B H (RX (vn n))) (hd : Ev td σ B H (RX (.ref a))) (h : H a = some (.dK (dts ks))) : Ev (tDIn te td) σ B H (RX (.bl (decide (n ∈ ks)))) := fun B1 H1 g1 Q k =>
  hk B1 H1 g1 _ fun v B2 H2 g2 e => hd B2 H2 (g1.trans g2) _ fun w B3 H3 g3 e3 => by
    cases e; cases e3
    exact ⟨a, _, rfl, DGet.k (k := ky n) (g3.hh _ _ (g2.hh _ _ (g1.hh _ _ h))), k _ B3 H3 (g2.trans g3) (by rw [some_dts]; rfl)⟩
theorem ev_niDM {ks : List Nat} (hk : Ev te σ B H (RX (vn n))) (hd : Ev td σ B H (RX (.ref a))) (h : H a = some (.dK (dts ks))) : Ev (tDNotIn te td) σ B H (RX (.bl (!decide (n ∈ ks)))) := fun B1 H1 g1 Q k =>
  hk B1 H1 g1 _ fun v B2 H2 g2 e => hd B2 H2 (g1.trans g2) _ fun w B3 H3 g3 e3 => by
    cases e; cases e3
    exact ⟨a, _, rfl, DGet.k (k := ky n) (g3.hh _ _ (g2.hh _ _ (g1.hh _ _ h))), k _ B3 H3 (g2.trans g3) (by rw [some_dts]; rfl)⟩
/-- d[k] = True, d one's own -/
theorem s_dput {ks : List Nat} (he : Ev tv σ B H (RX (.bl true))) (hd : Ev td σ B H (RX (.ref a))) (hk : Ev te σ B H (RX (vn n))) (s : Same B H) (h : H a = some (.dK (dts ks))) (hl : ks.length < 1000000)
    (k : ∀ B' H', Gr B H B' H' → H' a = some (.dK (dts ks)) → D.nx σ (upd H' a (.dK (dts (ins ks n))))) : sDPut td te tv D σ H :=
  he.go s fun v1 B1 H1 g1 e1 => hd B1 H1 g1 _ fun v2 B2 H2 g2 e2 => hk B2 H2 (g1.trans g2) _ fun v3 B3 H3 g3 e3 => by
    cases e1; cases e2; cases e3
    have h3 := g3.hh _ _ (g2.hh _ _ (g1.hh _ _ h))
    refine ⟨a, _, rfl, DPut.k (k := ky n) h3 (by rw [len_dts]; exact szl hl), ?_⟩
    rw [put_dts]
    exact k B3 H3 ((g1.trans g2).trans g3) h3
/-- {k: True for k in ..}: the keys one by one -/
def insAll (ks : List Nat) : List Nat := ks.foldl ins []
theorem ins_len (ks : List Nat) (k : Nat) : (ins ks k).length ≤ ks.length + 1 := by
  unfold ins
  split
  · omega
  · rw [List.length_append]; simp
theorem insAll_len (ks : List Nat) : (insAll ks).length ≤ ks.length := by
  have h : ∀ (ks acc : List Nat), (ks.foldl ins acc).length ≤ acc.length + ks.length := by
    intro ks
    induction ks with
    | nil => intro acc; simp
    | cons k ks ih =>
      intro acc
      rw [List.foldl_cons, List.length_cons]
      have := ih (ins acc k)
      have := ins_len acc k
      omega
  have q := h ks []
  rw [List.length_nil, Nat.zero_add] at q
  exact q
theorem mem_ins {ks : List Nat} {k q : Nat} : q ∈ ins ks k ↔ q ∈ ks ∨ q = k := by
  unfold ins
  split
  · rename_i h
    exact ⟨.inl, fun z => z.elim id fun e => e ▸ h⟩
  · rw [List.mem_append, List.mem_singleton]
theorem mem_insAll {ks : List Nat} {q : Nat} : q ∈ insAll ks ↔ q ∈ ks := by
  have h : ∀ (ks acc : List Nat), q ∈ ks.foldl ins acc ↔ q ∈ acc ∨ q ∈ ks := by
    intro ks
    induction ks with
    | nil => intro acc; simp
    | cons k ks ih =>
      intro acc
      rw [List.foldl_cons, ih, mem_ins, List.mem_cons, or_assoc]
  have := h ks []
  simpa [insAll] using this
theorem ins_nodup {ks : List Nat} {k : Nat} (h : ks.Nodup) : (ins ks k).Nodup := by
  unfold ins
  split
  · exact h
  · exact nd_snoc h (by assumption)
theorem insAll_nodup (ks : List Nat) : (insAll ks).Nodup := by
  have h : ∀ (ks acc : List Nat), acc.Nodup → (ks.foldl ins acc).Nodup := by
    intro ks
    induction ks with
    | nil => intro acc h; exact h
    | cons k ks ih => intro acc h; exact ih _ (ins_nodup h)
  exact h ks [] List.nodup_nil
/-- {x: True for x in ns}, the target a name -/
theorem ev_dc {wi : TI} {j : Nat} {ws : List Nat} {ns : List Nat} (hi : EvI wi σ B H RN ns) (hl : ns.length ≤ 900000) (hw : ∀ v, wipe ((wipe σ ws).set j (some v)) ws = wipe σ ws)
    (hj : ∀ v, ((wipe σ ws).set j (some v))[j]? = some (some v)) : Ev (tDc wi (gName j) tYes (tVar j) (tC (.bl true)) ws) σ B H (VD (insAll ns)) := fun B1 H1 g1 Q k => by
  refine hi B1 H1 g1 _ fun J B2 H2 vs g2 r w => fun D hD => ?_
  have hB2 : B2 D = none := none_of_same g2.sub hD
  have rv := r.vals
  refine ⟨fun i m H' => m = ns.length - i ∧ i ≤ ns.length ∧ Gr B2 H2 B2 H' ∧ H' D = some (.dK (dts ((ns.take i).foldl ins []))), ⟨ns.length, by simp, Nat.zero_le _, Gr.newM g2.sub hD, upd_same⟩, ?_⟩
  rintro i m H' ⟨rfl, hle, g', hd⟩
  by_cases hlt : i < ns.length
  · refine .inr ⟨w.goes i H' hlt g'.sub, fun H'' => i + 1 ≤ ns.length ∧ Gr B2 H2 B2 H'' ∧ H'' D = some (.dK (dts ((ns.take (i + 1)).foldl ins []))), ?_, fun x H'' y => ?_⟩
    · rintro H'' ⟨h1, h2, h3⟩
      exact ⟨ns.length - (i + 1), by omega, rfl, h1, h2, h3⟩
    · obtain ⟨e, hx⟩ := w.yields i H' x H'' hlt g'.sub y
      subst e
      have ex : ns[i]? = some ns[i] := List.getElem?_eq_getElem hlt
      have exv : x = vn ns[i] := by
        rw [rv, List.getElem?_map, ex] at hx
        exact (Option.some.inj hx).symm
      refine ⟨hw x, ?_⟩
      dsimp only [tYes]
      rw [if_pos rfl]
      refine ⟨x, hj x, dts ((ns.take i).foldl ins []), ky ns[i], exv, hd, ?_, hlt, g'.put hD hB2, ?_⟩
      · rw [len_dts]
        have h1 := insAll_len (ns.take i)
        have h2 : (ns.take i).length ≤ ns.length := by rw [List.length_take]; omega
        unfold insAll at h1
        exact szl (by omega)
      · rw [upd_same, put_dts, List.take_add_one, ex, List.foldl_append]
        rfl
  · have e : i = ns.length := by omega
    subst e
    refine .inl ⟨w.stops H' g'.sub, ?_⟩
    rw [List.take_length] at hd
    exact k _ (upd B2 D (.dK (dts (insAll ns)))) H' (g2.trans (g'.settle hD hB2 hd)) ⟨D, rfl, upd_same⟩
end
end Lw
/-! Lc: the text by places, defs under their names. -/
namespace Lw
open PySem PySem.Spec PyProof.Rows L2
def tp (i : Nat) : Stmt := PySem.Challenge.pw_storelands_k81_whole_which_lands_bear.main.body.getD i (.Pass ⟨0, 0, 0, 0⟩)
/-- the def st, called nm in the text, stands under the module's name x -/
structure Dn (K : PySem.W.Frag) (mg : Str → Option Value) (x nm : Str) (st : Stmt) : Prop where
  ex : ∃ f fd, Fun K nm nm st f fd ∧ mg x = some (.ref f)
/-- .. it may be called, and keeps sp -/
structure Cal (P : Program) (w : World) (K : PySem.W.Frag) (mg : Str → Option Value) (base : Heap) (k : Nat) (x : Str) (sp : Sp) : Prop where
  ex : ∃ f fd ps, FnOk P w K mg base CX0 k f fd ps sp ∧ mg x = some (.ref f) ∧ PySem.W.keepIn K (.ref f) = true ∧ Binds K fd ps []
section
variable {P : Program} {w : World} {K : PySem.W.Frag} {mg : Str → Option Value} {base : Heap}
theorem cal_of {x nm : Str} {st : Stmt} {N ps : List Str} {k : Nat} {sp : Sp} (D : Dn K mg x nm st) (S : FnScope N ps (defScope st))
    (hb : ∀ (kV doc pm : Value) (an : Option Addr) (cdv ct : Value) (us : List Value), us.length = ps.length → bindArgs (PySem.W.fnOf nm nm (defArgs st) (defBody st) (defScope st) .none kV doc pm an cdv ct) ⟨us, []⟩ = pure (ps.zip us))
    (len : ∀ vs H Q E, sp vs H Q E → vs.length = ps.length)
    (body : ∀ (cdv : Value) (A : Around) (outer : List Env) (s : Shared) (f : Addr) (H : Hp) (vs : List V) (Q : VK) (E : XK), Room k (A.deeper (envOfC nm (defScope st) s.heap.objs.size f cdv)) → sp vs H Q E →
      ∃ t, PSs (cxOf CX0 P w K mg base N nm (defScope st) f cdv A outer s H E).nox (defBody st) t ∧ t { nx := fun _ H' => Q .non H', rt := Q } (start N vs) H) : Cal P w K mg base (k + 1) x sp := by
  obtain ⟨f, fd, F, m⟩ := D.ex
  exact ⟨f, fd, ps, F.ok S len fun cdv A outer s H vs Q E hr h => body cdv A outer s f H vs Q E hr h, m, F.kp, F.binds hb⟩
theorem dn_mk {h : Heap} {x nm : Str} {st : Stmt} {f : Addr} {oc : Value} {od an : Option Addr} {osl : Array (Option Value)} {kV doc pm cdv ct : Value} (X : K.In h) (G : h.Ns mainGlobals mg)
    (a : PySem.W.nsIn K mainGlobals x = some (some (.ref f)))
    (l : K.lookup f = some ⟨oc, od, .func (PySem.W.fnOf nm nm (defArgs st) (defBody st) (defScope st) .none kV doc pm an cdv ct), osl⟩)
    (c : PySem.W.codeIn K cdv nm = true) (k : PySem.W.keepIn K (.ref f) = true) : Dn K mg x nm st :=
  ⟨f, _, fun_mk l c k, PySem.W.mg_of X G a⟩
end
section
variable {X : Cx} {k j : Nat} {x : Str} {sp : Sp} {p pos : Pos} {e : Expr} {es : List Expr} {t : TA}
theorem pe_k (c : Cal X.prog X.w X.K X.mg X.base k x sp) (hr : Room j X.A) (hk : k ≤ j) (hg : Gl X x) (ha : PA X (e :: es) t)
    (hdb : (x == ("__debug__" : Str)) = false := by decide) (he : starEach (e :: es) X.env = (false, eval e X.env) :: starEach es X.env := by rfl) (hpl : (backTo pos (starEach es X.env)).any (·.1) = false := by rfl) :
    PE X (.Call (.Name x p) (e :: es) [] pos) (tCall sp [] E0 t) := by
  obtain ⟨f, fd, ps, F, hm, hk', hb⟩ := c.ex
  exact pe_call F (hr.mono hk) hg hm hk' hb .nil pass0 ha hdb he hpl
end
end Lw
/-! Lr: rules that the layer lacks. -/
namespace Lw
open PySem PySem.Spec PyProof.Rows L2
section
variable {X : Cx}
theorem Room.units65 {k : Nat} {A : Around} (r : Room k A) : A.units + 65 < cLine := Nat.lt_of_le_of_lt (by omega) r.un
/-- t >= u of two pairs of numbers -/
def geP (p q : Nat × Nat) : Bool := if p.1 = q.1 then decide (q.2 ≤ p.2) else decide (q.1 ≤ p.1)
def rGeP (K : PySem.W.Frag) : R2 := fun x y H Q => ∃ (a b : Addr) (p q : Nat × Nat), x = .ref a ∧ y = .ref b ∧ SqT K H a [vn p.1, vn p.2] ∧ SqT K H b [vn q.1, vn q.2] ∧ Q (.bl (geP p q)) H
theorem op_geT (hu : X.A.units + 1 < cLine) : OpR X (compareOp .GtE) (rGeP X.K) := by
  intro pins s σ H x y v u Q I rx ry h
  obtain ⟨a, b, p, q, rfl, rfl, ha, hb, hq⟩ := h
  cases rx
  cases ry
  obtain ⟨its, r1, p1, _⟩ := I.tuple ha
  obtain ⟨its2, r2, p2, _⟩ := I.tuple hb
  cases r1 with
  | cons k1 t1 =>
  cases t1 with
  | cons k2 t2 =>
  cases t2
  cases r2 with
  | cons l1 u1 =>
  cases u1 with
  | cons l2 u2 =>
  cases u2
  obtain ⟨z1, rfl⟩ := k1
  obtain ⟨z2, rfl⟩ := k2
  obtain ⟨y1, rfl⟩ := l1
  obtain ⟨y2, rfl⟩ := l2
  have dz : ∀ m n : Nat, (((m : Int) == (n : Int)) : Bool) = decide (m = n) := fun m n => by
    by_cases e : m = n
    · subst e; simp
    · rw [decide_eq_false e]; exact beq_eq_false_iff_ne.mpr fun z => e (Int.ofNat.inj z)
  have R := Ob.RcOp.tuples_ge (A := X.A) (s := s) (e := fun j => if j = 0 then decide (p.1 = q.1) else decide (p.2 = q.2)) (r := fun j => if j = 0 then decide (q.1 ≤ p.1) else decide (q.2 ≤ p.2)) p1 p2 (by omega) (fun j h1 h2 => by
    match j, h1 with
    | 0, _ =>
      show SeqAt.EqAt _ _ (Value.int _ z1) (Value.int _ y1) (decide (p.1 = q.1))
      rw [← dz]; exact SeqAt.EqAt.int_int _ _ _ _
    | 1, _ =>
      show SeqAt.EqAt _ _ (Value.int _ z2) (Value.int _ y2) (decide (p.2 = q.2))
      rw [← dz]; exact SeqAt.EqAt.int_int _ _ _ _
    | j + 2, h1 => exact absurd h1 (by simp)) (fun j h1 h2 _ => by
    match j, h1 with
    | 0, _ =>
      show Ob.RcOp .GtE _ _ (Value.int _ z1) (Value.int _ y1) (decide (q.1 ≤ p.1))
      rw [show decide (q.1 ≤ p.1) = decide ((q.1 : Int) ≤ (p.1 : Int)) by simp]; exact Ob.RcOp.ge_int _ _ _ _
    | 1, _ =>
      show Ob.RcOp .GtE _ _ (Value.int _ z2) (Value.int _ y2) (decide (q.2 ≤ p.2))
      rw [show decide (q.2 ≤ p.2) = decide ((q.2 : Int) ≤ (p.2 : Int)) by simp]; exact Ob.RcOp.ge_int _ _ _ _
    | j + 2, h1 => exact absurd h1 (by simp))
  have z : wpAny (model X.prog X.w) X.A (compareOp .GtE (.ref a) (.ref b)) (EP X pins σ Q) X.xe s := R X.prog X.w X.xe (EP X pins σ Q) ⟨.bl (geP p q), H, I, by
    show Value.bool _ = Value.bool _
    congr 1
    unfold geP
    show Ob.lexAt _ _ _ 0 2 = _
    rw [Ob.lexAt_succ, Ob.lexAt_succ, Ob.lexAt_zero]
    by_cases e : p.1 = q.1
    · simp [e]
      intro e2; omega
    · simp [e], hq⟩
  exact z
/-! ### the layer's rules with K told -/
section
variable (K : PySem.W.Frag)
theorem ixL (h : X.K = K := by rfl) : IxR X (rIxL K) := h ▸ ix_list
theorem ixT (h : X.K = K := by rfl) : IxR X (rIxT K) := h ▸ ix_tup
theorem lenS (h : X.K = K := by rfl) : CallR X (.builtin "len") (fun xs H Q => ∃ p ys, xs = [.ref p] ∧ (SqL K H p ys ∨ SqT K H p ys) ∧ Q (.int ys.length) H) := h ▸ call_len_seq
theorem isiK (h : X.K = K := by rfl) : CallR X (.builtin "isinstance") (rIsi K) := h ▸ call_isi
theorem inS (h : X.K = K := by rfl) : OpR X (compareOp .In) (rIn K false) := h ▸ op_in_seq
theorem notInS (h : X.K = K := by rfl) : OpR X (compareOp .NotIn) (rIn K true) := h ▸ op_notIn_seq
theorem eqD (hu : X.A.units + 64 < cLine) (h : X.K = K := by rfl) : OpR X (compareOp .Eq) (rEqD K) := h ▸ op_eqD hu
theorem neD (hu : X.A.units + 64 < cLine) (h : X.K = K := by rfl) : OpR X (compareOp .NotEq) (rNeD K) := h ▸ op_neD hu
theorem inD (hu : X.A.units + 65 < cLine) (h : X.K = K := by rfl) : OpR X (compareOp .In) (rInD K) := h ▸ op_inD hu
theorem notInD (hu : X.A.units + 65 < cLine) (h : X.K = K := by rfl) : OpR X (compareOp .NotIn) (rNotInD K) := h ▸ op_notInD hu
theorem geT (hu : X.A.units + 1 < cLine) (h : X.K = K := by rfl) : OpR X (compareOp .GtE) (rGeP K) := h ▸ op_geT hu
theorem allK (hc : X.calm = true) (h : X.K = K := by rfl) : CallR X (.builtin "all") (rAll K) := h ▸ cr_all hc
theorem anyK (hc : X.calm = true) (h : X.K = K := by rfl) : CallR X (.builtin "any") (rAny K) := h ▸ cr_any hc
theorem sumK (hc : X.calm = true) (h : X.K = K := by rfl) : CallR X (.builtin "sum") (rSum K) := h ▸ cr_sum hc
theorem catA (h : X.K = K := by rfl) : OpR X (binaryOp .Add) (rCatA K) := h ▸ op_catA
theorem tupOf (h : X.K = K := by rfl) : CallR X (.type "tuple") (fun xs H Q => ∃ p ys, xs = [.ref p] ∧ ((SqL K H p ys ∧ ∀ l, H l = none → Q (.ref l) (upd H l (.tup ys))) ∨ (SqT K H p ys ∧ Q (.ref p) H))) := h ▸ call_tuple_of
theorem lstOf (h : X.K = K := by rfl) : CallR X (.type "list") (fun xs H Q => ∃ p ys, xs = [.ref p] ∧ (SqL K H p ys ∨ SqT K H p ys) ∧ ∀ l, H l = none → Q (.ref l) (upd H l (.lst ys))) := h ▸ call_list_of
theorem srtI (h : X.K = K := by rfl) : CallR X (.builtin "sorted") (rSortedI K) := h ▸ cr_sortedI
theorem srtP (h : X.K = K := by rfl) : CallR X (.builtin "sorted") (rSortedPO K) := h ▸ cr_sortedPO
theorem slL (h : X.K = K := by rfl) : SlR X (rSlL K) := h ▸ sl_list
theorem piL {tg l : Expr} {tl : TE} (hl : PE X l tl) (h : X.K = K := by rfl) : PI X tg l (iList K tl) := h ▸ pi_list hl
theorem piT {tg l : Expr} {tl : TE} (hl : PE X l tl) (h : X.K = K := by rfl) : PI X tg l (iTup K tl) := h ▸ pi_tup hl
theorem piRev {tg e : Expr} {ta : TA} {p pos : Pos} (hg : Gl X "reversed") (hm : X.mg "reversed" = none) (ha : PA X [e] ta) (hs : starEach [e] X.env = [(false, eval e X.env)] := by rfl) (h : X.K = K := by rfl) : PI X tg (.Call (.Name "reversed" p) [e] [] pos) (iRev K ta) := h ▸ pi_reversed hg hm ha hs
theorem pgT {es : List Expr} {k : Nat} {t : TGs} {n : Nat} {pos : Pos} (hc : X.calm = true) (hp : PGs X es t)
    (hn : (assignEach es X.env).length = n := by rfl) (hst : (assignEach es X.env).findIdx? (·.1) = none := by rfl) (h : X.K = K := by rfl) : PG X (.Tuple es k pos) (gTup K n t) := h ▸ pg_tup hc hp hn hst
theorem fldK {e : Expr} {ta : TE} {f : Str} {pos : Pos} (he : PE X e ta) (hb : attributeBase e f X.env (eval e X.env) = eval e X.env) (h : X.K = K := by rfl) : PE X (.Attribute e f pos) (tFld K ta f) := h ▸ pe_fld he hb
theorem revK {e : Expr} {te : TE} {k : Nat} {p1 p2 p3 pos : Pos} (he : PE X e te) (h : X.K = K := by rfl) : PE X (.Subscript e (.Slice none none (some (.UnaryOp .USub (.Constant (.int 1) k p1) p2)) p3) pos) (tRevL K te) := h ▸ pe_revL he
theorem bmK {T name id : String} {o e : Expr} {es : List Expr} {to : TE} {t : TA} {apos cpos : Pos} {r} (pa : PlainAttrs T) (slot : Slot T name id) (hty : typeOf (.builtin id) = pure (.type "method_descriptor")) (hm : MtR X id r) (ho : PE X o to) (ha : PA X (e :: es) t)
    (hbase : attributeBase o name X.env (eval o X.env) = eval o X.env := by rfl)
    (hfew : ((backTo cpos (starEach (e :: es) X.env)).all (fun x => !x.1) && (backToKw cpos (keywordEach [] X.env)).all (fun x => x.1.isSome)
      && decide ((e :: es).length + ([] : List Keyword).length + (if ([] : List Keyword).isEmpty then 0 else 1) < 30)) = true := by rfl)
    (hline : (apos.endLine == cpos.line) = true := by rfl) (hs : starEach (e :: es) X.env = (false, eval e X.env) :: starEach es X.env := by rfl) (hplain : (backTo cpos (starEach es X.env)).any (·.1) = false := by rfl) (h : X.K = K := by rfl) :
    PE X (.Call (.Attribute o name apos) (e :: es) [] cpos) (tBM K T r to t) := h ▸ pe_bm pa slot hty hm ho ha hbase hfew hline hs hplain
theorem bmK0 {T name id : String} {o : Expr} {to : TE} {apos cpos : Pos} {r} (pa : PlainAttrs T) (slot : Slot T name id) (hty : typeOf (.builtin id) = pure (.type "method_descriptor")) (hm : MtR X id r) (ho : PE X o to)
    (hbase : attributeBase o name X.env (eval o X.env) = eval o X.env := by rfl) (hline : (apos.endLine == cpos.line) = true := by rfl) (h : X.K = K := by rfl) : PE X (.Call (.Attribute o name apos) [] [] cpos) (tBM0 K T r to) := h ▸ pe_bm0 pa slot hty hm ho hbase hline
end
/-! ### name = {k: v for ..} on one line, the name a local -/
theorem sw_trueD {kx vx : Expr} {gs : List Comprehension} {scope : Scope} {pos py : Pos} {y : Str} {l : Nat} {env : Env} (k1 : env.scope.kind = .function) (k2 : env.scope.names.lookup y = some .local)
    (k3 : (py.line == pos.line) = true) (k4 : (scope.names.any fun (n, k) => n == y && (k == .local || k == .cell)) = false) : swapsWith (.DictComp kx vx gs scope pos) (some (.Name y py)) l env = pure true := by
  have e1 : env.kindOf y = some .local := k2
  have e2 : env.blockKind = .function := by
    unfold Env.blockKind
    rw [k1]; rfl
  unfold swapsWith
  simp only [e2, e1, k4, Expr.pos, k3]
  rfl
theorem ps_setDc {i : Nat} {y : Str} {py pos spos : Pos} {kx vx tg iter : Expr} {ifs : List Expr} {scope : Scope} {own : List (Str × Nat)} {wi : TI} {g : TG} {tt : TT} {tk tv : TE}
    (hc : X.calm = true) (hN : X.N.Nodup) (hy : X.N[i]? = some y) (hl : X.env.scope.names.lookup y = some .local)
    (sw : swapsWith (.DictComp kx vx [⟨tg, iter, ifs, 0⟩] scope pos) (some (.Name y py)) spos.line X.env = pure true)
    (hi : PI X tg iter wi) (ok : BlkOk X.N X.env.scope scope own)
    (hg : ∀ (s : Shared) (H : Hp) (C : Addr) (cl : List (Str × Addr)) (fp : List Addr), PG (X.blk s H scope (compEnvC scope cl C X.env) fp) tg g)
    (ht : ∀ (s : Shared) (H : Hp) (C : Addr) (cl : List (Str × Addr)) (fp : List Addr), PTs (X.blk s H scope (compEnvC scope cl C X.env) fp) ifs tt)
    (hk : ∀ (s : Shared) (H : Hp) (C : Addr) (cl : List (Str × Addr)) (fp : List Addr), PE (X.blk s H scope (compEnvC scope cl C X.env) fp) kx tk)
    (he : ∀ (s : Shared) (H : Hp) (C : Addr) (cl : List (Str × Addr)) (fp : List Addr), PE (X.blk s H scope (compEnvC scope cl C X.env) fp) vx tv)
    (hf : ∀ x, foldedSetIterable iter X.env x = pure x := by intro _; rfl) :
    PS X (.Assign [.Name y py] (.DictComp kx vx [⟨tg, iter, ifs, 0⟩] scope pos) spos) (tAsg (tDc wi g tt tk tv (own.map (·.2))) (gName i)) := by
  constructor
  intro pins s σ H D I h
  rw [exec_Assign_Name_used _ _ _ _ sw]
  apply wpAny_bind
  apply wpAny_standAt
  apply wpAny_bind
  show wpAny _ X.A (do let _ ← comprehension (.DictComp kx vx [⟨tg, iter, ifs, 0⟩] scope pos) scope X.env (firstIterPos [⟨tg, iter, ifs, 0⟩] pos) newDict false (eval iter X.env) (some (assign (.Name y py) X.env))) _ _ s
  have h2 : tDc wi g tt tk tv (own.map (·.2)) σ H (fun x H1 => gName i x σ H1 D.nx) := h
  apply wpAny_bind
  refine thn (dc_core (Qf := fun _ s1 => SP X pins D .next s1) hc hN I hi ok hg ht hk he hf h2 fun L C s1 m H1 I1 q hn f => ?_) (fun _ s1 hq => wpAny_pure (wpAny_pure hq))
  show wpAny _ _ (assign (.Name y py) X.env (.ref L)) _ _ _
  apply wpAny_assign_Name
  refine store_ok2 (v := V.ref L) I1 hN hy (.inl hl) rfl (fun s2 I2 ⟨a, sb, ha⟩ => ?_) (.inr hl)
  obtain ⟨q0, q1, q2, q3, q4, q5⟩ := f
  have ne : C ≠ a := ha.elim (fun z => z ▸ q1) (fun z e => q4 y a z e.symm)
  exact ⟨m, hn.sameBut sb ne, fun h3 sb3 => ⟨_, H1, I2.turned (t' := s2.toks) (fun b o hb e => (sb3.2 b hb).trans e) q0 q1 q3 q4 q5, q⟩⟩
end
end Lw
/-! Ld: the checks. -/
namespace Lw
open PySem PySem.Spec PyProof.Rows L2
/-- the built-ins are themselves, the constants as written -/
structure Tx (mg : Str → Option Value) : Prop where
  isinstance : mg "isinstance" = none
  int : mg "int" = none
  bool : mg "bool" = none
  tuple : mg "tuple" = none
  list : mg "list" = none
  set : mg "set" = none
  len : mg "len" = none
  all : mg "all" = none
  any : mg "any" = none
  range : mg "range" = none
  sorted : mg "sorted" = none
  sum : mg "sum" = none
  min : mg "min" = none
  max : mg "max" = none
  abs : mg "abs" = none
  enumerate : mg "enumerate" = none
  reversed : mg "reversed" = none
  MOST_CONTENTS : ∃ t, mg "MOST_CONTENTS" = some (.int 8 t)
  MOST_TIES : ∃ t, mg "MOST_TIES" = some (.int 28 t)
  MOST_STANDINGS : ∃ t, mg "MOST_STANDINGS" = some (.int 10000 t)
  MOST_PUSHES : ∃ t, mg "MOST_PUSHES" = some (.int 100000 t)
  MOST_BROKEN : ∃ t, mg "MOST_BROKEN" = some (.int 3 t)
  MOST_TOGETHER : ∃ t, mg "MOST_TOGETHER" = some (.int 40 t)
section
variable {P : Program} {w : World} {K : PySem.W.Frag} {mg : Str → Option Value} {base : Heap}
variable {B H B1 H1 B2 H2 B' H' : Hp} {σ : Slo} {te ta tb : TE} {a b : Bool} {x : V}
/-- isinstance(x, T) -/
theorem ev_isi {t : Value} {n : String} (h : Ev te σ B H (RX x)) (ty : ∀ B' H', Gr B H B' H' → TyX K H' x t) (k : PySem.W.kitOne K t (.type n) = some b) :
    Ev (tCB (rIsi K) (tCons te (tCons (tC (.ty n)) tNil))) σ B H (RX (.bl b)) :=
  ev_cbx (ea_x h (ea_x ev_c ea_nil)) fun vs B' H' g e Q q => ⟨x, .ty n, t, .type n, b, e, .ty n, ty B' H' g, k, q⟩
abbrev spInteger : Sp := Pr fun vs _ P => ∃ i : Int, vs = [.int i] ∧ P = RX (.bl true)
theorem sc_is_integer : FnScope ["thing"] ["thing"] (defScope (tp 1)) := ⟨rfl, rfl, rfl, by decide +kernel, rfl, by decide +kernel, by decide +kernel⟩
theorem ok_is_integer (D : Dn K mg "is_integer" "is_integer" (tp 1)) (T : Tx mg) : Cal P w K mg base 1 "is_integer" spInteger := by
  refine cal_of D sc_is_integer (fun _ _ _ _ _ _ us hl => match us, hl with | [_], _ => rfl) (fun vs H Q E h => ?_) (fun cdv A outer s f H vs Q E hr h => ?_)
  · obtain ⟨B, P, s, ⟨i, rfl, _⟩, _⟩ := h
    rfl
  · obtain ⟨B, P, s0, ⟨i, rfl, rfl⟩, k⟩ := h
    refine ⟨_, (pss_one (ps_ret (pe_and (pe_callB call_isi (by rfl) T.isinstance (by decide +kernel) (pa_cons (pv 0) (pa_cons (pe_bltn (v := .ty "int") (u := .type "int") (by rfl) T.int (by decide +kernel) rfl) pa_nil))) (pe_one (pe_not (pe_callB call_isi (by rfl) T.isinstance (by decide +kernel) (pa_cons (pv 0) (pa_cons (pe_bltn (v := .ty "bool") (u := .type "bool") (by rfl) T.bool (by decide +kernel) rfl) pa_nil)))))))), ?_⟩
    exact s_ret ((ev_and (ev_isi (b := true) (evx 0 rfl) (fun _ _ _ => .base (.int i)) (kit_ty (by decide +kernel))) fun _ => ev_not (ev_isi (b := false) (evx 0 rfl) (fun _ _ _ => .base (.int i)) (kit_ty (by decide +kernel))))) s0 k
abbrev spWithin : Sp := Pr fun vs _ P => ∃ i j k : Int, vs = [.int i, .int j, .int k] ∧ P = RX (.bl (decide (j ≤ i) && decide (i ≤ k)))
theorem sc_is_within : FnScope ["thing", "least", "most"] ["thing", "least", "most"] (defScope (tp 2)) := ⟨rfl, rfl, rfl, by decide +kernel, rfl, by decide +kernel, by decide +kernel⟩
theorem ok_is_within (D : Dn K mg "is_within" "is_within" (tp 2)) (T : Tx mg) (c_is_integer : Cal P w K mg base 1 "is_integer" spInteger) : Cal P w K mg base 2 "is_within" spWithin := by
  refine cal_of D sc_is_within (fun _ _ _ _ _ _ us hl => match us, hl with | [_, _, _], _ => rfl) (fun vs H Q E h => ?_) (fun cdv A outer s f H vs Q E hr h => ?_)
  · obtain ⟨B, P, s, ⟨i, j, k, rfl, _⟩, _⟩ := h
    rfl
  · obtain ⟨B, P, s0, ⟨i, j, k, rfl, rfl⟩, q⟩ := h
    refine ⟨_, (pss_one (ps_ret (pe_and (pe_k c_is_integer hr (by decide) rfl (pa_cons (pv 0) pa_nil)) (pe_one (pe_chain op_le op_le (pv 1) (pv 0) (pv 2)))))), ?_⟩
    exact s_ret (ev_and (b := true) (ev_call (ea_x (evx 0 rfl) ea_nil) fun vs B' _ e => ⟨i, by cases e; rfl, rfl⟩) fun _ => ev_chainI (evx 1 rfl) (evx 0 rfl) (evx 2 rfl)) s0 q
end
end Lw
/-! Lm: reaching, plain. -/
namespace Lw
abbrev Rel := Nat → Nat → Prop
/-- b is reached from a by steps into S -/
inductive Rch (adj : Rel) (S : Nat → Prop) (a : Nat) : Nat → Prop
  | refl : Rch adj S a a
  | step {b c : Nat} : Rch adj S a b → adj b c → S c → Rch adj S a c
section
variable {adj : Rel} {S S' : Nat → Prop} {a b c : Nat}
theorem Rch.trans (h : Rch adj S a b) (k : Rch adj S b c) : Rch adj S a c := by
  induction k with
  | refl => exact h
  | step _ e s ih => exact .step ih e s
theorem Rch.mono (h : Rch adj S a b) (k : ∀ x, S x → S' x) : Rch adj S' a b := by
  induction h with
  | refl => exact .refl
  | step _ e s ih => exact .step ih e (k _ s)
theorem Rch.mem (h : Rch adj S a b) (ha : S a) : S b := by
  cases h with
  | refl => exact ha
  | step _ _ s => exact s
theorem Rch.symm (sy : ∀ x y, adj x y → adj y x) (h : Rch adj S a b) (ha : S a) : Rch adj S b a := by
  induction h with
  | refl => exact .refl
  | step h e s ih => exact (Rch.step .refl (sy _ _ e) (h.mem ha)).trans ih
theorem Rch.congr {adj' : Rel} (h : Rch adj S a b) (k : ∀ x y, adj x y → adj' x y) : Rch adj' S a b := by
  induction h with
  | refl => exact .refl
  | step _ e s ih => exact .step ih (k _ _ e) s
/-- what a search holds between two turns: ks met, todo waiting -/
structure Sr (adj : Rel) (S : Nat → Prop) (a : Nat) (ks todo : List Nat) : Prop where
  nd : ks.Nodup
  rch : ∀ k ∈ ks, Rch adj S a k
  st : a ∈ ks
  sub : ∀ t ∈ todo, t ∈ ks
  cl : ∀ k ∈ ks, k ∉ todo → ∀ c, adj k c → S c → c ∈ ks
theorem Sr.start : Sr adj S a [a] [a] :=
  ⟨List.nodup_cons.mpr ⟨by simp, List.nodup_nil⟩, fun k hk => by rw [List.mem_singleton.mp hk]; exact .refl, List.mem_singleton.mpr rfl, fun _ h => h, fun k hk hn => absurd hk hn⟩
theorem Sr.all {ks : List Nat} (h : Sr adj S a ks []) (k : Nat) : k ∈ ks ↔ Rch adj S a k := by
  refine ⟨h.rch k, fun r => ?_⟩
  induction r with
  | refl => exact h.st
  | step _ e s ih => exact h.cl _ ih (by simp) _ e s
/-- .. within a turn: q is out, its row up to here is met -/
structure St1 (adj : Rel) (S : Nat → Prop) (a q : Nat) (row : List Nat) (ks todo : List Nat) : Prop where
  nd : ks.Nodup
  rch : ∀ k ∈ ks, Rch adj S a k
  st : a ∈ ks
  qm : q ∈ ks
  sub : ∀ t ∈ todo, t ∈ ks
  cl : ∀ k ∈ ks, k ∉ todo → k ≠ q → ∀ c, adj k c → S c → c ∈ ks
  row : ∀ c ∈ row, S c → c ∈ ks
theorem Sr.out {ks todo : List Nat} {q : Nat} (h : Sr adj S a ks (todo ++ [q])) : St1 adj S a q [] ks todo :=
  ⟨h.nd, h.rch, h.st, h.sub q (by simp), fun t m => h.sub t (by simp [m]), fun k m n e => h.cl k m (by simp [n, e]), fun _ m => absurd m (by simp)⟩
theorem St1.back {ks todo row : List Nat} {q : Nat} (h : St1 adj S a q row ks todo) (hr : ∀ c, adj q c → c ∈ row) : Sr adj S a ks todo :=
  ⟨h.nd, h.rch, h.st, h.sub, fun k m n c e s => by
    by_cases hk : k = q
    · subst hk; exact h.row c (hr c e) s
    · exact h.cl k m n hk c e s⟩
theorem St1.old {ks todo row : List Nat} {q x : Nat} (h : St1 adj S a q row ks todo) (hx : S x → x ∈ ks) : St1 adj S a q (row ++ [x]) ks todo :=
  ⟨h.nd, h.rch, h.st, h.qm, h.sub, h.cl, fun c m s => by
    rcases List.mem_append.mp m with m | m
    · exact h.row c m s
    · rw [List.mem_singleton.mp m] at s ⊢; exact hx s⟩
theorem nodup_snoc {l : List Nat} {x : Nat} (h : l.Nodup) (hx : x ∉ l) : (l ++ [x]).Nodup := by
  rw [List.nodup_append]
  refine ⟨h, List.nodup_cons.mpr ⟨by simp, List.nodup_nil⟩, fun a ha b hb e => ?_⟩
  rw [List.mem_singleton.mp hb] at e
  exact hx (e ▸ ha)
theorem St1.new {ks todo row : List Nat} {q x : Nat} (h : St1 adj S a q row ks todo) (hx : x ∉ ks) (s : S x) (e : adj q x) : St1 adj S a q (row ++ [x]) (ks ++ [x]) (todo ++ [x]) :=
  ⟨nodup_snoc h.nd hx, fun k m => by
    rcases List.mem_append.mp m with m | m
    · exact h.rch k m
    · rw [List.mem_singleton.mp m]; exact .step (h.rch q h.qm) e s,
   by simp [h.st], by simp [h.qm], fun t m => by
    rcases List.mem_append.mp m with m | m
    · simp [h.sub t m]
    · simp [List.mem_singleton.mp m],
   fun k m n ne c e s => by
    rcases List.mem_append.mp m with m | m
    · simp [h.cl k m (fun z => n (by simp [z])) ne c e s]
    · exact absurd (List.mem_append.mpr (.inr m)) n,
   fun c m s => by
    rcases List.mem_append.mp m with m | m
    · simp [h.row c m s]
    · simp [List.mem_singleton.mp m]⟩
theorem nodup_le : ∀ {l m : List Nat}, l.Nodup → (∀ x ∈ l, x ∈ m) → l.length ≤ m.length
  | [], _, _, _ => Nat.zero_le _
  | x :: l, m, h, k => by
    obtain ⟨h1, h2⟩ := List.nodup_cons.mp h
    have hx : x ∈ m := k x (List.mem_cons_self ..)
    have hm : 0 < m.length := List.length_pos_of_mem hx
    have h3 : l.length ≤ (m.erase x).length := nodup_le h2 fun y hy => (List.mem_erase_of_ne (fun e : y = x => h1 (e ▸ hy))).mpr (k y (List.mem_cons_of_mem _ hy))
    rw [List.length_erase_of_mem hx] at h3
    rw [List.length_cons]
    omega
/-- the number that falls: places left -/
theorem Sr.le {ks todo ins : List Nat} (h : Sr adj (· ∈ ins) a ks todo) : ks.length ≤ ins.length + 1 :=
  nodup_le (m := a :: ins) h.nd fun x m => by
    have r := h.rch x m
    cases r with
    | refl => exact List.mem_cons_self ..
    | step _ _ s => exact List.mem_cons_of_mem _ s
theorem St1.le {ks todo row ins : List Nat} {q : Nat} (h : St1 adj (· ∈ ins) a q row ks todo) : ks.length ≤ ins.length + 1 :=
  nodup_le (m := a :: ins) h.nd fun x m => by
    have r := h.rch x m
    cases r with
    | refl => exact List.mem_cons_self ..
    | step _ _ s => exact List.mem_cons_of_mem _ s
end
/-- beside one another by these pushes; rows that tell it -/
def Adj (ps : List (Nat × Nat)) : Rel := fun v x => (v, x) ∈ ps ∨ (x, v) ∈ ps
theorem Adj.symm {ps : List (Nat × Nat)} (a b : Nat) (h : Adj ps a b) : Adj ps b a := h.elim .inr .inl
def ltp (p q : Nat × Nat) : Prop := p.1 < q.1 ∨ (p.1 = q.1 ∧ p.2 < q.2)
/-- ascending pairs of numbers below n, the first one less -/
structure PsOk (n : Nat) (ps : List (Nat × Nat)) : Prop where
  asc : ps.Pairwise ltp
  lt : ∀ p ∈ ps, p.1 < p.2 ∧ p.2 < n
structure RowsOk (n : Nat) (ps : List (Nat × Nat)) (rows : List (List Nat)) : Prop where
  len : rows.length = n
  mem : ∀ v r, rows[v]? = some r → ∀ x, x ∈ r ↔ Adj ps v x
  short : ∀ r ∈ rows, r.length ≤ 2 * ps.length
  nd : PsOk n ps → ∀ r ∈ rows, r.Nodup
theorem Adj.lt {n : Nat} {ps : List (Nat × Nat)} (h : PsOk n ps) {a b : Nat} (e : Adj ps a b) : a < n ∧ b < n := by
  rcases e with e | e
  · have := h.lt _ e; simp only at this; omega
  · have := h.lt _ e; simp only at this; omega
theorem RowsOk.at {n : Nat} {ps : List (Nat × Nat)} {rows : List (List Nat)} (h : RowsOk n ps rows) {v : Nat} (hv : v < n) : ∃ r, rows[v]? = some r ∧ r ∈ rows ∧ (∀ x, x ∈ r ↔ Adj ps v x) ∧ r.length ≤ 2 * ps.length := by
  have e : rows[v]? = some (rows[v]'(by rw [h.len]; exact hv)) := List.getElem?_eq_getElem _
  exact ⟨_, e, List.mem_of_getElem? e, h.mem v _ e, h.short _ (List.mem_of_getElem? e)⟩
end Lw
/-! Le: pairs, rising pairs. -/
namespace Lw
open PySem PySem.Spec PyProof.Rows L2
section
variable {P : Program} {w : World} {K : PySem.W.Frag} {mg : Str → Option Value} {base : Heap}
variable {B H B1 H1 B2 H2 B' H' : Hp} {σ : Slo} {te ta tb : TE} {a b : Bool} {x : V} {m n i j : Nat}
theorem ev_all {bs : List Bool} (h : Ev te σ B H (VL (bs.map V.bl))) : Ev (tCB (rAll K) (tCons te tNil)) σ B H (RX (.bl (bs.all id))) :=
  ev_cbx (ea_c h ea_nil) fun vs B' H' g ⟨v, ws, e, ⟨p, e1, hp⟩, e2⟩ Q q => by
    cases e2; subst e e1
    exact ⟨p, bs, rfl, SqL.of (g.sub _ _ hp), q⟩
theorem ev_any {bs : List Bool} (h : Ev te σ B H (VL (bs.map V.bl))) : Ev (tCB (rAny K) (tCons te tNil)) σ B H (RX (.bl (bs.any id))) :=
  ev_cbx (ea_c h ea_nil) fun vs B' H' g ⟨v, ws, e, ⟨p, e1, hp⟩, e2⟩ Q q => by
    cases e2; subst e e1
    exact ⟨p, bs, rfl, SqL.of (g.sub _ _ hp), q⟩
/-- comparisons of natural numbers -/
theorem ev_ltN (ha : Ev ta σ B H (RX (vn m))) (hb : Ev tb σ B H (RX (vn n))) : Ev (tOp (rI0 fun i j => .bl (decide (i < j))) ta tb) σ B H (RX (.bl (decide (m < n)))) :=
  (ev_I0 ha hb).eq (by congr 1; simp)
theorem ev_leN (ha : Ev ta σ B H (RX (vn m))) (hb : Ev tb σ B H (RX (vn n))) : Ev (tOp (rI0 fun i j => .bl (decide (i ≤ j))) ta tb) σ B H (RX (.bl (decide (m ≤ n)))) :=
  (ev_I0 ha hb).eq (by congr 1; simp)
theorem ev_gtN (ha : Ev ta σ B H (RX (vn m))) (hb : Ev tb σ B H (RX (vn n))) : Ev (tOp (rI0 fun i j => .bl (decide (j < i))) ta tb) σ B H (RX (.bl (decide (n < m)))) :=
  (ev_I0 ha hb).eq (by congr 1; simp)
theorem ev_geN (ha : Ev ta σ B H (RX (vn m))) (hb : Ev tb σ B H (RX (vn n))) : Ev (tOp (rI0 fun i j => .bl (decide (j ≤ i))) ta tb) σ B H (RX (.bl (decide (n ≤ m)))) :=
  (ev_I0 ha hb).eq (by congr 1; simp)
theorem ev_eqN (ha : Ev ta σ B H (RX (vn m))) (hb : Ev tb σ B H (RX (vn n))) : Ev (tOp rEq ta tb) σ B H (RX (.bl (decide (m = n)))) :=
  (ev_eq ha hb rfl).eq (by rw [dec_vn])
theorem ev_neN (ha : Ev ta σ B H (RX (vn m))) (hb : Ev tb σ B H (RX (vn n))) : Ev (tOp rNe ta tb) σ B H (RX (.bl (!decide (m = n)))) :=
  (ev_ne ha hb rfl).eq (by rw [dec_vn])
theorem ev_addN (ha : Ev ta σ B H (RX (vn m))) (hb : Ev tb σ B H (RX (vn n))) : Ev (tOp (rI0 fun i j => .int (i + j)) ta tb) σ B H (RX (vn (m + n))) :=
  (ev_I0 ha hb).eq rfl
theorem ev_subN (ha : Ev ta σ B H (RX (vn m))) (hb : Ev tb σ B H (RX (vn n))) (h : n ≤ m) : Ev (tOp (rI0 fun i j => .int (i - j)) ta tb) σ B H (RX (vn (m - n))) :=
  (ev_I0 ha hb).eq (by show V.int _ = V.int _; congr 1; omega)
theorem ev_0 : Ev (tC (.int 0)) σ B H (RX (vn 0)) := ev_c
theorem ev_1 : Ev (tC (.int 1)) σ B H (RX (vn 1)) := ev_c
theorem ev_2 : Ev (tC (.int 2)) σ B H (RX (vn 2)) := ev_c
abbrev spIndex : Sp := Pr fun vs _ P => ∃ i n : Nat, vs = [vn i, vn n] ∧ P = RX (.bl (decide (i < n)))
theorem sc_is_index : FnScope ["thing", "many"] ["thing", "many"] (defScope (tp 3)) := ⟨rfl, rfl, rfl, by decide +kernel, rfl, by decide +kernel, by decide +kernel⟩
theorem ok_is_index (D : Dn K mg "is_index" "is_index" (tp 3)) (T : Tx mg) (c_is_within : Cal P w K mg base 2 "is_within" spWithin) : Cal P w K mg base 3 "is_index" spIndex := by
  refine cal_of D sc_is_index (fun _ _ _ _ _ _ us hl => match us, hl with | [_, _], _ => rfl) (fun vs H Q E h => ?_) (fun cdv A outer s f H vs Q E hr h => ?_)
  · obtain ⟨B, P, s, ⟨i, n, rfl, _⟩, _⟩ := h
    rfl
  · obtain ⟨B, P, s0, ⟨i, n, rfl, rfl⟩, k⟩ := h
    refine ⟨_, (pss_one (ps_ret (pe_k c_is_within hr (by decide) rfl (pa_cons (pv 0) (pa_cons pe_int (pa_cons (pe_op op_sub (pv 1) pe_int) pa_nil)))))), ?_⟩
    refine s_ret ((ev_call (P := RX (.bl (decide ((0 : Int) ≤ (i : Int)) && decide ((i : Int) ≤ (n : Int) - 1)))) (ea_x (evx 0 rfl) (ea_x ev_c (ea_x (ev_I0 (evx 1 rfl) ev_c) ea_nil))) fun vs B' _ e => ⟨i, 0, (n : Int) - 1, by cases e; rfl, rfl⟩).eq ?_) s0 k
    congr 1
    rw [decide_eq_true (Int.natCast_nonneg i), Bool.true_and]
    exact decide_eq_decide.mpr (by omega)
abbrev spRisingPair : Sp := Pr fun vs B P => ∃ (v : V) (p : Nat × Nat) (n : Nat), vs = [v, vn n] ∧ I2 p v B ∧ (p.1 < p.2 ∧ p.2 < n) ∧ P = RX (.bl true)
theorem sc_is_rising_pair : FnScope ["thing", "many"] ["thing", "many"] (defScope (tp 4)) := ⟨rfl, rfl, rfl, by decide +kernel, rfl, by decide +kernel, by decide +kernel⟩
theorem ok_is_rising_pair (D : Dn K mg "is_rising_pair" "is_rising_pair" (tp 4)) (T : Tx mg) (c_is_index : Cal P w K mg base 3 "is_index" spIndex) : Cal P w K mg base 4 "is_rising_pair" spRisingPair := by
  refine cal_of D sc_is_rising_pair (fun _ _ _ _ _ _ us hl => match us, hl with | [_, _], _ => rfl) (fun vs H Q E h => ?_) (fun cdv A outer s f H vs Q E hr h => ?_)
  · obtain ⟨B, P, s, ⟨v, p, n, rfl, _⟩, _⟩ := h
    rfl
  · obtain ⟨B, P, s0, ⟨v, p, n, rfl, hp, hlt, rfl⟩, k⟩ := h
    refine ⟨_, (pss_cons (ps_if (PW.pt (pw_or (pt_not (pt_val (pe_callB (isiK K) (by rfl) T.isinstance (by decide +kernel) (pa_cons (pv 0) (pa_cons (pe_bltn (v := .ty "tuple") (u := .type "tuple") (by rfl) T.tuple (by decide +kernel) rfl) pa_nil))))) (pw_or1 (pt_cmpR op_ne (pe_callB (lenS K) (by rfl) T.len PySem.boot_len (pa_cons (pv 0) pa_nil)) pe_int (nomark _))))) (pss_one (ps_ret pe_bl)) pss_nil)
      (pss_one (ps_ret (pe_and (pe_k c_is_index hr (by decide) rfl (pa_cons (pe_ix (ixT K) (pv 0) pe_int (fun _ _ => rfl)) (pa_cons (pv 1) pa_nil))) (pe_and (pe_k c_is_index hr (by decide) rfl (pa_cons (pe_ix (ixT K) (pv 0) pe_int (fun _ _ => rfl)) (pa_cons (pv 1) pa_nil))) (pe_one (pe_cmpR op_lt (pe_ix (ixT K) (pv 0) pe_int (fun _ _ => rfl)) (pe_ix (ixT K) (pv 0) pe_int (fun _ _ => rfl)) (nomark _)))))))), ?_⟩
    obtain ⟨a, rfl, ha⟩ := id hp
    refine s_if (D := { nx := _, rt := _ }) (et_or (b := false) (c := false) (et_not (b := true) (et_B (ev_isi (evx 0 rfl) (fun _ _ g => .base (.tup (g.hh _ _ (s0 _ _ ha)))) (kit_ty (by decide +kernel))))) fun _ => et_val (ev_neN (ev_len (ev_var 0 rfl hp) (pn_VT rfl)) ev_2)) s0 (fun e => nomatch e) fun _ B1 H1 g1 => ?_
    have hp1 : I2 p (.ref a) B1 := Mn.mn g1.bb hp
    refine s_ret (ev_and (b := true) (ev_call (ea_x (ev_ixVT (i := 0) (ev_var 0 rfl hp1) ev_0 rfl) (ea_x (evx 1 rfl) ea_nil)) fun vs B' _ e => ⟨p.1, n, by cases e; rfl, by rw [decide_eq_true (show p.1 < n by omega)]⟩) fun _ =>
      ev_and (b := true) (c := true) (ev_call (ea_x (ev_ixVT (i := 1) (ev_var 0 rfl hp1) ev_1 rfl) (ea_x (evx 1 rfl) ea_nil)) fun vs B' _ e => ⟨p.2, n, by cases e; rfl, by rw [decide_eq_true hlt.2]⟩) fun _ =>
        (ev_ltN (ev_ixVT (i := 0) (ev_var 0 rfl hp1) ev_0 rfl) (ev_ixVT (i := 1) (ev_var 0 rfl hp1) ev_1 rfl)).eq (by rw [decide_eq_true hlt.1])) g1.sub fun v B' H' g p => k v B' H' (g1.trans g) p
theorem all_replicate_true : ∀ (bs : List Bool), (∀ b ∈ bs, b = true) → bs.all id = true := fun bs h => List.all_eq_true.mpr fun b m => h b m
theorem any_none : ∀ (bs : List Bool), (∀ b ∈ bs, b = false) → bs.any id = false := fun bs h => by
  rw [List.any_eq_false]
  intro b m
  rw [h b m]
  exact Bool.false_ne_true
theorem pw_next {α : Type} {R : α → α → Prop} {l : List α} (h : l.Pairwise R) {i : Nat} {x y : α} (hx : l[i]? = some x) (hy : l[i + 1]? = some y) : R x y := by
  obtain ⟨h1, e1⟩ := List.getElem?_eq_some_iff.mp hx
  obtain ⟨h2, e2⟩ := List.getElem?_eq_some_iff.mp hy
  rw [← e1, ← e2]
  exact List.pairwise_iff_getElem.mp h i (i + 1) h1 h2 (Nat.lt_succ_self i)
abbrev spRisingPairs : Sp := Pr fun vs B P => ∃ (v : V) (ps : List (Nat × Nat)) (n m : Nat), vs = [v, vn n, vn m] ∧ TO I2 ps v B ∧ PsOk n ps ∧ ps.length ≤ m ∧ ps.length ≤ 1000 ∧ P = RX (.bl true)
theorem sc_are_rising_pairs : FnScope ["thing", "many", "most", "pair", "at"] ["thing", "many", "most"] (defScope (tp 5)) := ⟨rfl, rfl, rfl, by decide +kernel, rfl, by decide +kernel, by decide +kernel⟩
theorem ok_are_rising_pairs (D : Dn K mg "are_rising_pairs" "are_rising_pairs" (tp 5)) (T : Tx mg) (c_is_rising_pair : Cal P w K mg base 4 "is_rising_pair" spRisingPair) : Cal P w K mg base 5 "are_rising_pairs" spRisingPairs := by
  refine cal_of D sc_are_rising_pairs (fun _ _ _ _ _ _ us hl => match us, hl with | [_, _, _], _ => rfl) (fun vs H Q E h => ?_) (fun cdv A outer s f H vs Q E hr h => ?_)
  · obtain ⟨B, P, s, ⟨v, ps, n, m, rfl, _⟩, _⟩ := h
    rfl
  · obtain ⟨B, P, s0, ⟨v, ps, n, m, rfl, hp, hps, hm, hle, rfl⟩, k⟩ := h
    refine ⟨_, (pss_cons (ps_if (PW.pt (pw_or (pt_not (pt_val (pe_callB (isiK K) (by rfl) T.isinstance (by decide +kernel) (pa_cons (pv 0) (pa_cons (pe_bltn (v := .ty "tuple") (u := .type "tuple") (by rfl) T.tuple (by decide +kernel) rfl) pa_nil))))) (pw_or1 (pt_cmpR op_gt (pe_callB (lenS K) (by rfl) T.len PySem.boot_len (pa_cons (pv 0) pa_nil)) (pv 2) (nomark _))))) (pss_one (ps_ret pe_bl)) pss_nil)
      (pss_cons (ps_if (pt_not (pt_val (pe_callB (allK K rfl) (by rfl) T.all (by decide +kernel) (pa_cons (pe_lc (own := [("pair", 3)]) rfl sc_are_rising_pairs.nd (piT K (pv 0)) (blkOk_by (by kernel_rfl)) (fun _ _ _ _ _ => (pg_name (i := 3) sc_are_rising_pairs.nd rfl (.inl rfl))) (fun _ _ _ _ _ => pts_nil) (fun _ _ _ _ _ => (pe_k c_is_rising_pair hr (by decide) rfl (pa_cons (pv 3) (pa_cons (pv 1) pa_nil))))) pa_nil)))) (pss_one (ps_ret pe_bl)) pss_nil)
      (pss_one (ps_ret (pe_not (pe_callB (anyK K rfl) (by rfl) T.any (by decide +kernel) (pa_cons (pe_lc (own := [("at", 4)]) rfl sc_are_rising_pairs.nd (pi_range2 rfl T.range (pa_cons pe_int (pa_cons (pe_callB (lenS K) (by rfl) T.len PySem.boot_len (pa_cons (pv 0) pa_nil)) pa_nil))) (blkOk_by (by kernel_rfl)) (fun _ _ _ _ _ => (pg_name (i := 4) sc_are_rising_pairs.nd rfl (.inl rfl))) (fun _ _ _ _ _ => pts_nil) (fun _ _ _ _ _ => (pe_cmpR (geT K (hu_of hr)) (pe_ix (ixT K) (pv 0) (pe_op op_sub (pv 4) pe_int) (fun _ _ => rfl)) (pe_ix (ixT K) (pv 0) (pv 4) (fun _ _ => rfl)) (nomark _)))) pa_nil))))))), ?_⟩
    obtain ⟨a, vs, rfl, ha, hr0⟩ := id hp
    refine s_if (D := { nx := _, rt := _ }) (et_or (b := false) (c := false) (et_not (b := true) (et_B (ev_isi (evx 0 rfl) (fun _ _ g => .base (.tup (g.hh _ _ (s0 _ _ ha)))) (kit_ty (by decide +kernel))))) fun _ => (et_val (ev_gtN (ev_len (ev_var 0 rfl hp) (pn_TO rfl)) (evx 2 rfl))).eq (decide_eq_false (by omega))) s0 (fun e => nomatch e) fun _ B1 H1 g1 => ?_
    have hp1 : TO I2 ps (.ref a) B1 := Mn.mn g1.bb hp
    refine s_if (D := { nx := _, rt := _ }) (b := false) ((et_not (b := true) (et_B ((ev_all (bs := ps.map fun _ => true) ((em_lcM (R' := fun b => RX (.bl b)) (ei_tup (ev_var 0 rfl hp1)) (fun _ => true) (by omega) (fun _ => rfl) fun p v B' H' hmem g hv => ?_).vals.vl)).eq ?_)))) g1.sub (fun e => nomatch e) fun _ B2 H2 g2 => ?_
    · refine ev_call (ea_c (ev_var 3 rfl hv) (ea_x (evx 1 rfl) ea_nil)) fun vs B2 _ ⟨v', ws, e, hv', e2⟩ => ?_
      cases e2; subst e
      exact ⟨v', p, n, rfl, hv', hps.lt p hmem, rfl⟩
    · rw [all_replicate_true _ fun b m => by obtain ⟨_, _, e⟩ := List.mem_map.mp m; exact e.symm]
    have hp2 : TO I2 ps (.ref a) B2 := Mn.mn g2.bb hp1
    refine s_ret ((ev_not (b := false) ((ev_any (bs := (List.range' 1 (ps.length - 1)).map fun _ => false) ((em_lcM (R' := fun b => RX (.bl b)) (ei_rng2 (lo := 1) (hi := ps.length) (ea_x ev_1 (ea_x (ev_len (ev_var 0 rfl hp2) (pn_TO rfl)) ea_nil)) (by omega) (by omega)) (fun _ => false) (by rw [List.length_range']; omega) (fun _ => rfl) fun at_ v B' H' hmem g hv => ?_).vals.vl)).eq ?_))) g2.sub fun v B' H' g p => k v B' H' ((g1.trans g2).trans g) p
    · obtain ⟨h1, h2⟩ : 1 ≤ at_ ∧ at_ < ps.length := by
        have := List.mem_range'_1.mp hmem
        omega
      cases hv
      have e1 : ps[at_ - 1]? = some ps[at_ - 1] := List.getElem?_eq_getElem (by omega)
      have e2 : ps[at_]? = some ps[at_] := List.getElem?_eq_getElem h2
      have hp3 : TO I2 ps (.ref a) B' := Mn.mn g.bb hp2
      refine (ev_opx (v := .bl (geP ps[at_ - 1] ps[at_])) (ev_ixT (ev_var 0 rfl hp3) (ev_subN (evx 4 rfl) ev_1 h1) e1) (ev_ixT (ev_var 0 rfl hp3) (evx 4 rfl) e2) fun x y B3 H3 g3 ⟨p, e, hp⟩ ⟨q, e', hq⟩ Q q3 => ⟨p, q, _, _, e, e', SqT.of (g3.sub _ _ hp), SqT.of (g3.sub _ _ hq), q3⟩).eq ?_
      have hl : ltp ps[at_ - 1] ps[at_] := pw_next hps.asc e1 (by rw [show at_ - 1 + 1 = at_ by omega]; exact e2)
      congr 1
      unfold geP
      rcases hl with hl | ⟨hl, hl2⟩
      · rw [if_neg (by omega)]; exact decide_eq_false (by omega)
      · rw [if_pos hl]; exact decide_eq_false (by omega)
    · rw [any_none _ fun b m => by obtain ⟨_, _, e⟩ := List.mem_map.mp m; exact e.symm]
end
end Lw
/-! Lf: sorted, lists of one's own lists, beside_lists. -/
namespace Lw
open PySem PySem.Spec PyProof.Rows L2
def srt (l : List Nat) : List Nat := l.mergeSort (fun a b => decide (a ≤ b))
theorem srt_perm (l : List Nat) : (srt l).Perm l := List.mergeSort_perm _ _
theorem srt_asc (l : List Nat) : (srt l).Pairwise (· ≤ ·) :=
  (List.pairwise_mergeSort (le := fun a b : Nat => decide (a ≤ b)) (fun a b c h k => decide_eq_true (Nat.le_trans (of_decide_eq_true h) (of_decide_eq_true k)))
    (fun a b => by rcases Nat.le_total a b with h | h <;> simp [h]) l).imp fun h => of_decide_eq_true h
theorem mem_srt {l : List Nat} {x : Nat} : x ∈ srt l ↔ x ∈ l := (srt_perm l).mem_iff
theorem srt_len (l : List Nat) : (srt l).length = l.length := (srt_perm l).length_eq
theorem map_cast {l : List Nat} : l.map vn = (l.map fun n : Nat => (n : Int)).map V.int := by rw [List.map_map]; rfl
theorem srt_ints {l : List Nat} {ms : List Int} (h : ms.Perm (l.map fun n : Nat => (n : Int))) (k : ms.Pairwise (· ≤ ·)) : ms.map V.int = (srt l).map vn := by
  have e : ms = (srt l).map fun n : Nat => (n : Int) := by
    refine List.Perm.eq_of_pairwise (le := fun a b : Int => a ≤ b) (fun a b _ _ h1 h2 => Int.le_antisymm h1 h2) k ?_ (h.trans ((srt_perm l).map _).symm)
    exact List.pairwise_map.mpr ((srt_asc l).imp fun h => Int.ofNat_le.mpr h)
  rw [e, List.map_map]; rfl
section
variable {P : Program} {w : World} {K : PySem.W.Frag} {mg : Str → Option Value} {base : Heap}
variable {B H B0 H0 B1 H1 B2 H2 B' H' : Hp} {σ : Slo} {te ta tb tl : TE} {a b : Bool} {x : V} {m n i j : Nat}
theorem em_sorted {ns : List Nat} (h : Ev te σ B H (IL ns)) : EvM (tCB (rSortedI K) (tCons te tNil)) σ B H (fun vs _ => vs = (srt ns).map vn) :=
  em_cb (ea_c h ea_nil) fun vs B' H' g ⟨v, ws, e, ⟨p, e1, hp⟩, e2⟩ Q q => by
    cases e2; subst e e1
    refine ⟨p, ns.map fun n : Nat => (n : Int), rfl, SqL.of (by rw [← map_cast]; exact g.sub _ _ hp), fun ms r pm asc nr => ?_⟩
    exact q r _ B' _ (Gr.newM g.sub nr) nr (none_of_same g.sub nr) upd_same (srt_ints pm asc)
theorem ev_tupOfL {xs : List V} (h : Ev te σ B H (VL xs)) : Ev (tCB (fun xs H Q => ∃ p ys, xs = [.ref p] ∧ ((SqL K H p ys ∧ ∀ l, H l = none → Q (.ref l) (upd H l (.tup ys))) ∨ (SqT K H p ys ∧ Q (.ref p) H))) (tCons te tNil)) σ B H (VT xs) :=
  ev_cb (ea_c h ea_nil) fun vs B' H' g ⟨v, ws, e, ⟨p, e1, hp⟩, e2⟩ Q q => by
    cases e2; subst e e1
    exact ⟨p, xs, rfl, .inl ⟨SqL.of (g.sub _ _ hp), fun l nl => q _ (upd B' l (.tup xs)) _ (Gr.new g.sub nl) ⟨l, rfl, upd_same⟩⟩⟩
theorem ev_tupOfLO {α : Type} {R : α → VP} {xs : List α} [∀ x, Mn (R x)] (h : Ev te σ B H (LO R xs)) : Ev (tCB (fun xs H Q => ∃ p ys, xs = [.ref p] ∧ ((SqL K H p ys ∧ ∀ l, H l = none → Q (.ref l) (upd H l (.tup ys))) ∨ (SqT K H p ys ∧ Q (.ref p) H))) (tCons te tNil)) σ B H (TO R xs) :=
  ev_cb (ea_c h ea_nil) fun vs B' H' g ⟨v, ws, e, ⟨p, zs, e1, hp, r⟩, e2⟩ Q q => by
    cases e2; subst e e1
    exact ⟨p, zs, rfl, .inl ⟨SqL.of (g.sub _ _ hp), fun l nl => q _ (upd B' l (.tup zs)) _ (Gr.new g.sub nl) ⟨l, zs, rfl, upd_same, r.mn (same_new (none_of_same g.sub nl))⟩⟩⟩
/-! ### lists of one's own -/
theorem nodup_snocA {l : List Addr} {x : Addr} (h : l.Nodup) (hx : x ∉ l) : (l ++ [x]).Nodup := by
  rw [List.nodup_append]
  refine ⟨h, List.nodup_cons.mpr ⟨by simp, List.nodup_nil⟩, fun a ha b hb e => ?_⟩
  rw [List.mem_singleton.mp hb] at e
  exact hx (e ▸ ha)
structure Ows (H0 B H : Hp) (as : List Addr) (cs : List (List V)) : Prop where
  len : as.length = cs.length
  nd : as.Nodup
  own : ∀ (i : Nat) a c, as[i]? = some a → cs[i]? = some c → H a = some (.lst c) ∧ B a = none ∧ H0 a = none
theorem Ows.of {as : List Addr} {cs : List (List V)} (o : Ows H0 B H as cs) {a : Addr} (h : a ∈ as) : ∃ c, H a = some (.lst c) ∧ B a = none ∧ H0 a = none := by
  obtain ⟨i, hi, e⟩ := List.getElem_of_mem h
  have hc : i < cs.length := by rw [← o.len]; exact hi
  exact ⟨_, o.own i a cs[i] (by rw [← e]; exact List.getElem?_eq_getElem hi) (List.getElem?_eq_getElem hc)⟩
theorem Ows.grow {as : List Addr} {cs : List (List V)} (o : Ows H0 B H as cs) (g : Gr B H B' H') : Ows H0 B' H' as cs :=
  ⟨o.len, o.nd, fun i a c h k => by
    obtain ⟨h1, h2, h3⟩ := o.own i a c h k
    exact ⟨g.hh _ _ h1, g.fr _ _ h2 h1 mo_lst, h3⟩⟩
theorem Ows.other {as : List Addr} {cs : List (List V)} {p : Addr} {u : HO} (o : Ows H0 B H as cs) (hp : p ∉ as) : Ows H0 B (upd H p u) as cs :=
  ⟨o.len, o.nd, fun i a c h k => by
    obtain ⟨h1, h2, h3⟩ := o.own i a c h k
    exact ⟨by rw [upd_ne fun e : a = p => hp (e ▸ List.mem_of_getElem? h)]; exact h1, h2, h3⟩⟩
theorem Ows.put {as : List Addr} {cs : List (List V)} {a : Addr} {i : Nat} {c : List V} (o : Ows H0 B H as cs) (hi : as[i]? = some a) : Ows H0 B (upd H a (.lst c)) as (cs.set i c) :=
  ⟨by rw [List.length_set]; exact o.len, o.nd, fun j b d h k => by
    by_cases e : i = j
    · subst e
      rw [hi] at h; cases h
      have hl : i < cs.length := by rw [← o.len]; exact (List.getElem?_eq_some_iff.mp hi).1
      rw [List.getElem?_set_self hl] at k
      cases k
      obtain ⟨h1, h2, h3⟩ := o.own i a cs[i] hi (List.getElem?_eq_getElem hl)
      exact ⟨upd_same, h2, h3⟩
    · rw [List.getElem?_set_ne e] at k
      obtain ⟨h1, h2, h3⟩ := o.own j b d h k
      have ne : b ≠ a := fun z => e (nd_ix o.nd hi (z ▸ h))
      exact ⟨by rw [upd_ne ne]; exact h1, h2, h3⟩⟩
/-- they are settled -/
theorem Ows.settle : ∀ {as : List Addr} {cs : List (List V)} {B : Hp}, Gr B0 H0 B H → Ows H0 B H as cs → ∃ B', Gr B0 H0 B' H ∧ Same B B' ∧ (∀ b, b ∉ as → B' b = B b) ∧ ∀ (i : Nat) a c, as[i]? = some a → cs[i]? = some c → B' a = some (.lst c)
  | [], [], B, g, _ => ⟨B, g, Same.refl B, fun _ _ => rfl, fun i a c h => by simp at h⟩
  | [], _ :: _, _, _, o => by have := o.len; simp at this
  | _ :: _, [], _, _, o => by have := o.len; simp at this
  | a :: as, c :: cs, B, g, o => by
    obtain ⟨h1, h2, h3⟩ := o.own 0 a c rfl rfl
    obtain ⟨na, nd⟩ := List.nodup_cons.mp o.nd
    have g1 : Gr B0 H0 (upd B a (.lst c)) H := g.settle h3 h2 h1
    have o1 : Ows H0 (upd B a (.lst c)) H as cs := ⟨by have := o.len; simpa using this, nd, fun i b d h k => by
      obtain ⟨k1, k2, k3⟩ := o.own (i + 1) b d (by simpa using h) (by simpa using k)
      exact ⟨k1, by rw [upd_ne fun e : b = a => na (e ▸ List.mem_of_getElem? h)]; exact k2, k3⟩⟩
    obtain ⟨B', g', s', f', k'⟩ := Ows.settle g1 o1
    refine ⟨B', g', (same_new h2).trans s', fun b hb => ?_, fun i b d h k => ?_⟩
    · rw [f' b fun m => hb (List.mem_cons_of_mem _ m), upd_ne fun e : b = a => hb (e ▸ List.mem_cons_self ..)]
    · cases i with
      | zero =>
        simp at h k; subst h k
        exact s' _ _ upd_same
      | succ i => exact k' i b d (by simpa using h) (by simpa using k)
/-- [[] for _ in ..] -/
theorem go_empties {wi : TI} {ws : List Nat} {ns : List Nat} {Q : VK} (hi : EvI wi σ B H RN ns) (s : Same B H) (hl : ns.length ≤ 900000) (hw : ∀ v, wipe ((wipe σ ws).set j (some v)) ws = wipe σ ws)
    (k : ∀ D as B' H', Gr B H B' H' → H D = none → B' D = none → H' D = some (.lst (as.map V.ref)) → D ∉ as → Ows H B' H' as (ns.map fun _ => []) → Q (.ref D) H') : tLc wi (gName j) tYes (tLst tNil) ws σ H Q := by
  refine hi B H (Gr.refl s) _ fun J B2 H2 vs g2 r w => fun D hD => ?_
  have hB2 : B2 D = none := none_of_same g2.sub hD
  refine lc_it w (fun i H' => Gr B2 H2 B2 H' ∧ ∃ as, H' D = some (.lst (as.map V.ref)) ∧ D ∉ as ∧ Ows H2 B2 H' as ((ns.take i).map fun _ => [])) ?_ ?_ ?_ ?_
  · exact ⟨Gr.newM g2.sub hD, [], upd_same, by simp, ⟨rfl, List.nodup_nil, fun i a c h => by simp at h⟩⟩
  · rintro i H' _ ⟨g', _⟩
    exact g'.sub
  · intro i x Ha H' hlt ⟨g0, as, hd0, nD, o0⟩ ⟨e0, hx⟩
    subst e0
    refine ⟨hw x, ?_⟩
    dsimp only [tYes]
    rw [if_pos rfl]
    refine ⟨Nat.zero_le _, fun p hp => ?_⟩
    have hpD : D ≠ p := ne_of_none hd0 hp
    have hp2 : H2 p = none := g0.hh.free hp
    have npa : p ∉ as := fun m => by obtain ⟨c, h1, _⟩ := o0.of m; rw [hp] at h1; cases h1
    refine ⟨as.map V.ref, by rw [upd_ne hpD]; exact hd0, ?_, (g0.put hp2 (none_of_same g0.sub hp)).put hD hB2, as ++ [p], ?_, ?_, ?_⟩
    · have := o0.len
      rw [List.length_map, List.length_take] at this
      rw [List.length_map]
      exact szl (by omega)
    · rw [upd_same, List.map_append]; rfl
    · intro m
      rcases List.mem_append.mp m with m | m
      · exact nD m
      · exact hpD (List.mem_singleton.mp m)
    · have hx2 : ns[i]? = some ns[i] := List.getElem?_eq_getElem hlt
      have hlen := o0.len
      rw [List.length_map, List.length_take, Nat.min_eq_left (Nat.le_of_lt hlt)] at hlen
      refine ⟨?_, nodup_snocA o0.nd npa, fun q b c h k => ?_⟩
      · rw [List.length_append, List.length_map, List.length_take, hlen]; simp; omega
      · rw [List.take_add_one, hx2, List.map_append] at k
        have hb : b ≠ D := fun e => by
          subst e
          rcases List.mem_append.mp (List.mem_of_getElem? h) with m | m
          · exact nD m
          · exact hpD (List.mem_singleton.mp m)
        by_cases hq : q < as.length
        · rw [List.getElem?_append_left hq] at h
          rw [List.getElem?_append_left (by rw [List.length_map, List.length_take]; omega)] at k
          obtain ⟨k1, k2, k3⟩ := o0.own q b c h k
          have hbp : b ≠ p := fun e => npa (e ▸ List.mem_of_getElem? h)
          exact ⟨by rw [upd_ne hb, upd_ne hbp]; exact k1, k2, k3⟩
        · have hq2 : q = as.length := by
            have := (List.getElem?_eq_some_iff.mp h).1
            rw [List.length_append, List.length_singleton] at this
            omega
          subst hq2
          rw [List.getElem?_append_right (Nat.le_refl _), Nat.sub_self] at h
          rw [List.getElem?_append_right (by rw [List.length_map, List.length_take]; omega)] at k
          have e1 : as.length - ((ns.take i).map fun _ => ([] : List V)).length = 0 := by rw [List.length_map, List.length_take]; omega
          rw [e1] at k
          simp at h k
          subst h k
          exact ⟨by rw [upd_ne hb, upd_same], none_of_same g0.sub hp, hp2⟩
  · rintro H' ⟨g', as, hd, nD, o⟩
    rw [List.take_length] at o
    exact k D as B2 H' (g2.trans g') (g2.hh.free hD) hB2 hd nD ⟨o.len, o.nd, fun i a c h e => by obtain ⟨k1, k2, k3⟩ := o.own i a c h e; exact ⟨k1, k2, g2.hh.free k3⟩⟩
theorem a_empties {wi : TI} {ws : List Nat} {ns : List Nat} {D : Ends} (hi : EvI wi σ B H RN ns) (s : Same B H) (hl : ns.length ≤ 900000) (hw : ∀ v, wipe ((wipe σ ws).set j (some v)) ws = wipe σ ws)
    (k : ∀ L as B' H', Gr B H B' H' → H L = none → B' L = none → H' L = some (.lst (as.map V.ref)) → L ∉ as → Ows H B' H' as (ns.map fun _ => []) → D.nx (σ.set i (some (.ref L))) H') : tAsg (tLc wi (gName j) tYes (tLst tNil) ws) (gName i) D σ H := go_empties hi s hl hw k
end
end Lw
/-! Lg: beside_lists, _law_rows. -/
namespace Lw
open PySem PySem.Spec PyProof.Rows L2
/-- what is beside v, in the order of the pairs -/
def rowOf (qs : List (Nat × Nat)) (v : Nat) : List Nat := qs.flatMap fun p => (if p.1 = v then [p.2] else []) ++ (if p.2 = v then [p.1] else [])
def rowsOf (n : Nat) (qs : List (Nat × Nat)) : List (List Nat) := (List.range n).map (rowOf qs)
theorem mem_rowOf {qs : List (Nat × Nat)} {v x : Nat} : x ∈ rowOf qs v ↔ Adj qs v x := by
  unfold rowOf Adj
  rw [List.mem_flatMap]
  constructor
  · rintro ⟨p, hp, h⟩
    rcases List.mem_append.mp h with h | h
    · split at h
      · rename_i e; rw [List.mem_singleton.mp h, ← e]; exact .inl hp
      · simp at h
    · split at h
      · rename_i e; rw [List.mem_singleton.mp h, ← e]; exact .inr hp
      · simp at h
  · rintro (h | h)
    · exact ⟨_, h, by simp⟩
    · exact ⟨_, h, by simp⟩
theorem rowOf_snoc (qs : List (Nat × Nat)) (p : Nat × Nat) (v : Nat) : rowOf (qs ++ [p]) v = rowOf qs v ++ (if p.1 = v then [p.2] else []) ++ (if p.2 = v then [p.1] else []) := by
  unfold rowOf
  rw [List.flatMap_append, List.append_assoc]
  simp
theorem rowOf_len : ∀ (qs : List (Nat × Nat)) (v : Nat), (rowOf qs v).length ≤ 2 * qs.length
  | [], _ => Nat.le_refl _
  | p :: qs, v => by
    have ih := rowOf_len qs v
    have e : rowOf (p :: qs) v = ((if p.1 = v then [p.2] else []) ++ (if p.2 = v then [p.1] else [])) ++ rowOf qs v := by
      unfold rowOf; rw [List.flatMap_cons]
    rw [e, List.length_append, List.length_append, List.length_cons]
    have h1 : (if p.1 = v then [p.2] else [] : List Nat).length ≤ 1 := by split <;> simp
    have h2 : (if p.2 = v then [p.1] else [] : List Nat).length ≤ 1 := by split <;> simp
    omega
/-- one more pair: two rows get a number each -/
theorem rows_step {n : Nat} {qs : List (Nat × Nat)} {p : Nat × Nat} (h : p.1 < p.2) (f : List Nat → List V) (hf : ∀ a b, f (a ++ b) = f a ++ f b) :
    ((((rowsOf n qs).map f).set p.1 (f (rowOf qs p.1) ++ f [p.2])).set p.2 (f (rowOf qs p.2) ++ f [p.1])) = (rowsOf n (qs ++ [p])).map f := by
  have f0 : f [] = [] := by
    have := hf [] []
    rw [List.nil_append] at this
    have hl := congrArg List.length this
    rw [List.length_append] at hl
    exact List.eq_nil_of_length_eq_zero (by omega)
  refine List.ext_getElem? fun i => ?_
  unfold rowsOf
  rw [List.map_map, List.map_map]
  by_cases hi : i < n
  · have g : ∀ qs : List (Nat × Nat), ((List.range n).map (f ∘ rowOf qs))[i]? = some (f (rowOf qs i)) := fun qs => by
      rw [List.getElem?_map, List.getElem?_range hi]; rfl
    rw [g, rowOf_snoc]
    by_cases e2 : p.2 = i
    · subst e2
      rw [List.getElem?_set_self (by simp; omega), if_neg (by omega), if_pos rfl, List.append_nil, hf]
    · rw [List.getElem?_set_ne e2, if_neg e2, List.append_nil]
      by_cases e1 : p.1 = i
      · subst e1
        rw [List.getElem?_set_self (by simp; omega), if_pos rfl, hf]
      · rw [List.getElem?_set_ne e1, if_neg e1, List.append_nil, g]
  · rw [List.getElem?_eq_none (by simp; omega), List.getElem?_eq_none (by simp; omega)]
theorem rowOf_nodup {n : Nat} {ps : List (Nat × Nat)} (h : PsOk n ps) (v : Nat) : (rowOf ps v).Nodup := by
  unfold rowOf List.Nodup
  rw [List.pairwise_flatMap]
  refine ⟨fun p hp => ?_, ?_⟩
  · have := h.lt p hp
    by_cases h1 : p.1 = v
    · rw [if_pos h1, if_neg (by omega)]; simp
    · rw [if_neg h1]
      by_cases h2 : p.2 = v
      · rw [if_pos h2]; simp
      · rw [if_neg h2]; simp
  · refine List.Pairwise.imp_of_mem (fun {p q} hp hq hl x hx y hy e => ?_) h.asc
    subst e
    have l1 := h.lt p hp
    have l2 := h.lt q hq
    have : p = q := by
      rcases List.mem_append.mp hx with hx | hx <;> rcases List.mem_append.mp hy with hy | hy
      · split at hx
        · split at hy
          · rename_i e1 e2
            have := List.mem_singleton.mp hx
            have := List.mem_singleton.mp hy
            exact Prod.ext (by omega) (by omega)
          · simp at hy
        · simp at hx
      · split at hx
        · split at hy
          · rename_i e1 e2
            have := List.mem_singleton.mp hx
            have := List.mem_singleton.mp hy
            omega
          · simp at hy
        · simp at hx
      · split at hx
        · split at hy
          · rename_i e1 e2
            have := List.mem_singleton.mp hx
            have := List.mem_singleton.mp hy
            omega
          · simp at hy
        · simp at hx
      · split at hx
        · split at hy
          · rename_i e1 e2
            have := List.mem_singleton.mp hx
            have := List.mem_singleton.mp hy
            exact Prod.ext (by omega) (by omega)
          · simp at hy
        · simp at hx
    subst this
    rcases hl with hl | ⟨_, hl⟩ <;> exact Nat.lt_irrefl _ hl
theorem rows_ok {n : Nat} {ps : List (Nat × Nat)} (f : List Nat → List Nat) (hf : ∀ l x, x ∈ f l ↔ x ∈ l) (hl : ∀ l, (f l).length = l.length) (hn : ∀ l : List Nat, l.Nodup → (f l).Nodup) : RowsOk n ps ((rowsOf n ps).map f) :=
  ⟨by unfold rowsOf; simp, fun v r h x => by
    unfold rowsOf at h
    rw [List.map_map, List.getElem?_map] at h
    cases e : (List.range n)[v]? with
    | none => rw [e] at h; cases h
    | some u =>
      rw [e] at h
      have hv : u = v := by
        obtain ⟨h1, h2⟩ := List.getElem?_eq_some_iff.mp e
        rw [List.getElem_range] at h2; exact h2.symm
      subst hv
      cases h
      show x ∈ f (rowOf ps u) ↔ _
      rw [hf, mem_rowOf], fun r h => by
    unfold rowsOf at h
    rw [List.map_map] at h
    obtain ⟨v, _, e⟩ := List.mem_map.mp h
    subst e
    show (f (rowOf ps v)).length ≤ _
    rw [hl]; exact rowOf_len ps v, fun hp r h => by
    unfold rowsOf at h
    rw [List.map_map] at h
    obtain ⟨v, _, e⟩ := List.mem_map.mp h
    subst e
    exact hn _ (rowOf_nodup hp v)⟩
section
variable {P : Program} {w : World} {K : PySem.W.Frag} {mg : Str → Option Value} {base : Heap}
variable {B H B0 H0 B1 H1 B2 H2 B' H' : Hp} {σ : Slo} {te ta tb tl : TE} {a b : Bool} {x : V} {m n i j : Nat}
theorem rs_own {as : List Addr} {cs : List (List Nat)} (len : as.length = cs.length) (h : ∀ (i : Nat) a c, as[i]? = some a → (cs.map (·.map vn))[i]? = some c → B a = some (.lst c)) : Rs (fun l => IL l) cs (as.map V.ref) B := by
  induction as generalizing cs with
  | nil =>
    cases cs with
    | nil => exact True.intro
    | cons c cs => simp at len
  | cons a as ih =>
    cases cs with
    | nil => simp at len
    | cons c cs =>
      exact ⟨⟨a, rfl, h 0 a _ rfl rfl⟩, ih (by simpa using len) fun i b d h1 h2 => h (i + 1) b d (by simpa using h1) (by simpa using h2)⟩
/-- the state of both row-makers between two pairs -/
structure Rst (n : Nat) (v : V) (B0 H0 : Hp) (qs : List (Nat × Nat)) (D : Addr) (as : List Addr) (B H : Hp) : Prop where
  gr : Gr B0 H0 B H
  lst : H D = some (.lst (as.map V.ref))
  nb : B D = none
  n0 : H0 D = none
  na : D ∉ as
  ow : Ows H0 B H as ((rowsOf n qs).map (·.map vn))
theorem Rst.as_len {v : V} {qs : List (Nat × Nat)} {D : Addr} {as : List Addr} (r : Rst n v B0 H0 qs D as B H) : as.length = n := by
  have := r.ow.len
  unfold rowsOf at this
  simpa using this
theorem Rst.row {v : V} {qs : List (Nat × Nat)} {D : Addr} {as : List Addr} (r : Rst n v B0 H0 qs D as B H) (hi : i < n) : ∃ a, as[i]? = some a ∧ H a = some (.lst ((rowOf qs i).map vn)) ∧ a ≠ D ∧ B a = none ∧ H0 a = none := by
  have hl := r.as_len
  have e : as[i]? = some (as[i]'(by omega)) := List.getElem?_eq_getElem _
  have k : ((rowsOf n qs).map (·.map vn))[i]? = some ((rowOf qs i).map vn) := by
    unfold rowsOf
    rw [List.map_map, List.getElem?_map, List.getElem?_range hi]; rfl
  obtain ⟨h1, h2, h3⟩ := r.ow.own i _ _ e k
  exact ⟨_, e, h1, fun z => r.na (z ▸ List.mem_of_getElem? e), h2, h3⟩
/-- both rows get their numbers -/
theorem Rst.two {v : V} {qs : List (Nat × Nat)} {D : Addr} {as : List Addr} {p : Nat × Nat} {a1 a2 : Addr} (r : Rst n v B0 H0 qs D as B H) (h : p.1 < p.2) (hn : p.2 < n) (e1 : as[p.1]? = some a1) (e2 : as[p.2]? = some a2)
    (g1 : Gr B H B1 H1) (g2 : Gr B1 (upd H1 a1 (.lst ((rowOf qs p.1 ++ [p.2]).map vn))) B2 H2) : Rst n v B0 H0 (qs ++ [p]) D as B2 (upd H2 a2 (.lst ((rowOf qs p.2 ++ [p.1]).map vn))) := by
  obtain ⟨_, k1, q1, n1, m1, z1⟩ := r.row (i := p.1) (by omega)
  rw [e1] at k1; cases k1
  obtain ⟨_, k2, q2, n2, m2, z2⟩ := r.row (i := p.2) hn
  rw [e2] at k2; cases k2
  have o1 := (r.ow.grow g1).put (c := (rowOf qs p.1 ++ [p.2]).map vn) e1
  have o2 := (o1.grow g2).put (c := (rowOf qs p.2 ++ [p.1]).map vn) e2
  have b1 : B1 a1 = none := (g1.own m1 q1 mo_lst).1
  have b2 : B2 a2 = none := by
    have c1 : B1 a2 = none := (g1.own m2 q2 mo_lst).1
    have ne : a2 ≠ a1 := fun z => by have := nd_ix r.ow.nd e2 (z ▸ e1); omega
    exact (g2.own c1 (by rw [upd_ne ne]; exact (g1.own m2 q2 mo_lst).2) mo_lst).1
  refine ⟨(((r.gr.trans g1).put z1 b1).trans g2).put z2 b2, ?_, ?_, r.n0, r.na, ?_⟩
  · rw [upd_ne n2.symm]
    exact g2.hh _ _ (by rw [upd_ne n1.symm]; exact g1.hh _ _ r.lst)
  · exact g2.fr _ _ (g1.own r.nb r.lst mo_lst).1 (by rw [upd_ne n1.symm]; exact g1.hh _ _ r.lst) mo_lst
  · have e := rows_step (n := n) (qs := qs) h (·.map vn) (fun _ _ => List.map_append)
    rw [← e]
    simpa only [List.map_append] using o2
theorem Rst.start {v : V} {D : Addr} {as : List Addr} (g : Gr B0 H0 B H) (n0 : H0 D = none) (nb : B D = none) (hd : H D = some (.lst (as.map V.ref))) (na : D ∉ as) (o : Ows H0 B H as ((List.range n).map fun _ => [])) : Rst n v B0 H0 [] D as B H :=
  ⟨g, hd, nb, n0, na, by
    have e : (rowsOf n []).map (·.map vn) = (List.range n).map fun _ => [] := by
      unfold rowsOf; rw [List.map_map]; rfl
    rw [e]; exact o⟩
/-- all is settled -/
theorem Rst.done {v : V} {qs : List (Nat × Nat)} {D : Addr} {as : List Addr} (r : Rst n v B0 H0 qs D as B H) : ∃ B', Gr B0 H0 B' H ∧ LO (fun l => IL l) (rowsOf n qs) (.ref D) B' := by
  obtain ⟨B1, g1, s1, f1, k1⟩ := r.ow.settle r.gr
  have nD : B1 D = none := by rw [f1 D r.na]; exact r.nb
  refine ⟨upd B1 D (.lst (as.map V.ref)), g1.settle r.n0 nD r.lst, D, as.map V.ref, rfl, upd_same, (rs_own (B := B1) ?_ fun i a c h k => k1 i a c h k).mn (same_new nD)⟩
  have := r.ow.len
  rw [List.length_map] at this
  exact this
theorem lenN (n : Nat) (h : n ≤ 10000) : n < 1000000 := by omega
abbrev spBesideLists : Sp := Pr fun vs B P => ∃ (v : V) (ps : List (Nat × Nat)) (n : Nat), vs = [vn n, v] ∧ TO I2 ps v B ∧ PsOk n ps ∧ ps.length ≤ 1000 ∧ n ≤ 1000 ∧ P = fun v B' => ∃ rows, RowsOk n ps rows ∧ LO (fun l => IT l) rows v B'
theorem sc_beside_lists : FnScope ["many", "pairs", "found", "_", "one", "other", "row"] ["many", "pairs"] (defScope (tp 6)) := ⟨rfl, rfl, rfl, by decide +kernel, rfl, by decide +kernel, by decide +kernel⟩
set_option maxHeartbeats 1000000 in
theorem ok_beside_lists (D : Dn K mg "beside_lists" "beside_lists" (tp 6)) (T : Tx mg) : Cal P w K mg base 1 "beside_lists" spBesideLists := by
  refine cal_of D sc_beside_lists (fun _ _ _ _ _ _ us hl => match us, hl with | [_, _], _ => rfl) (fun vs H Q E h => ?_) (fun cdv A outer s f H vs Q E hr h => ?_)
  · obtain ⟨B, P, s, ⟨v, ps, n, rfl, _⟩, _⟩ := h
    rfl
  · obtain ⟨B0, P, s0, ⟨v, ps, n, rfl, hp, hps, hle, hn, rfl⟩, k⟩ := h
    refine ⟨_, (pss_cons (ps_setLc (i := 2) (own := [("_", 3)]) rfl sc_beside_lists.nd rfl rfl (sw_true rfl rfl rfl (by decide +kernel)) (pi_range1 rfl T.range (pa_cons (pv 0) pa_nil)) (blkOk_by (by kernel_rfl)) (fun _ _ _ _ _ => (pg_name (i := 3) sc_beside_lists.nd rfl (.inl rfl))) (fun _ _ _ _ _ => pts_nil) (fun _ _ _ _ _ => (pe_lst pa_nil)))
      (pss_cons (ps_for PassesOwn.never rfl (piT K (pv 1)) (pgT K rfl (pgs_cons (pg_name (i := 4) sc_beside_lists.nd rfl (.inl rfl)) (pgs_cons (pg_name (i := 5) sc_beside_lists.nd rfl (.inl rfl)) pgs_nil)) (n := 2))
        (pss_cons (ps_expr (bmK K PySem.F.plainAttrs_list PySem.F.slot_list_append PySem.F.type_list_append mt_append (pe_ix (ixL K) (pv 2) (pv 4) (fun _ _ => rfl)) (pa_cons (pv 5) pa_nil)))
        (pss_one (ps_expr (bmK K PySem.F.plainAttrs_list PySem.F.slot_list_append PySem.F.type_list_append mt_append (pe_ix (ixL K) (pv 2) (pv 5) (fun _ _ => rfl)) (pa_cons (pv 4) pa_nil))))))
      (pss_one (ps_ret (pe_lc (own := [("row", 6)]) rfl sc_beside_lists.nd (piL K (pv 2)) (blkOk_by (by kernel_rfl)) (fun _ _ _ _ _ => (pg_name (i := 6) sc_beside_lists.nd rfl (.inl rfl))) (fun _ _ _ _ _ => pts_nil) (fun _ _ _ _ _ => (pe_callTy (tupOf K) (by rfl) T.tuple (by decide +kernel) (pa_cons (pe_callB (srtI K) (by rfl) T.sorted (by decide +kernel) (pa_cons (pv 6) pa_nil)) pa_nil)))))))), ?_⟩
    refine a_empties (D := { nx := _, rt := _ }) (ei_rng1 (n := n) (ea_x (evx 0 rfl) ea_nil) (by omega)) s0 (by rw [List.length_range]; omega) (fun _ => rfl) fun D as B1 H1 g1 n0 nb hd na o => ?_
    refine s_for (D := { nx := _, rt := _ }) (ei_tup (ev_var 1 rfl (Mn.mn g1.bb hp))) g1.sub (fun i σ B H' => ∃ x3 x4 x5 x6, σ = [some (vn n), some v, some (.ref D), x3, x4, x5, x6] ∧ Rst n v B0 H (ps.take i) D as B H')
      (fun B2 H2 g2 => ?_) (fun i p u σ B2 H2 hi s2 => ?_) (fun σ B2 H2 s2 => ?_)
    · exact ⟨_, _, _, _, rfl, Rst.start (g1.trans g2) n0 (g2.own nb hd mo_lst).1 (g2.hh _ _ hd) na (o.grow g2)⟩
    · rintro ⟨x3, x4, x5, x6, rfl, r⟩ ⟨c, rfl, hc⟩
      obtain ⟨h1, h2⟩ := hps.lt p (List.mem_of_getElem? hi)
      obtain ⟨a1, e1, q1, n1, m1, z1⟩ := r.row (i := p.1) (by omega)
      obtain ⟨a2, e2, q2, n2, m2, z2⟩ := r.row (i := p.2) h2
      refine ⟨c, _, rfl, SqT.of (s2 _ _ hc), rfl, _, _, rfl, _, _, rfl, rfl, ?_⟩
      refine s_app (ev_ixVM (v := .ref a1) (evx 2 rfl) (evx 4 rfl) r.lst (by rw [List.getElem?_map, e1]; rfl)) (evx 5 rfl) s2 q1 (by rw [List.length_map]; exact lenN _ (by have := rowOf_len (ps.take i) p.1; rw [List.length_take] at this; omega)) fun v3 B3 H3 g3 q3 e3 => ?_
      cases e3
      have ne : a2 ≠ a1 := fun z => by have := nd_ix r.ow.nd e2 (z ▸ e1); omega
      have s4 : Same B3 (upd H3 a1 (.lst (((rowOf (ps.take i) p.1).map vn) ++ [vn p.2]))) := same_off g3.sub (g3.own m1 q1 mo_lst).1
      refine s_app (ev_ixVM (v := .ref a2) (evx 2 rfl) (evx 5 rfl) (by rw [upd_ne n1.symm]; exact g3.hh _ _ r.lst) (by rw [List.getElem?_map, e2]; rfl)) (evx 4 rfl) s4 (by rw [upd_ne ne]; exact g3.hh _ _ q2) (by rw [List.length_map]; exact lenN _ (by have := rowOf_len (ps.take i) p.2; rw [List.length_take] at this; omega)) fun v5 B5 H5 g5 q5 e5 => ?_
      cases e5
      have t := r.two h1 h2 e1 e2 g3 (B2 := B5) (H2 := H5) (by rw [List.map_append]; exact g5)
      refine ⟨B5, g3.bb.trans g5.bb, ?_, _, _, _, _, rfl, ?_⟩
      · have := t.gr.sub
        rw [List.map_append] at this; exact this
      · rw [List.take_add_one, hi]
        rw [List.map_append] at t; exact t
    · rintro ⟨x3, x4, x5, x6, rfl, r⟩
      rw [List.take_length] at r
      obtain ⟨B3, g3, hl⟩ := r.done
      refine s_ret (D := { nx := _, rt := _ }) (P := LO (fun l => IT l) ((rowsOf n ps).map srt)) (em_lcM (R' := fun l => IT l) (ei_list (ev_var 2 rfl hl)) srt (by unfold rowsOf; simp; omega) (fun _ => rfl) fun row u B4 H4 _ g4 hu => ?_).lo g3.sub fun u B4 H4 g4 hu => ?_
      · exact ev_tupOfL (em_sorted (ev_var 6 rfl hu)).vl
      · exact k u B4 H4 (g3.trans g4) ⟨_, rows_ok srt (fun _ _ => mem_srt) srt_len fun l h => (srt_perm l).nodup_iff.mpr h, hu⟩
abbrev spLawRows : Sp := Pr fun vs B P => ∃ (v : V) (ps : List (Nat × Nat)) (n : Nat), vs = [vn n, v] ∧ TO I2 ps v B ∧ PsOk n ps ∧ ps.length ≤ 1000 ∧ n ≤ 1000 ∧ P = fun v B' => ∃ rows, RowsOk n ps rows ∧ LO (fun l => IL l) rows v B'
theorem sc__law_rows : FnScope ["_law_size", "_law_pairs", "_law_found", "_law_number", "_law_one", "_law_two", "_law_row"] ["_law_size", "_law_pairs"] (defScope (tp 49)) := ⟨rfl, rfl, rfl, by decide +kernel, rfl, by decide +kernel, by decide +kernel⟩
set_option maxHeartbeats 1000000 in
theorem ok_law_rows (D : Dn K mg "_law_rows" "_law_rows" (tp 49)) (T : Tx mg) : Cal P w K mg base 1 "_law_rows" spLawRows := by
  refine cal_of D sc__law_rows (fun _ _ _ _ _ _ us hl => match us, hl with | [_, _], _ => rfl) (fun vs H Q E h => ?_) (fun cdv A outer s f H vs Q E hr h => ?_)
  · obtain ⟨B, P, s, ⟨v, ps, n, rfl, _⟩, _⟩ := h
    rfl
  · obtain ⟨B0, P, s0, ⟨v, ps, n, rfl, hp, hps, hle, hn, rfl⟩, k⟩ := h
    refine ⟨_, (pss_cons (ps_setLc (i := 2) (own := [("_law_number", 3)]) rfl sc__law_rows.nd rfl rfl (sw_true rfl rfl rfl (by decide +kernel)) (pi_range1 rfl T.range (pa_cons (pv 0) pa_nil)) (blkOk_by (by kernel_rfl)) (fun _ _ _ _ _ => (pg_name (i := 3) sc__law_rows.nd rfl (.inl rfl))) (fun _ _ _ _ _ => pts_nil) (fun _ _ _ _ _ => (pe_lst pa_nil)))
      (pss_cons (ps_for PassesOwn.never rfl (piT K (pv 1)) (pgT K rfl (pgs_cons (pg_name (i := 4) sc__law_rows.nd rfl (.inl rfl)) (pgs_cons (pg_name (i := 5) sc__law_rows.nd rfl (.inl rfl)) pgs_nil)) (n := 2))
        (pss_cons (ps_expr (bmK K PySem.F.plainAttrs_list PySem.F.slot_list_append PySem.F.type_list_append mt_append (pe_ix (ixL K) (pv 2) (pv 4) (fun _ _ => rfl)) (pa_cons (pv 5) pa_nil)))
        (pss_one (ps_expr (bmK K PySem.F.plainAttrs_list PySem.F.slot_list_append PySem.F.type_list_append mt_append (pe_ix (ixL K) (pv 2) (pv 5) (fun _ _ => rfl)) (pa_cons (pv 4) pa_nil))))))
      (pss_one (ps_ret (pe_lc (own := [("_law_row", 6)]) rfl sc__law_rows.nd (piL K (pv 2)) (blkOk_by (by kernel_rfl)) (fun _ _ _ _ _ => (pg_name (i := 6) sc__law_rows.nd rfl (.inl rfl))) (fun _ _ _ _ _ => pts_nil) (fun _ _ _ _ _ => (pe_callB (srtI K) (by rfl) T.sorted (by decide +kernel) (pa_cons (pv 6) pa_nil)))))))), ?_⟩
    refine a_empties (D := { nx := _, rt := _ }) (ei_rng1 (n := n) (ea_x (evx 0 rfl) ea_nil) (by omega)) s0 (by rw [List.length_range]; omega) (fun _ => rfl) fun D as B1 H1 g1 n0 nb hd na o => ?_
    refine s_for (D := { nx := _, rt := _ }) (ei_tup (ev_var 1 rfl (Mn.mn g1.bb hp))) g1.sub (fun i σ B H' => ∃ x3 x4 x5 x6, σ = [some (vn n), some v, some (.ref D), x3, x4, x5, x6] ∧ Rst n v B0 H (ps.take i) D as B H')
      (fun B2 H2 g2 => ?_) (fun i p u σ B2 H2 hi s2 => ?_) (fun σ B2 H2 s2 => ?_)
    · exact ⟨_, _, _, _, rfl, Rst.start (g1.trans g2) n0 (g2.own nb hd mo_lst).1 (g2.hh _ _ hd) na (o.grow g2)⟩
    · rintro ⟨x3, x4, x5, x6, rfl, r⟩ ⟨c, rfl, hc⟩
      obtain ⟨h1, h2⟩ := hps.lt p (List.mem_of_getElem? hi)
      obtain ⟨a1, e1, q1, n1, m1, z1⟩ := r.row (i := p.1) (by omega)
      obtain ⟨a2, e2, q2, n2, m2, z2⟩ := r.row (i := p.2) h2
      refine ⟨c, _, rfl, SqT.of (s2 _ _ hc), rfl, _, _, rfl, _, _, rfl, rfl, ?_⟩
      refine s_app (ev_ixVM (v := .ref a1) (evx 2 rfl) (evx 4 rfl) r.lst (by rw [List.getElem?_map, e1]; rfl)) (evx 5 rfl) s2 q1 (by rw [List.length_map]; exact lenN _ (by have := rowOf_len (ps.take i) p.1; rw [List.length_take] at this; omega)) fun v3 B3 H3 g3 q3 e3 => ?_
      cases e3
      have ne : a2 ≠ a1 := fun z => by have := nd_ix r.ow.nd e2 (z ▸ e1); omega
      have s4 : Same B3 (upd H3 a1 (.lst (((rowOf (ps.take i) p.1).map vn) ++ [vn p.2]))) := same_off g3.sub (g3.own m1 q1 mo_lst).1
      refine s_app (ev_ixVM (v := .ref a2) (evx 2 rfl) (evx 5 rfl) (by rw [upd_ne n1.symm]; exact g3.hh _ _ r.lst) (by rw [List.getElem?_map, e2]; rfl)) (evx 4 rfl) s4 (by rw [upd_ne ne]; exact g3.hh _ _ q2) (by rw [List.length_map]; exact lenN _ (by have := rowOf_len (ps.take i) p.2; rw [List.length_take] at this; omega)) fun v5 B5 H5 g5 q5 e5 => ?_
      cases e5
      have t := r.two h1 h2 e1 e2 g3 (B2 := B5) (H2 := H5) (by rw [List.map_append]; exact g5)
      refine ⟨B5, g3.bb.trans g5.bb, ?_, _, _, _, _, rfl, ?_⟩
      · have := t.gr.sub
        rw [List.map_append] at this; exact this
      · rw [List.take_add_one, hi]
        rw [List.map_append] at t; exact t
    · rintro ⟨x3, x4, x5, x6, rfl, r⟩
      rw [List.take_length] at r
      obtain ⟨B3, g3, hl⟩ := r.done
      refine s_ret (D := { nx := _, rt := _ }) (P := LO (fun l => IL l) ((rowsOf n ps).map srt)) (em_lcM (R' := fun l => IL l) (ei_list (ev_var 2 rfl hl)) srt (by unfold rowsOf; simp; omega) (fun _ => rfl) fun row u B4 H4 _ g4 hu => ?_).lo g3.sub fun u B4 H4 g4 hu => ?_
      · exact (em_sorted (ev_var 6 rfl hu)).vl
      · exact k u B4 H4 (g3.trans g4) ⟨_, rows_ok srt (fun _ _ => mem_srt) srt_len fun l h => (srt_perm l).nodup_iff.mpr h, hu⟩
end
end Lw
/-! Lh: reached. -/
namespace Lw
open PySem PySem.Spec PyProof.Rows L2
section
variable {P : Program} {w : World} {K : PySem.W.Frag} {mg : Str → Option Value} {base : Heap}
variable {B H B0 H0 B1 H1 B2 H2 B' H' : Hp} {σ : Slo} {te ta tb tl : TE} {a b : Bool} {x : V} {m n i j : Nat}
/-- {k: True} -/
theorem a_disp1 {k c : Nat} {D : Ends} (hk : σ[k]? = some (some (vn c))) (q : ∀ p, H p = none → D.nx (σ.set i (some (.ref p))) (upd H p (.dK (dts [c])))) : tAsg (tDisp [(tVar k, tC (.bl true))]) (gName i) D σ H := fun p hp =>
  ⟨vn c, hk, upd_same, [(ky c, .bl true)], rfl, by simp, by
    rw [upd_upd]
    exact q p hp⟩
/-- a for over a tuple that is known -/
theorem ei_at {α : Type} {R : α → VP} {xs : List α} [∀ x, Mn (R x)] {c : Addr} {vs : List V} (h : B c = some (.tup vs)) (r : Rs R xs vs B) : EvI (fun _ H T => T (Itt K c) H) σ B H R xs := fun B1 H1 g1 T k =>
  k (Itt K c) B1 H1 vs g1.ok (r.mn g1.bb) (wk_tup (g1.bb _ _ h) r.len)
/-- a search's state between two turns of the while -/
structure Rc (n : Nat) (ps : List (Nat × Nat)) (ins : List Nat) (c : Nat) (B0 H0 : Hp) (d L : Addr) (ks todo : List Nat) (B H : Hp) : Prop where
  gr : Gr B0 H0 B H
  hd : H d = some (.dK (dts ks))
  bd : B d = none
  d0 : H0 d = none
  hL : H L = some (.lst (todo.map vn))
  bL : B L = none
  L0 : H0 L = none
theorem Rc.ne {ps : List (Nat × Nat)} {ins : List Nat} {c : Nat} {d L : Addr} {ks todo : List Nat} (r : Rc n ps ins c B0 H0 d L ks todo B H) : d ≠ L := ne_of r.hd r.hL (fun e => nomatch e)
theorem Rc.grow {ps : List (Nat × Nat)} {ins : List Nat} {c : Nat} {d L : Addr} {ks todo : List Nat} (r : Rc n ps ins c B0 H0 d L ks todo B H) (g : Gr B H B' H') : Rc n ps ins c B0 H0 d L ks todo B' H' :=
  ⟨r.gr.trans g, g.hh _ _ r.hd, (g.own r.bd r.hd mo_dK).1, r.d0, g.hh _ _ r.hL, (g.own r.bL r.hL mo_lst).1, r.L0⟩
theorem Rc.putL {ps : List (Nat × Nat)} {ins : List Nat} {c : Nat} {d L : Addr} {ks todo : List Nat} (todo' : List Nat) (r : Rc n ps ins c B0 H0 d L ks todo B H) : Rc n ps ins c B0 H0 d L ks todo' B (upd H L (.lst (todo'.map vn))) :=
  ⟨r.gr.put r.L0 r.bL, by rw [upd_ne r.ne]; exact r.hd, r.bd, r.d0, upd_same, r.bL, r.L0⟩
theorem Rc.putD {ps : List (Nat × Nat)} {ins : List Nat} {c : Nat} {d L : Addr} {ks todo : List Nat} (ks' : List Nat) (r : Rc n ps ins c B0 H0 d L ks todo B H) : Rc n ps ins c B0 H0 d L ks' todo B (upd H d (.dK (dts ks'))) :=
  ⟨r.gr.put r.d0 r.bd, upd_same, r.bd, r.d0, by rw [upd_ne r.ne.symm]; exact r.hL, r.bL, r.L0⟩
abbrev spReached : Sp := Pr fun vs B P => ∃ (v u : V) (ps : List (Nat × Nat)) (n c : Nat) (rows : List (List Nat)) (ins : List Nat), vs = [v, u, vn c] ∧ LO (fun l => IT l) rows v B ∧ VD ins u B ∧ PsOk n ps ∧ RowsOk n ps rows ∧ c < n ∧ ins.length ≤ 1000 ∧ 
  P = fun v B' => ∃ ks, ks.Nodup ∧ (∀ k, k ∈ ks ↔ Rch (Adj ps) (· ∈ ins) c k) ∧ ks.length ≤ ins.length + 1 ∧ VD ks v B'
theorem rch_lt {ps : List (Nat × Nat)} {S : Nat → Prop} {c k : Nat} (h : PsOk n ps) (hc : c < n) (r : Rch (Adj ps) S c k) : k < n := by
  cases r with
  | refl => exact hc
  | step _ e _ => exact (Adj.lt h e).2
theorem sc_reached : FnScope ["rows", "inside", "start", "found", "todo", "other"] ["rows", "inside", "start"] (defScope (tp 7)) := ⟨rfl, rfl, rfl, by decide +kernel, rfl, by decide +kernel, by decide +kernel⟩
set_option maxHeartbeats 1000000 in
theorem ok_reached (D : Dn K mg "reached_checks" "reached" (tp 7)) (T : Tx mg) : Cal P w K mg base 1 "reached_checks" spReached := by
  refine cal_of D sc_reached (fun _ _ _ _ _ _ us hl => match us, hl with | [_, _, _], _ => rfl) (fun vs H Q E h => ?_) (fun cdv A outer s f H vs Q E hr h => ?_)
  · obtain ⟨B, P, s, ⟨v, u, ps, n, c, rows, ins, rfl, _⟩, _⟩ := h
    rfl
  · obtain ⟨B0, P, s0, ⟨v, u, ps, n, c, rows, ins, rfl, hrows, hins, hps, hro, hc, hle, rfl⟩, k⟩ := h
    refine ⟨_, (pss_cons (ps_set (i := 3) sc_reached.nd rfl (.inl rfl) (pe_disp (pps_cons (pv 2) pe_bl pps_nil) (by rfl) (by rfl) (fun z => by cases z) (by decide)))
      (pss_cons (ps_set (i := 4) sc_reached.nd rfl (.inl rfl) (pe_lst (pa_cons (pv 2) pa_nil)))
      (pss_cons (ps_while PassesOwn.never (pt_cmpR op_gt (pe_callB (lenS K) (by rfl) T.len PySem.boot_len (pa_cons (pv 4) pa_nil)) pe_int (nomark _)) (pss_one (ps_for PassesOwn.never rfl (piT K (pe_ix (ixL K) (pv 0) (bmK0 K PySem.F.plainAttrs_list PySem.F.slot_list_pop PySem.F.type_list_pop mt_pop (pv 4)) (fun _ _ => rfl))) (pg_name (i := 5) sc_reached.nd rfl (.inl rfl))
          (pss_one (ps_if (PW.pt (pw_and (pt_cmp (pc_din (hu_of hr) (pv 5) (pv 1)) rfl) (pw_and1 (pt_cmp (pc_dnotin (hu_of hr) (pv 5) (pv 3)) rfl)))) (pss_cons (ps_dput (hu_of hr) (pv 3) (pv 5) pe_bl rfl)
            (pss_one (ps_expr (bmK K PySem.F.plainAttrs_list PySem.F.slot_list_append PySem.F.type_list_append mt_append (pv 4) (pa_cons (pv 5) pa_nil))))) pss_nil)))))
      (pss_one (ps_ret (pv 3)))))), ?_⟩
    refine a_disp1 rfl fun d hd => ?_
    have s1 : Same B0 (upd H d (.dK (dts [c]))) := same_off s0 (none_of_same s0 hd)
    refine s_asgM (em_lst (xs := [vn c]) (ea_x (evx 2 rfl) ea_nil)) s1 fun L vs B1 H1 g1 nL bL hL e => ?_
    cases e
    have nL0 : H L = none := (same_new hd).free nL
    have hd0 : B0 d = none := none_of_same s0 hd
    obtain ⟨bd1, hd1⟩ := g1.own hd0 upd_same mo_dK
    have rc0 : Rc n ps ins c B0 H d L [c] [c] B1 H1 := ⟨(Gr.newM s0 hd).trans g1, hd1, bd1, hd, hL, bL, nL0⟩
    refine s_while (fun m σ B' H' => ∃ ks todo x5, σ = [some v, some u, some (vn c), some (.ref d), some (.ref L), x5] ∧ Rc n ps ins c B0 H d L ks todo B' H' ∧ Sr (Adj ps) (· ∈ ins) c ks todo ∧ m = 2 * (ins.length + 1 - ks.length) + todo.length ∧ m ≤ 2 * ins.length + 1) _ g1.sub
      ⟨[c], [c], none, rfl, rc0, Sr.start, rfl, by simp⟩ fun m σ B2 H2 s2 => ?_
    rintro ⟨ks, todo, x5, rfl, r, sr, rfl, hm0⟩
    refine ⟨decide (0 < todo.length), et_val (ev_gtN (ev_lenM (n := todo.length) (evx 4 rfl) r.hL (List.length_map ..)) ev_0), fun ht B3 H3 g3 => ?_, fun hf B3 H3 g3 => ?_⟩
    · -- a turn
      have ht := of_decide_eq_true ht
      obtain ⟨t', q, rfl⟩ : ∃ t' q, todo = t' ++ [q] := ⟨todo.dropLast, todo.getLast (List.ne_nil_of_length_pos ht), (List.dropLast_concat_getLast _).symm⟩
      have r3 := r.grow g3
      have hq : q ∈ ks := sr.sub q (by simp)
      have hqn : q < n := rch_lt hps hc (sr.rch q hq)
      obtain ⟨row, erow, _, hrow, _⟩ := hro.at hqn
      have hLe : H3 L = some (.lst (t'.map vn ++ [vn q])) := by rw [r3.hL, List.map_append]; rfl
      refine ⟨v, rfl, pop_go (evx 4 rfl) g3.sub hLe fun B4 H4 g4 h4 => ?_⟩
      have r4 := r3.grow g4
      have r5 := r4.putL t'
      have gB := r5.gr
      obtain ⟨av, vs, rfl, hav, rrs⟩ := (Mn.mn gB.bb hrows : LO (fun l => IT l) rows v B4)
      obtain ⟨rv, erv, at_, rfl, hat⟩ := rrs.get erow
      refine ⟨av, vs, (q : Nat), .ref at_, rfl, rfl, SqL.of (gB.sub _ _ hav), atI_nat erv, at_, rfl, ⟨_, SqT.of (gB.sub _ _ hat)⟩, ?_⟩
      refine s_for (wi := fun _ H T => T (Itt K at_) H) (R := RN) (xs := row) (ei_at (B := B4) hat (Rs.ofv vn row)) gB.sub
        (fun i σ B' H' => ∃ ks' todo' x5, σ = [some (.ref av), some u, some (vn c), some (.ref d), some (.ref L), x5] ∧ Rc n ps ins c B0 H d L ks' todo' B' H' ∧ St1 (Adj ps) (· ∈ ins) c q (row.take i) ks' todo' ∧ 2 * (ins.length + 1 - ks'.length) + todo'.length + 1 ≤ 2 * (ins.length + 1 - ks.length) + (t' ++ [q]).length)
        (fun B5 H5 g5 => ?_) (fun i y yv σ B5 H5 hy s5 => ?_) (fun σ B5 H5 s5 => ?_)
      · exact ⟨ks, t', _, rfl, r5.grow g5, sr.out, by rw [List.length_append]; simp; omega⟩
      · rintro ⟨ks', todo', x5, rfl, r, st, hm⟩ e
        cases e
        show tIfS _ _ _ _ _ _
        refine s_if (et_and (b := decide (y ∈ ins)) (c := !decide (y ∈ ks')) (et_B (ev_inD (evx 5 rfl) (ev_var 1 rfl (Mn.mn r.gr.bb hins)))) fun _ => et_B (ev_niDM (evx 5 rfl) (evx 3 rfl) r.hd)) s5 (fun e B6 H6 g6 => ?_) (fun e B6 H6 g6 => ?_)
        · have e1 : y ∈ ins := by
            cases h : decide (y ∈ ins) with
            | true => exact of_decide_eq_true h
            | false => rw [h] at e; cases e
          have e2 : y ∉ ks' := by
            cases h : decide (y ∈ ks') with
            | true => rw [h, decide_eq_true e1] at e; cases e
            | false => exact of_decide_eq_false h
          have r6 := r.grow g6
          have hl := st.le
          refine s_dput ev_c (evx 3 rfl) (evx 5 rfl) g6.sub r6.hd (by omega) fun B7 H7 g7 h7 => ?_
          have r7 := (r6.grow g7).putD (Lw.ins ks' y)
          refine s_app (evx 4 rfl) (evx 5 rfl) r7.gr.sub r7.hL (by rw [List.length_map]; omega) fun v8 B8 H8 g8 h8 e8 => ?_
          cases e8
          have r8 := (r7.grow g8).putL (todo' ++ [y])
          have ei : Lw.ins ks' y = ks' ++ [y] := by unfold Lw.ins; rw [if_neg e2]
          rw [ei] at r8
          have st' := st.new e2 e1 ((hrow y).mp (List.mem_of_getElem? hy))
          refine ⟨B8, (g6.bb.trans g7.bb).trans g8.bb, ?_, ks' ++ [y], todo' ++ [y], _, rfl, ?_, ?_, ?_⟩
          · have := r8.gr.sub
            rw [List.map_append] at this; exact this
          · rw [List.map_append] at r8; exact r8
          · rw [List.take_add_one, hy]; exact st'
          · have := st'.le
            rw [List.length_append, List.length_singleton] at this
            rw [List.length_append, List.length_append, List.length_singleton]; simp only [List.length_append, List.length_singleton] at hm ⊢; omega
        · refine ⟨B6, g6.bb, g6.sub, ks', todo', _, rfl, r.grow g6, ?_, hm⟩
          rw [List.take_add_one, hy]
          exact st.old fun hs => by
            rw [decide_eq_true hs, Bool.true_and] at e
            cases h : decide (y ∈ ks') with
            | true => exact of_decide_eq_true h
            | false => rw [h] at e; cases e
      · rintro ⟨ks', todo', x5, rfl, r, st, hm⟩
        rw [List.take_length] at st
        exact ⟨_, B5, by omega, s5, ks', todo', _, rfl, r, st.back (fun c h => (hrow c).mpr h), rfl, by omega⟩
    · have hf : todo = [] := List.eq_nil_of_length_eq_zero (by have := of_decide_eq_false hf; omega)
      subst hf
      have r3 := r.grow g3
      refine s_ret (evx 3 rfl) g3.sub fun v4 B4 H4 g4 e4 => ?_
      cases e4
      have r4 := r3.grow g4
      exact k _ _ _ (r4.gr.settle r4.d0 r4.bd r4.hd) ⟨ks, sr.nd, sr.all, sr.le, d, rfl, upd_same⟩
end
end Lw
/-! Li: objects: webs, books. -/
namespace Lw
open PySem PySem.Spec PyProof.Rows L2
/-- a class as it stands, its attributes' names free -/
structure Ck (K : PySem.W.Frag) (mg : Str → Option Value) (x : Str) (C : Addr) (fp : Str) : Prop where
  m : mg x = some (.ref C)
  cl : Cls K C
  nS : NoAttr K C "kept_size"
  nP : NoAttr K C fp
  nF : NoAttr K C "kept_facts"
structure Mak (P : Program) (w : World) (K : PySem.W.Frag) (mg : Str → Option Value) (base : Heap) (k : Nat) (x : Str) (C : Addr) (sp : Sp) : Prop where
  ex : ∃ f fd ps, Mk K C f ∧ FnOk P w K mg base CX0 k f fd ps sp ∧ mg x = some (.ref C) ∧ Binds K fd ps []
structure Prp (P : Program) (w : World) (K : PySem.W.Frag) (mg : Str → Option Value) (base : Heap) (C : Addr) (f kf : Str) : Prop where
  ex : ∃ p g fd ps, Cls K C ∧ PropOf K C f p g ∧ FnOk P w K mg base CX0 1 g fd ps (getSp C kf) ∧ Binds K fd ps []
section
variable {X : Cx} {k j : Nat} {x : Str} {sp : Sp} {C : Addr} {p pos : Pos} {e : Expr} {es : List Expr} {t : TA} {te : TE} {f kf : Str}
theorem pe_mk (c : Mak X.prog X.w X.K X.mg X.base k x C sp) (hr : Room j X.A) (hk : k + 1 ≤ j) (hg : Gl X x) (ha : PA X (e :: es) t)
    (hdb : (x == ("__debug__" : Str)) = false := by decide) (he : starEach (e :: es) X.env = (false, eval e X.env) :: starEach es X.env := by rfl) (hpl : (backTo pos (starEach es X.env)).any (·.1) = false := by rfl) :
    PE X (.Call (.Name x p) (e :: es) [] pos) (tMake C sp [] E0 t) := by
  obtain ⟨f, fd, ps, M, F, hm, hb⟩ := c.ex
  exact pe_make M F (hr.mono hk) hg hm hb .nil pass0 ha hdb he hpl
theorem pe_pr (c : Prp X.prog X.w X.K X.mg X.base C f kf) (hr : Room j X.A) (hk : 2 ≤ j) (he : PE X e te) (hab : attributeBase e f X.env (eval e X.env) = eval e X.env) : PE X (.Attribute e f pos) (tProp C (getSp C kf) [] E0 te) := by
  obtain ⟨p, g, fd, ps, cl, hp, F, hb⟩ := c.ex
  exact pe_prop he cl hp F (hr.mono hk) hb .nil pass0 hab
end
section
variable {P : Program} {w : World} {K : PySem.W.Frag} {mg : Str → Option Value} {base : Heap}
variable {B H B0 H0 B1 H1 B2 H2 B' H' : Hp} {σ : Slo} {te ta tb tl td tv : TE} {a C dx : Addr} {b : Bool} {x v : V} {m n i j : Nat} {fs : List (Str × V)} {f kf : Str} {PV : VP}
/-- an attribute: of a settled object, of one's own -/
theorem ev_fld (h : Ev te σ B H (RX (.ref a))) (ha : B a = some (.ins C dx fs)) (c : Cls K C) (n : NoAttr K C f) (l : fs.lookup f = some v) : Ev (tFld K te f) σ B H (RX v) := fun B1 H1 g1 Q k =>
  h B1 H1 g1 _ fun x B2 H2 g e => ⟨a, C, dx, fs, v, e, g.sub _ _ (g.bb _ _ (g1.bb _ _ ha)), c, n, l, k v B2 H2 g rfl⟩
theorem ev_fldM (h : Ev te σ B H (RX (.ref a))) (ha : H a = some (.ins C dx fs)) (c : Cls K C) (n : NoAttr K C f) (l : fs.lookup f = some v) : Ev (tFld K te f) σ B H (RX v) := fun B1 H1 g1 Q k =>
  h B1 H1 g1 _ fun x B2 H2 g e => ⟨a, C, dx, fs, v, e, g.hh _ _ (g1.hh _ _ ha), c, n, l, k v B2 H2 g rfl⟩
theorem ev_prop {E : XK} (h : Ev te σ B H (RX (.ref a))) (ha : B a = some (.ins C dx fs)) (l : fs.lookup kf = some v) : Ev (tProp C (getSp C kf) [] E te) σ B H (RX v) := fun B1 H1 g1 Q k =>
  h B1 H1 g1 _ fun x B2 H2 g e => ⟨a, dx, fs, e, g.sub _ _ (g.bb _ _ (g1.bb _ _ ha)), a, dx, fs, v, rfl, g.sub _ _ (g.bb _ _ (g1.bb _ _ ha)), l, k v B2 H2 g rfl⟩
theorem s_fld {D : Ends} (hv : Ev tv σ B H PV) (ho : Ev te σ B H (RX (.ref a))) (s : Same B H) (ha : H a = some (.ins C dx fs)) (c : Cls K C) (n : NoAttr K C f) (hl : fs.length < 1000) [Mn PV]
    (k : ∀ v B' H', Gr B H B' H' → H' a = some (.ins C dx fs) → PV v B' → D.nx σ (upd H' a (.ins C dx (putF f v fs)))) : sFld K te tv f D σ H :=
  hv.go s fun v B1 H1 g1 p => ho B1 H1 g1 _ fun x B2 H2 g2 e => ⟨a, C, dx, fs, e, g2.hh _ _ (g1.hh _ _ ha), c, n, hl, k v B2 H2 (g1.trans g2) (g2.hh _ _ (g1.hh _ _ ha)) (Mn.mn g2.bb p)⟩
/-- {k: e}, k a written text -/
theorem ev_disp1 {k : Str} (h : Ev tv σ B H PV) [Mn PV] : Ev (tDisp [(tC (.str k), tv)]) σ B H (fun v B' => ∃ d l, v = .ref d ∧ B' d = some (.dK [(.inr k, l)]) ∧ PV l B') := fun B1 H1 g1 Q q p hp =>
  h B1 (upd H1 p (.dK [])) (g1.trans (Gr.newM g1.sub hp)) _ fun v B2 H2 g2 pv => by
    have n1 : B1 p = none := none_of_same g1.sub hp
    obtain ⟨n2, h2⟩ := g2.own n1 upd_same mo_dK
    have gg : Gr B1 H1 B2 (upd H2 p (.dK [(.inr k, v)])) := (((Gr.newM g1.sub hp).trans g2)).put hp n2
    exact ⟨h2, [(.inr k, v)], rfl, by simp, q (.ref p) (upd B2 p (.dK [(.inr k, v)])) _ (gg.settle hp n2 upd_same) ⟨p, v, rfl, upd_same, Mn.mn (same_new n2) pv⟩⟩
/-- d[k], k a written text -/
theorem ev_dgetS {k : Str} {l : V} (h : Ev td σ B H (RX (.ref a))) (ha : B a = some (.dK [(.inr k, l)])) : Ev (tDGet td (tC (.str k))) σ B H (RX l) := fun B1 H1 g1 Q q =>
  h B1 H1 g1 _ fun x B2 H2 g e => ⟨a, l, e, by
    have z := DGet.k (k := Sum.inr k) (g.sub _ _ (g.bb _ _ (g1.bb _ _ ha)))
    rw [valV_pos rfl] at z; exact z, q l B2 H2 g rfl⟩
theorem ev_lenD (h : Ev te σ B H PV) (hp : ∀ v B', PV v B' → ∃ ks, VD ks v B' ∧ ks.length = n) : Ev (tCB (fun xs H Q => ∃ a kvs, xs = [V.ref a] ∧ H a = some (.dK kvs) ∧ Q (.int kvs.length) H) (tCons te tNil)) σ B H (RX (vn n)) := fun B1 H1 g1 Q q =>
  h B1 H1 g1 _ fun x B2 H2 g e => by
    obtain ⟨ks, ⟨a, rfl, ha⟩, rfl⟩ := hp _ _ e
    exact ⟨a, _, rfl, g.sub _ _ ha, q _ B2 H2 g (by rw [len_dts]; rfl)⟩
/-! ### what a web, a book is -/
def WebO (C : Addr) (n : Nat) (ps : List (Nat × Nat)) (d : Addr) : VP := fun v B => ∃ x dx fs t, v = .ref x ∧ B x = some (.ins C dx fs) ∧ fs.lookup ("kept_size" : Str) = some (vn n) ∧ fs.lookup ("kept_pushes" : Str) = some t ∧ TO I2 ps t B ∧ fs.lookup ("kept_facts" : Str) = some (.ref d)
def WebHot (C : Addr) (n : Nat) (ps : List (Nat × Nat)) (rows : List (List Nat)) : VP := fun v B => ∃ d l, WebO C n ps d v B ∧ B d = some (.dK [(.inr "beside", l)]) ∧ LO (fun r => IT r) rows l B
def BookV (C : Addr) (m : Nat) (ts : List (Nat × Nat)) (rows : List (List Nat)) : VP := fun v B => ∃ x dx fs t d l, v = .ref x ∧ B x = some (.ins C dx fs) ∧ fs.lookup ("kept_size" : Str) = some (vn m) ∧ fs.lookup ("kept_ties" : Str) = some t ∧ TO I2 ts t B ∧ fs.lookup ("kept_facts" : Str) = some (.ref d) ∧
  B d = some (.dK [(.inr "tied", l)]) ∧ LO (fun r => IT r) rows l B
instance {ps : List (Nat × Nat)} {d : Addr} : Mn (WebO C n ps d) := ⟨fun s ⟨x, dx, fs, t, e, h1, h2, h3, h4, h5⟩ => ⟨x, dx, fs, t, e, s _ _ h1, h2, h3, Mn.mn s h4, h5⟩⟩
instance {ps : List (Nat × Nat)} {rows : List (List Nat)} : Mn (WebHot C n ps rows) := ⟨fun s ⟨d, l, h1, h2, h3⟩ => ⟨d, l, Mn.mn s h1, s _ _ h2, Mn.mn s h3⟩⟩
instance {ts : List (Nat × Nat)} {rows : List (List Nat)} : Mn (BookV C m ts rows) := ⟨fun s ⟨x, dx, fs, t, d, l, e, h1, h2, h3, h4, h5, h6, h7⟩ => ⟨x, dx, fs, t, d, l, e, s _ _ h1, h2, h3, Mn.mn s h4, h5, s _ _ h6, Mn.mn s h7⟩⟩
/-- an __init__'s promise: the object at x is its own; what it leaves is settled with it -/
structure Ob (B0 H0 : Hp) (x C dx : Addr) (fs : List (Str × V)) (B H : Hp) : Prop where
  gr : Gr B0 H0 B H
  hx : H x = some (.ins C dx fs)
  bx : B x = none
  x0 : H0 x = none
theorem Ob.grow {x : Addr} (o : Ob B0 H0 x C dx fs B H) (g : Gr B H B' H') : Ob B0 H0 x C dx fs B' H' := ⟨o.gr.trans g, g.hh _ _ o.hx, (g.own o.bx o.hx mo_ins).1, o.x0⟩
theorem Ob.put {x : Addr} (fs' : List (Str × V)) (o : Ob B0 H0 x C dx fs B H) : Ob B0 H0 x C dx fs' B (upd H x (.ins C dx fs')) := ⟨o.gr.put o.x0 o.bx, upd_same, o.bx, o.x0⟩
theorem Ob.settle {x : Addr} (o : Ob B0 H0 x C dx fs B H) : Gr B0 H0 (upd B x (.ins C dx fs)) H := o.gr.settle o.x0 o.bx o.hx
theorem Ob.new {x : Addr} (s : Same B H) (hx : H x = none) (hd : H dx = none) (ne : dx ≠ x) : Ob B H x C dx [] B (upd (upd H dx (.own x)) x (.ins C dx [])) := by
  have hx2 : upd H dx (.own x) x = none := by rw [upd_ne ne.symm]; exact hx
  exact ⟨(Gr.newM s hd).trans (Gr.newM (same_off s (none_of_same s hd)) hx2), upd_same, none_of_same s hx, hx⟩
def spMk (C : Addr) (R : List V → Hp → VP → Prop) : Sp := fun vs H Q _ => ∃ B H0 x dx us PV, vs = .ref x :: us ∧ Ob B H0 x C dx [] B H ∧ R us B PV ∧ ∀ B' H', Gr B H0 B' H' → PV (.ref x) B' → Q .non H'
theorem ev_mk {R : List V → Hp → VP → Prop} {PL : List V → Hp → Prop} {tr : TA} {E : XK} (h : EvA tr σ B H PL) (hr : ∀ vs B', Same B B' → PL vs B' → R (vs ++ []) B' PV) : Ev (tMake C (spMk C R) [] E tr) σ B H PV := fun B1 H1 g1 Q k =>
  h B1 H1 g1 _ fun vs B2 H2 g2 p x dx hx hd ne =>
    ⟨B2, H2, x, dx, vs ++ [], PV, rfl, Ob.new g2.sub hx hd ne, hr vs B2 (g1.bb.trans g2.bb) p, fun B3 H3 g3 q => ⟨rfl, k _ B3 H3 (g2.trans g3) q⟩⟩
theorem mak_of {y nm qual : Str} {st : Stmt} {fa : Addr} {fd : FuncData} {N ps : List Str} {k : Nat} {sp : Sp} {fp : Str} (c : Ck K mg y C fp) (M : Mk K C fa) (F : Fun K nm qual st fa fd) (S : FnScope N ps (defScope st))
    (hb : ∀ (kV doc pm : Value) (an : Option Addr) (cdv ct : Value) (us : List Value), us.length = ps.length → bindArgs (PySem.W.fnOf nm qual (defArgs st) (defBody st) (defScope st) .none kV doc pm an cdv ct) ⟨us, []⟩ = pure (ps.zip us))
    (len : ∀ vs H Q E, sp vs H Q E → vs.length = ps.length)
    (body : ∀ (cdv : Value) (A : Around) (outer : List Env) (s : Shared) (f : Addr) (H : Hp) (vs : List V) (Q : VK) (E : XK), Room k (A.deeper (envOfC qual (defScope st) s.heap.objs.size f cdv)) → sp vs H Q E →
      ∃ t, PSs (cxOf CX0 P w K mg base N qual (defScope st) f cdv A outer s H E).nox (defBody st) t ∧ t { nx := fun _ H' => Q .non H', rt := Q } (start N vs) H) : Mak P w K mg base (k + 1) y C sp :=
  ⟨fa, fd, ps, M, F.ok S len fun cdv A outer s H vs Q E hr h => body cdv A outer s fa H vs Q E hr h, c.m, F.binds hb⟩
/-- a method of a class, of the text at st -/
structure Mth (K : PySem.W.Frag) (nm qual : Str) (st : Stmt) (fa : Addr) : Prop where
  ex : ∃ fd, Fun K nm qual st fa fd
theorem lk1 {v1 : V} : (putF "kept_size" v1 []).lookup ("kept_size" : Str) = some v1 := by rw [lookup_putF, if_pos rfl]
theorem lk3 {v1 v2 v3 : V} {g : Str} (h1 : ¬ ("kept_size" : Str) = g) (h2 : ¬ g = ("kept_facts" : Str)) (h3 : ¬ ("kept_size" : Str) = "kept_facts") : (putF "kept_facts" v3 (putF g v2 (putF "kept_size" v1 []))).lookup ("kept_size" : Str) = some v1 ∧ (putF "kept_facts" v3 (putF g v2 (putF "kept_size" v1 []))).lookup g = some v2 ∧
    (putF "kept_facts" v3 (putF g v2 (putF "kept_size" v1 []))).lookup ("kept_facts" : Str) = some v3 := by
  refine ⟨?_, ?_, ?_⟩
  · rw [lookup_putF, if_neg h3, lookup_putF, if_neg h1, lk1]
  · rw [lookup_putF, if_neg h2, lookup_putF, if_pos rfl]
  · rw [lookup_putF, if_pos rfl]
theorem len3 {g1 g2 : Str} {v1 v2 : V} : (putF g2 v2 (putF g1 v1 [])).length < 1000 := by
  have h1 := length_putF g1 v1 []
  have h2 := length_putF g2 v2 (putF g1 v1 [])
  rw [List.length_nil] at h1
  omega
theorem len2 {g1 : Str} {v1 : V} : (putF g1 v1 []).length < 1000 := by
  have h1 := length_putF g1 v1 []
  rw [List.length_nil] at h1
  omega
/-- Web(size, pushes): its facts' dict is its own, empty -/
abbrev spWeb (C : Addr) : Sp := fun vs H Q _ => ∃ B H0 x dx u n ps, vs = [.ref x, vn n, u] ∧ Ob B H0 x C dx [] B H ∧ TO I2 ps u B ∧ PsOk n ps ∧ ps.length ≤ 1000 ∧ 1 ≤ n ∧ n ≤ 1000 ∧
  ∀ B' H' d, Gr B H0 B' H' → WebO C n ps d (.ref x) B' → H0 d = none → B' d = none → H' d = some (.dK []) → Q .non H'
theorem sc_Web_init : FnScope ["self", "size", "pushes"] ["self", "size", "pushes"] (defScope (inClass (tp 24) 0)) := ⟨rfl, rfl, rfl, by decide +kernel, rfl, by decide +kernel, by decide +kernel⟩
theorem mk_web {fa : Addr} {fd : FuncData} (c : Ck K mg "Web" C "kept_pushes") (M : Mk K C fa) (F : Fun K "__init__" "Web.__init__" (inClass (tp 24) 0) fa fd) (T : Tx mg) (c_is_within : Cal P w K mg base 2 "is_within" spWithin) (c_are_rising_pairs : Cal P w K mg base 5 "are_rising_pairs" spRisingPairs) : Mak P w K mg base 6 "Web" C (spWeb C) := by
  refine mak_of c M F sc_Web_init (fun _ _ _ _ _ _ us hl => match us, hl with | [_, _, _], _ => rfl) (fun vs H Q E h => ?_) (fun cdv A outer s f H vs Q E hr h => ?_)
  · obtain ⟨B, H0, x, dx, u, n, ps, rfl, _⟩ := h
    rfl
  · obtain ⟨B, H0, x, dx, u, n, ps, rfl, o0, hu, hps, hle, h1, h2, k⟩ := h
    refine ⟨_, (pss_cons (ps_if (pt_not (pt_val (pe_k c_is_within hr (by decide) rfl (pa_cons (pv 1) (pa_cons pe_int (pa_cons (pe_glob (v := .int 10000) rfl T.MOST_STANDINGS.choose_spec ⟨_, rfl⟩) pa_nil)))))) (pss_one ps_never) pss_nil)
      (pss_cons (ps_if (pt_not (pt_val (pe_k c_are_rising_pairs hr (by decide) rfl (pa_cons (pv 2) (pa_cons (pv 1) (pa_cons (pe_glob (v := .int 100000) rfl T.MOST_PUSHES.choose_spec ⟨_, rfl⟩) pa_nil)))))) (pss_one ps_never) pss_nil)
      (pss_cons (ps_fld (pv 0) (pv 1) rfl)
      (pss_cons (ps_fld (pv 0) (pv 2) rfl)
      (pss_one (ps_fld (pv 0) pe_dnewK rfl)))))), ?_⟩
    refine s_if (b := false) (et_not (b := true) (et_B ((ev_call (P := RX (.bl (decide ((1 : Int) ≤ (n : Int)) && decide ((n : Int) ≤ 10000)))) (ea_x (evx 1 rfl) (ea_x ev_c (ea_x ev_c ea_nil))) fun vs B' _ e => ⟨n, 1, 10000, by cases e; rfl, rfl⟩).eq (by rw [decide_eq_true (by omega), decide_eq_true (by omega)]; rfl)))) o0.gr.sub (fun e => nomatch e) fun _ B1 H1 g1 => ?_
    have o1 := o0.grow g1
    refine s_if (b := false) (et_not (b := true) (et_B (ev_call (P := RX (.bl true)) (ea_c (ev_var 2 rfl (Mn.mn o1.gr.bb hu)) (ea_x (evx 1 rfl) (ea_x ev_c ea_nil))) fun vs B' _ ⟨v', ws, e, hv', e2⟩ => by
      cases e2; subst e
      exact ⟨v', ps, n, 100000, rfl, hv', hps, by omega, hle, rfl⟩))) o1.gr.sub (fun e => nomatch e) fun _ B2 H2 g2 => ?_
    have o2 := o1.grow g2
    refine s_fld (evx 1 rfl) (evx 0 rfl) o2.gr.sub o2.hx c.cl c.nS (by decide) fun v3 B3 H3 g3 e3 p3 => ?_
    cases p3
    have o3 := (o2.grow g3).put (putF "kept_size" (vn n) [])
    refine s_fld (ev_var 2 rfl (Mn.mn o3.gr.bb hu)) (evx 0 rfl) o3.gr.sub o3.hx c.cl c.nP len2 fun v4 B4 H4 g4 e4 p4 => ?_
    have o4 := (o3.grow g4).put (putF "kept_pushes" v4 (putF "kept_size" (vn n) []))
    refine fun d hd => ?_
    have d0 : H0 d = none := o4.gr.hh.free hd
    have bd : B4 d = none := none_of_same o4.gr.sub hd
    have o5 := (o4.grow (Gr.newM o4.gr.sub hd (o := .dK []))).put (putF "kept_facts" (.ref d) (putF "kept_pushes" v4 (putF "kept_size" (vn n) [])))
    have nxd : x ≠ d := ne_of_none o4.hx hd
    refine ⟨.ref x, rfl, x, C, dx, _, rfl, by rw [upd_ne nxd]; exact o4.hx, c.cl, c.nF, len3, ?_⟩
    obtain ⟨l1, l2, l3⟩ := lk3 (v1 := vn n) (v2 := v4) (v3 := .ref d) (g := "kept_pushes") (by decide +kernel) (by decide +kernel) (by decide +kernel)
    exact k _ _ d o5.settle ⟨x, dx, _, v4, rfl, upd_same, l1, l2, Mn.mn (same_new o5.bx) p4, l3⟩ d0 (by rw [upd_ne nxd.symm]; exact bd) (by rw [upd_ne nxd.symm, upd_same])
def RwT (m : Nat) (ts : List (Nat × Nat)) : VP := fun l B' => ∃ rows, RowsOk m ts rows ∧ LO (fun r => IT r) rows l B'
instance {ts : List (Nat × Nat)} : Mn (RwT m ts) := ⟨fun s ⟨rows, h, k⟩ => ⟨rows, h, Mn.mn s k⟩⟩
def DkS (k : Str) (PV : VP) : VP := fun v B' => ∃ d l, v = .ref d ∧ B' d = some (.dK [(.inr k, l)]) ∧ PV l B'
instance {k : Str} [Mn PV] : Mn (DkS k PV) := ⟨fun s ⟨d, l, e, h, q⟩ => ⟨d, l, e, s _ _ h, Mn.mn s q⟩⟩
/-- Book(size, ties) -/
abbrev spBook (C : Addr) : Sp := spMk C fun us B PV => ∃ u m ts, us = [vn m, u] ∧ TO I2 ts u B ∧ PsOk m ts ∧ ts.length ≤ 28 ∧ 1 ≤ m ∧ m ≤ 8 ∧ (∀ k, k < m → Rch (Adj ts) (· < m) 0 k) ∧ PV = fun v B' => ∃ rows, RowsOk m ts rows ∧ BookV C m ts rows v B'
theorem insAll_range (m k : Nat) : k ∈ insAll (List.range m) ↔ k < m := by rw [mem_insAll, List.mem_range]
theorem sc_Book_init : FnScope ["self", "size", "ties", "inside", "content"] ["self", "size", "ties"] (defScope (inClass (tp 19) 0)) := ⟨rfl, rfl, rfl, by decide +kernel, rfl, by decide +kernel, by decide +kernel⟩
set_option maxHeartbeats 1000000 in
theorem mk_book {fa : Addr} {fd : FuncData} (c : Ck K mg "Book" C "kept_ties") (M : Mk K C fa) (F : Fun K "__init__" "Book.__init__" (inClass (tp 19) 0) fa fd) (T : Tx mg) (c_is_within : Cal P w K mg base 2 "is_within" spWithin) (c_are_rising_pairs : Cal P w K mg base 5 "are_rising_pairs" spRisingPairs)
    (c_beside_lists : Cal P w K mg base 1 "beside_lists" spBesideLists) (c_reached_checks : Cal P w K mg base 1 "reached_checks" spReached) : Mak P w K mg base 6 "Book" C (spBook C) := by
  refine mak_of c M F sc_Book_init (fun _ _ _ _ _ _ us hl => match us, hl with | [_, _, _], _ => rfl) (fun vs H Q E h => ?_) (fun cdv A outer s f H vs Q E hr h => ?_)
  · obtain ⟨B, H0, x, dx, us, PV, rfl, _, ⟨u, m, ts, rfl, _⟩, _⟩ := h
    rfl
  · obtain ⟨B, H0, x, dx, us, PV, rfl, o0, ⟨u, m, ts, rfl, hu, hts, hle, h1, h2, hcon, rfl⟩, k⟩ := h
    refine ⟨_, (pss_cons (ps_if (pt_not (pt_val (pe_k c_is_within hr (by decide) rfl (pa_cons (pv 1) (pa_cons pe_int (pa_cons (pe_glob (v := .int 8) rfl T.MOST_CONTENTS.choose_spec ⟨_, rfl⟩) pa_nil)))))) (pss_one ps_never) pss_nil)
      (pss_cons (ps_if (pt_not (pt_val (pe_k c_are_rising_pairs hr (by decide) rfl (pa_cons (pv 2) (pa_cons (pv 1) (pa_cons (pe_glob (v := .int 28) rfl T.MOST_TIES.choose_spec ⟨_, rfl⟩) pa_nil)))))) (pss_one ps_never) pss_nil)
      (pss_cons (ps_fld (pv 0) (pv 1) rfl)
      (pss_cons (ps_fld (pv 0) (pv 2) rfl)
      (pss_cons (ps_fld (pv 0) (pe_disp (pps_cons pe_str (pe_k c_beside_lists hr (by decide) rfl (pa_cons (pv 1) (pa_cons (pv 2) pa_nil))) pps_nil) (by rfl) (by rfl) (fun z => by cases z) (by decide)) rfl)
      (pss_cons (ps_setDc (i := 3) (own := [("content", 4)]) rfl sc_Book_init.nd rfl rfl (sw_trueD rfl rfl rfl (by decide +kernel)) (pi_range1 rfl T.range (pa_cons (pv 1) pa_nil)) (blkOk_by (by kernel_rfl)) (fun _ _ _ _ _ => (pg_name (i := 4) sc_Book_init.nd rfl (.inl rfl))) (fun _ _ _ _ _ => pts_nil) (fun _ _ _ _ _ => (pv 4)) (fun _ _ _ _ _ => pe_bl))
      (pss_one (ps_if (pt_cmpR op_lt (pe_callB call_lenD (by rfl) T.len PySem.boot_len (pa_cons (pe_k c_reached_checks hr (by decide) rfl (pa_cons (pe_dget (hu_of hr) (fldK K (pv 0) rfl) pe_str (fun _ _ => rfl)) (pa_cons (pv 3) (pa_cons pe_int pa_nil)))) pa_nil)) (pv 1) (nomark _)) (pss_one ps_never) pss_nil)))))))), ?_⟩
    refine s_if (b := false) (et_not (b := true) (et_B ((ev_call (P := RX (.bl (decide ((1 : Int) ≤ (m : Int)) && decide ((m : Int) ≤ 8)))) (ea_x (evx 1 rfl) (ea_x ev_c (ea_x ev_c ea_nil))) fun vs B' _ e => ⟨m, 1, 8, by cases e; rfl, rfl⟩).eq (by rw [decide_eq_true (by omega), decide_eq_true (by omega)]; rfl)))) o0.gr.sub (fun e => nomatch e) fun _ B1 H1 g1 => ?_
    have o1 := o0.grow g1
    refine s_if (b := false) (et_not (b := true) (et_B (ev_call (P := RX (.bl true)) (ea_c (ev_var 2 rfl (Mn.mn o1.gr.bb hu)) (ea_x (evx 1 rfl) (ea_x ev_c ea_nil))) fun vs B' _ ⟨v', ws, e, hv', e2⟩ => by
      cases e2; subst e
      exact ⟨v', ts, m, 28, rfl, hv', hts, by omega, by omega, rfl⟩))) o1.gr.sub (fun e => nomatch e) fun _ B2 H2 g2 => ?_
    have o2 := o1.grow g2
    refine s_fld (evx 1 rfl) (evx 0 rfl) o2.gr.sub o2.hx c.cl c.nS (by decide) fun v3 B3 H3 g3 e3 p3 => ?_
    cases p3
    have o3 := (o2.grow g3).put (putF "kept_size" (vn m) [])
    refine s_fld (ev_var 2 rfl (Mn.mn o3.gr.bb hu)) (evx 0 rfl) o3.gr.sub o3.hx c.cl c.nP len2 fun v4 B4 H4 g4 e4 p4 => ?_
    have o4 := (o3.grow g4).put (putF "kept_ties" v4 (putF "kept_size" (vn m) []))
    refine s_fld (PV := DkS "tied" (RwT m ts)) (ev_disp1 (ev_call (P := RwT m ts) (ea_c (evx 1 rfl) (ea_c (ev_var 2 rfl (Mn.mn o4.gr.bb hu)) ea_nil)) fun vs B' _ hvs => ?_)) (evx 0 rfl) o4.gr.sub o4.hx c.cl c.nF len3 fun v5 B5 H5 g5 e5 p5 => ?_
    · obtain ⟨_, _, rfl, rfl, u', _, rfl, hu', rfl⟩ := hvs
      exact ⟨u', ts, m, rfl, hu', hts, by omega, by omega, rfl⟩
    obtain ⟨d, l, rfl, hd, rows, hro, hl⟩ := p5
    have o5 := (o4.grow g5).put (putF "kept_facts" (.ref d) (putF "kept_ties" v4 (putF "kept_size" (vn m) [])))
    obtain ⟨l1, l2, l3⟩ := lk3 (v1 := vn m) (v2 := v4) (v3 := .ref d) (g := "kept_ties") (by decide +kernel) (by decide +kernel) (by decide +kernel)
    refine s_asg (ev_dc (ei_rng1 (n := m) (ea_x (evx 1 rfl) ea_nil) (by omega)) (by rw [List.length_range]; omega) (fun _ => rfl) (fun _ => rfl)) o5.gr.sub fun v6 B6 H6 g6 p6 => ?_
    have o6 := o5.grow g6
    refine s_if (b := false) (et_val ((ev_ltN (m := m) (ev_lenD (n := m) (PV := fun v B' => ∃ ks, ks.Nodup ∧ (∀ k, k ∈ ks ↔ Rch (Adj ts) (· ∈ insAll (List.range m)) 0 k) ∧ ks.length ≤ (insAll (List.range m)).length + 1 ∧ VD ks v B')
      (ev_call (ea_c (P := RwT m ts) ((ev_dgetS (ev_fldM (evx 0 rfl) o6.hx c.cl c.nF l3) (g6.bb _ _ hd)).imp fun v B' s e => ?_) (ea_c (ev_var 3 rfl p6) (ea_c ev_c ea_nil))) fun vs B' _ hvs => ?_) fun v B' hv => ?_) (evx 1 rfl)).eq (by rw [decide_eq_false (Nat.lt_irrefl m)]))) o6.gr.sub (fun e => nomatch e) fun _ B7 H7 g7 => ?_
    · cases e
      exact ⟨rows, hro, Mn.mn s (Mn.mn g6.bb hl)⟩
    · obtain ⟨l', _, rfl, ⟨rows', hro', hl'⟩, u', _, rfl, hu', _, _, rfl, rfl, rfl⟩ := hvs
      exact ⟨l', u', ts, m, 0, rows', insAll (List.range m), rfl, hl', hu', hts, hro', h1, by have := insAll_len (List.range m); rw [List.length_range] at this; omega, rfl⟩
    · obtain ⟨ks, nd, hk, _, hv⟩ := hv
      refine ⟨ks, hv, Nat.le_antisymm ?_ ?_⟩
      · have := nodup_le (m := List.range m) nd fun x hx => List.mem_range.mpr ((insAll_range m x).mp (((hk x).mp hx).mem ((insAll_range m 0).mpr h1)))
        rw [List.length_range] at this; exact this
      · have := nodup_le (l := List.range m) (m := ks) List.nodup_range fun x hx => (hk x).mpr ((hcon x (List.mem_range.mp hx)).mono fun y hy => (insAll_range m y).mpr hy)
        rw [List.length_range] at this; exact this
    · have o7 := o6.grow g7
      have s67 : Same B5 B7 := g6.bb.trans g7.bb
      exact k _ _ o7.settle ⟨rows, hro, x, dx, _, v4, d, l, rfl, upd_same, l1, l2, Mn.mn ((g5.bb.trans s67).trans (same_new o7.bx)) p4, l3, same_new o7.bx _ _ (s67 _ _ hd), Mn.mn (s67.trans (same_new o7.bx)) hl⟩
end
end Lw
/-! Ls: more rules that the layer lacks: d.update(d2), l.extend(tuple), enumerate(tuple), min and max of pairs. -/
namespace Lw
open PySem PySem.Spec PyProof.Rows L2
section
variable {X : Cx}
/-! ### d.update(d2) -/
theorem mergeK_len : ∀ (more kvs : List (Key × V)), (mergeK kvs more).length ≤ kvs.length + more.length
  | [], kvs => by show kvs.length ≤ _; simp
  | kv :: more, kvs => by
    have h1 := mergeK_len more (putK kvs kv.1 kv.2)
    have h2 := length_putK kvs kv.1 kv.2
    show (mergeK (putK kvs kv.1 kv.2) more).length ≤ _
    rw [List.length_cons]
    omega
def rUpdate : V → List V → Hp → VK → Prop := fun x vs H Q => ∃ (a b : Addr) (kvs more : List (Key × V)), x = .ref a ∧ vs = [.ref b] ∧ a ≠ b ∧ H a = some (.dK kvs) ∧ H b = some (.dK more) ∧ kvs.length + more.length ≤ sizeLine ∧ Q .non (upd H a (.dK (mergeK kvs more)))
theorem mt_update : MtR X "dict.update" rUpdate := by
  intro pins s σ H x vs v us Q I rx rv h
  obtain ⟨a, b, kvs, more, rfl, rfl, ne, ha, hb, hz, q⟩ := h
  cases rx
  obtain ⟨u, rfl, ru⟩ := rv.one
  cases ru
  obtain ⟨z1, d1, vs1, rel1, dd1⟩ := dk_of I.hok ha
  obtain ⟨z2, d2, vs2, rel2, dd2⟩ := dk_of I.hok hb
  refine call_meetsIn PySem.F.slot_dict_update dd1.typeIs PySem.F.entry_dict_update (PySem.F.args_dict_update_2 _ _) (meets_dict_update (mixKind X.prog X.w) a b ne d2)
    ⟨vs1, vs2, dd1, dd2, by rw [← rel1.length, ← rel2.length]; exact hz, fun h' k1 k2 hs => ?_⟩
  have he : ∃ o, h'.get? a = some o := by obtain ⟨o, _, _, ho, _⟩ := k1; exact ⟨o, ho⟩
  refine ⟨.non, _, d_write (t' := s.toks) I (by rw [ha]; exact True.intro) hs he (dk_new ?_ d1 (KV.merge rel2 rel1) k1), rfl, q⟩
  have := mergeK_len more kvs
  omega
/-! ### l.extend(tuple) -/
def rExtendT : V → List V → Hp → VK → Prop := fun x vs H Q => ∃ l b xs zs, x = .ref l ∧ vs = [.ref b] ∧ H l = some (.lst xs) ∧ H b = some (.tup zs) ∧ xs.length + zs.length ≤ sizeLine ∧ Q .non (upd H l (.lst (xs ++ zs)))
theorem ext_lt (l : Addr) (its : Array Value) (n : Nat) (b : Addr) (its2 : Array Value) (n2 : Nat) (dd : Option Addr) (sl : Array (Option Value)) (h0 : ¬(!its.isEmpty && Builtin.List.listTooLong (its.size + its2.size)) = true) (h1 : its.size ≤ sizeLine) (h2 : its.size + its2.size ≤ sizeLine + 1) :
    Meets (Builtin.«list.extend» ⟨[.ref l, .ref b], []⟩) (fun _ R s => s.heap.get? l = some { cls := .type "list", dict := none, data := .seq its n, slots := #[] } ∧ s.heap.get? b = some { cls := .type "tuple", dict := dd, data := .seq its2 n2, slots := sl } ∧
      R (.ok (.ret Value.none)) { s with heap := s.heap.update l (Obj.mapSeq fun x => x ++ its2), toks := s.toks }) :=
  .of_wp fun prog w A R s h => by
    obtain ⟨hp, g, d, tk, os⟩ := s
    obtain ⟨hl, hb, h⟩ := h
    have f2 := AutoSeq1.sub_tuple_tuple
    have f3 := AutoSeq1.sub_list_list
    have f4 := AutoSeq1.sub_tuple_list
    have f5 := AutoSeq1.sub_list_tuple
    have hz' : (its ++ its2).size ≤ sizeLine + 1 := by rw [Array.size_append]; exact h2
    wp_walk using (wpAny_updateSeq hl rfl (hz := h1) (_hz' := hz')), AutoSeq1.wpAny_loadPart' hl, AutoSeq1.wpAny_loadPart' hb
    exact ⟨_, rfl, h⟩
theorem mt_extendT : MtR X "list.extend" rExtendT := by
  intro pins s σ H x vs v us Q I rx rv h
  obtain ⟨l, b, xs, zs, rfl, rfl, hH, hB, hz, q⟩ := h
  cases rx
  obtain ⟨u, rfl, ru⟩ := rv.one
  cases ru
  obtain ⟨z, its, n, r, hl, e⟩ := I.lstM hH
  obtain ⟨z2, its2, r2, o, eo, ec, n2, ed⟩ := (show ObjOk X.prog X.w H s.heap b (.tup zs) from I.hok b _ hB)
  obtain ⟨oc, dd, dt, sl⟩ := o
  simp only at ec ed
  subst ec ed
  have l2 := r2.length
  have hs : its.toArray.size + its2.toArray.size ≤ sizeLine := by rw [List.size_toArray, List.size_toArray]; omega
  have hlong : ¬ (!its.toArray.isEmpty && Builtin.List.listTooLong (its.toArray.size + its2.toArray.size)) = true := by
    rw [notLongL hs, Bool.and_false]; exact Bool.false_ne_true
  refine call_meets F.slot_list_extend ⟨_, e, rfl⟩ F.entry_list_extend (F.args_list_extend_2 _ _) (ext_lt l its.toArray n b its2.toArray n2 dd sl hlong (by rw [List.size_toArray]; omega) (by omega)) ⟨e, eo, ?_⟩
  refine ⟨.non, _, I.lset (its' := its ++ its2) hH e (by simp) (r.append r2) ?_, rfl, q⟩
  rw [List.length_append]; omega
/-! ### enumerate(tuple) -/
/-- the tuple at a, each item in a new pair -/
def IteT (K : PySem.W.Frag) (a : Addr) : It :=
  ⟨fun i H => ∃ (xs : List V) (x : V), SqT K H a xs ∧ xs[i]? = some x,
   fun i H v H' => ∃ T x, v = .ref T ∧ H T = none ∧ H' = upd H T (.tup [.int (i : Nat), x]) ∧ ∀ xs, SqT K H a xs → xs[i]? = some x,
   fun i H => ∃ xs : List V, SqT K H a xs ∧ xs.length = i⟩
theorem newEnumT (l : Addr) (items : Array Value) (n : Nat) (dd : Option Addr) (sl : Array (Option Value)) :
    Meets (Builtin.«enumerate.__new__» ⟨[.type "enumerate", .ref l], []⟩) (fun _ R s => s.heap.get? l = some { cls := .type "tuple", dict := dd, data := .seq items n, slots := sl } ∧
      R (.ok (.ret (.ref (s.heap.push { cls := .type "tuple_iterator", data := .fields #[.ref l, .int 0 0] }).objs.size)))
        { s with heap := (s.heap.push { cls := .type "tuple_iterator", data := .fields #[.ref l, .int 0 0] }).push { cls := .type "enumerate", data := .fields #[.none, .bool false, .ref s.heap.objs.size, rawInt 0, .none, .none] } }) :=
  .of_wp fun prog w A R s h => by
    obtain ⟨hp, g, d, tk, os⟩ := s
    obtain ⟨hl, h⟩ := h
    have hsub := sub_enumerate
    have hT : Heap.IsTuple (Shared.heap ⟨hp, g, d, tk, os⟩) l items := ⟨_, hl, rfl, n, rfl⟩
    wp_walk using AutoSeq1.wpAny_loadPart' hl
    refine wpAny_stack_any fun st => wpAny_pure ?_
    split
    · rename_i c _ _ _ _ _
      cases (c == Value.type "enumerate") <;> (wp_walk using AutoSeq1.wpAny_loadPart' hl, wpAny_pyIter_tuple hT; exact ⟨_, rfl, h⟩)
    · wp_walk using AutoSeq1.wpAny_loadPart' hl, wpAny_pyIter_tuple hT
      exact ⟨_, rfl, h⟩
theorem callEnumT {prog : Program} {w : World} {A : Around} {E : Value → Shared → Prop} {s : Shared} {l : Addr} {items : Array Value} {Q : Value → Shared → Prop} (hT : s.heap.IsTuple l items)
    (h : ∀ h', IsEnum h' (s.heap.objs.size + 1) s.heap.objs.size 0 .none → h'.IsTupleIter s.heap.objs.size l 0 → h'.objs.size = s.heap.objs.size + 2 →
      (∀ b o, s.heap.get? b = some o → h'.get? b = some o) → Q (.ref (s.heap.objs.size + 1)) { s with heap := h' }) :
    wpAny (model prog w) A (call (.type "enumerate") [.ref l]) Q E s := by
  obtain ⟨⟨c, dct, dt, sl⟩, hl, hc, n, hd⟩ := hT
  simp only at hc hd
  subst hc hd
  have hz : (s.heap.push { cls := .type "tuple_iterator", data := .fields #[.ref l, .int 0 0] }).objs.size = s.heap.objs.size + 1 := Heap.size_push ..
  refine callType_new F.called_enumerate (by decide) (F.typeCall_enumerate_1 _) (F.newCall_enumerate_1 _) (fun obj => F.args_object_init_2 obj _) F.entry_enumerate_new (newEnumT l items n dct sl) ⟨hl, ?_⟩
  show _ ∧ _
  rw [hz]
  have he : IsEnum ((s.heap.push { cls := .type "tuple_iterator", data := .fields #[.ref l, .int 0 0] }).push
      { cls := .type "enumerate", data := .fields #[.none, .bool false, .ref s.heap.objs.size, rawInt 0, .none, .none] }) (s.heap.objs.size + 1) s.heap.objs.size 0 .none := by
    have q := Heap.get?_push_size (s.heap.push { cls := .type "tuple_iterator", data := .fields #[.ref l, .int 0 0] })
      (o := { cls := .type "enumerate", data := .fields #[.none, .bool false, .ref s.heap.objs.size, rawInt 0, .none, .none] }) rfl
    rw [hz] at q; exact q
  exact ⟨⟨_, he, rfl⟩, h _ he ⟨_, Heap.get?_push_of_some _ (Heap.get?_push_size _ rfl), rfl, rfl⟩ (by rw [Heap.size_push, hz]) fun b o x => Heap.get?_push_of_some _ (Heap.get?_push_of_some _ x)⟩
theorem turn_enumT {P : Program} {w : World} {K : PySem.W.Frag} {elts : List Expr} {kk : Nat} {tpos : Pos} (a e it : Addr) (items : Array Value) :
    Turn P w K (.Tuple elts kk tpos) (IteT K a) [e, it] e (fun i h => (∃ old, IsEnum h e it ((i : Nat) : Int) old) ∧ h.IsTupleIter it a i ∧ e ≠ it ∧ it ≠ a ∧ e ≠ a) where
  mem := by simp
  obj := fun i h st b hb => by
    obtain ⟨⟨old, he⟩, ⟨o, ho, hc, hd⟩, _⟩ := st
    have e' : b = e ∨ b = it := by simpa using hb
    rcases e' with z | z
    · rw [z]; exact ⟨_, he, fun v q => nomatch q⟩
    · rw [z]; exact ⟨o, ho, fun v q => by rw [hd] at q; cases q⟩
  keep := fun i h h' st k => by
    obtain ⟨⟨old, he⟩, hi, hne⟩ := st
    exact ⟨⟨old, k e (by simp) _ he⟩, hi.at fun o q => k it (by simp) o q, hne⟩
  item := by
    intro X hP hw hK hc i pins s σ H E I hf st hg
    subst hP hw hK
    obtain ⟨⟨old, he⟩, hit, hne, hia, hea⟩ := st
    obtain ⟨xs, x, hq, hx⟩ := hg
    obtain ⟨its, rv, p, hz⟩ := I.tuple hq
    obtain ⟨u, hu, ru⟩ := rv.get hx
    have hel : e < s.heap.objs.size := Heap.lt_size he
    have hil : it < s.heap.objs.size := by obtain ⟨_, q, _⟩ := hit; exact Heap.lt_size q
    have D := PySem.Draws.tuple (prog := X.prog) (w := X.w) (A := X.A.in1) (I.ok.hd hc) it a hia.symm its.toArray
    have hlt : i < its.toArray.size := by
      rw [List.size_toArray]; exact (List.getElem?_eq_some_iff.mp hu).1
    refine wpAny_pyNext_enum_itemD D he ⟨hit, p⟩ hlt hne (by simp [hne, hea]) fun y h' tk hy ho hst hT hsz hk => ?_
    have ey : y = u := by
      have h1 : its.toArray[i]? = some u := by simpa using hu
      rw [h1] at hy; exact (Option.some.inj hy).symm
    subst ey
    refine ⟨_, rfl, wpAny_letOwnedTupleGo_enum (s := { s with heap := h', toks := tk + 1 }) ho fun h'' he' sb => ?_⟩
    have hT2 : h''.get? s.heap.objs.size = some { cls := .type "tuple", data := .seq #[.int i tk, y] } := (sb.2 _ (Nat.ne_of_gt hel)).trans hT
    have new : ObjOk X.prog X.w (upd H s.heap.objs.size (.tup [.int (i : Nat), x])) h'' s.heap.objs.size (.tup [.int (i : Nat), x]) :=
      ⟨by show 2 ≤ sizeLine; decide, [.int i tk, y], .cons ⟨_, rfl⟩ (.cons ru .nil), ⟨_, hT2, rfl, _, rfl⟩⟩
    have I1 : Inv X pins σ (upd H s.heap.objs.size (.tup [.int (i : Nat), x])) { s with heap := h'', toks := tk + 1 } :=
      I.turnedNew (ch := [e, it]) (fun b ob hb q => (sb.2 b (fun z => hb (by simp [z]))).trans (hk b ob (fun z => hb (by simp [z])) (fun z => hb (by simp [z])) q)) hf (Nat.le_refl _) new
    refine ⟨.ref s.heap.objs.size, _, I1, rfl, ⟨_, x, rfl, I.hok.fresh (Nat.le_refl _), rfl, fun ys hy => by rw [I.tuple_inj hy hq]; exact hx⟩, ⟨⟨y, ?_⟩, hst.1.at fun o q => (sb.2 it (Ne.symm hne)).trans q, hne, hia, hea⟩, fun b hb => ?_⟩
    · have e1 : ((i + 1 : Nat) : Int) = (i : Int) + 1 := by omega
      rw [e1]; exact he'
    · have hb' : b < s.heap.objs.size := by
        have e' : b = e ∨ b = it := by simpa using hb
        rcases e' with z | z <;> (rw [z]; assumption)
      rw [upd_ne (Nat.ne_of_lt hb')]
      exact (hf b hb).1
  done := by
    intro X hP hw hK hc i pins s σ H E I hf st hg
    subst hP hw hK
    obtain ⟨⟨old, he⟩, hit, hne, hia, hea⟩ := st
    obtain ⟨xs, hq, hx⟩ := hg
    subst hx
    obtain ⟨its, rv, p, hz⟩ := I.tuple hq
    obtain ⟨f0, f1, f2, f3, f4, f5⟩ := hf it (by simp)
    have hl := rv.length
    have D := PySem.Draws.tuple (prog := X.prog) (w := X.w) (A := X.A.in1) (I.ok.hd hc) it a hia.symm its.toArray
    have e2 : its.toArray.size = xs.length := by rw [List.size_toArray]; exact hl.symm
    exact wpAny_pyNext_enum_endD D he (by rw [e2]; exact ⟨hit, p⟩) fun h' eb => ⟨rfl, I.turned (t' := s.toks) (fun b o hb q => eb b o hb q) f0 f1 f3 f4 f5⟩
  self := fun A i s Q E st h => by
    obtain ⟨⟨_, he⟩, _⟩ := st
    exact wpAny_pyIter_enum he h
def iEnumT (K : PySem.W.Frag) (ta : TA) : TI := fun σ H R => ta σ H fun vs H1 => ∃ a xs, vs = [.ref a] ∧ SqT K H1 a xs ∧ R (IteT K a) H1
theorem pi_enumT0 {e : Expr} {ta : TA} {p pos tpos : Pos} {elts : List Expr} {kk : Nat} (hg : Gl X "enumerate") (hm : X.mg "enumerate" = none) (ha : PA X [e] ta) (hs : starEach [e] X.env = [(false, eval e X.env)] := by rfl) :
    PI X (.Tuple elts kk tpos) (.Call (.Name "enumerate" p) [e] [] pos) (iEnumT X.K ta) := by
  constructor
  intro pins s σ H R I h
  refine Call_ (ld_blt I hg hm boot_enumerate (PyProof.Rows.callWith_type1 (thn (ha.run pos pins s σ H _ I h) fun us s1 ⟨vs, H1, I1, r1, q1⟩ => ?_) hs rfl))
  obtain ⟨a, xs, rfl, hq, q⟩ := q1
  cases r1 with
  | cons r rr =>
    cases rr
    cases r
    obtain ⟨its, rv, p', hz⟩ := I1.tuple hq
    have hal : a < s1.heap.objs.size := by obtain ⟨o, ho, _⟩ := p'; exact Heap.lt_size ho
    refine callEnumT p' fun h' he hit hsz hk => wpAny_pyIter_enum he ?_
    have I2 : Inv X pins σ H1 { s1 with heap := h' } := I1.kept (t' := s1.toks) hk
    refine ⟨s1.heap.objs.size + 1, [s1.heap.objs.size + 1, s1.heap.objs.size], _, _, H1, rfl, I2, turn_enumT a (s1.heap.objs.size + 1) s1.heap.objs.size its.toArray, ⟨⟨.none, he⟩, hit, Nat.succ_ne_self _, Nat.ne_of_gt hal, Nat.ne_of_gt (Nat.lt_succ_of_lt hal)⟩, fun b hb => ?_, q⟩
    have hle : s1.heap.objs.size ≤ b := by
      have e' : b = s1.heap.objs.size + 1 ∨ b = s1.heap.objs.size := by simpa using hb
      rcases e' with z | z
      · rw [z]; exact Nat.le_add_right _ _
      · rw [z]; exact Nat.le_refl _
    exact I1.fpOk hle (I1.hok.fresh hle)
theorem piEnT (K : PySem.W.Frag) {e : Expr} {ta : TA} {p pos tpos : Pos} {elts : List Expr} {kk : Nat} (hg : Gl X "enumerate") (hm : X.mg "enumerate" = none) (ha : PA X [e] ta) (hs : starEach [e] X.env = [(false, eval e X.env)] := by rfl) (h : X.K = K := by rfl) :
    PI X (.Tuple elts kk tpos) (.Call (.Name "enumerate" p) [e] [] pos) (iEnumT K ta) := h ▸ pi_enumT0 hg hm ha hs
theorem piEn (K : PySem.W.Frag) {e : Expr} {ta : TA} {p pos tpos : Pos} {elts : List Expr} {kk : Nat} (hg : Gl X "enumerate") (hm : X.mg "enumerate" = none) (ha : PA X [e] ta) (hs : starEach [e] X.env = [(false, eval e X.env)] := by rfl) (h : X.K = K := by rfl) :
    PI X (.Tuple elts kk tpos) (.Call (.Name "enumerate" p) [e] [] pos) (iEnum K ta) := h ▸ pi_enum hg hm ha hs
/-! ### min, max of two numbers in a list, a tuple -/
def rMm (K : PySem.W.Frag) (f : Nat → Nat → Nat) : List V → Hp → VK → Prop := fun vs H Q => ∃ (a : Addr) (m n : Nat), vs = [V.ref a] ∧ (SqL K H a [vn m, vn n] ∨ SqT K H a [vn m, vn n]) ∧ Q (vn (f m n)) H
theorem two_reads {h : Heap} {its : List Value} {m n : Nat} (r : Vals [vn m, vn n] its) : ∃ as, ReadsAll h its [.int m, .int n] as := by
  cases r with
  | cons r1 t =>
    cases t with
    | cons r2 t =>
      cases t
      obtain ⟨t1, rfl⟩ := r1
      obtain ⟨t2, rfl⟩ := r2
      exact ⟨_, .cons (.int _ _) (.cons (.int _ _) .nil)⟩
theorem two_alike (m n : Nat) : PySem.W.AlikeAll [.int m, .int n] := by
  refine ⟨fun x hx y hy => ?_, fun x hx => ?_⟩
  · simp only [List.mem_cons, List.not_mem_nil, or_false] at hx hy
    rcases hx with rfl | rfl <;> rcases hy with rfl | rfl <;> rfl
  · simp only [List.mem_cons, List.not_mem_nil, or_false] at hx
    rcases hx with rfl | rfl <;> exact fun e => nomatch e
theorem two_depth (m n : Nat) : PyData.depthAll [.int m, .int n] ≤ 2 := by
  show max _ _ ≤ _
  simp [PyData.depthAll, PyData.depth]
open PySem.W in
theorem fin_min {pins : List (Addr × Obj)} {σ : Slo} {H : Hp} {Q : VK} {s : Shared} {m n : Nat} (I : L2.Inv X pins σ H s) (q : Q (vn (min m n)) H) : ∀ v h' tk bs, Reads h' v (minD (.int m) [.int n]) bs → (∀ b o, s.heap.get? b = some o → h'.get? b = some o) → EP X pins σ Q v { s with heap := h', toks := tk } := fun v h' tk bs rd hk => by
  have e : minD (.int (m : Int)) [.int (n : Int)] = .int ((min m n : Nat) : Int) := by
    have := minD_ints (m : Int) [(n : Int)]
    rw [List.map_singleton] at this
    rw [this]
    show PyData.int (min (m : Int) (n : Int)) = _
    congr 1; omega
  rw [e] at rd
  cases rd with
  | int => exact ⟨vn (min m n), H, I.kept hk, ⟨_, rfl⟩, q⟩
open PySem.W in
theorem fin_max {pins : List (Addr × Obj)} {σ : Slo} {H : Hp} {Q : VK} {s : Shared} {m n : Nat} (I : L2.Inv X pins σ H s) (q : Q (vn (max m n)) H) : ∀ v h' tk bs, Reads h' v (maxD (.int m) [.int n]) bs → (∀ b o, s.heap.get? b = some o → h'.get? b = some o) → EP X pins σ Q v { s with heap := h', toks := tk } := fun v h' tk bs rd hk => by
  have e : maxD (.int (m : Int)) [.int (n : Int)] = .int ((max m n : Nat) : Int) := by
    have := maxD_ints (m : Int) [(n : Int)]
    rw [List.map_singleton] at this
    rw [this]
    show PyData.int (max (m : Int) (n : Int)) = _
    congr 1; omega
  rw [e] at rd
  cases rd with
  | int => exact ⟨vn (max m n), H, I.kept hk, ⟨_, rfl⟩, q⟩
theorem cr_min20 (hc : X.calm = true) (hu : X.A.units + 64 < cLine) : CallR X (.builtin "min") (rMm X.K min) := by
  intro pins s σ H vs us Q I r h
  obtain ⟨a, m, n, rfl, hs, q⟩ := h
  rw [Vals.ref1 r]
  have hd := two_depth m n
  rcases hs with hs | hs
  · obtain ⟨its, rv, hl, _⟩ := I.list hs
    obtain ⟨as, ra⟩ := two_reads (h := s.heap) rv
    exact PySem.W.min_list_data (I.ok.hd hc) hl.isList ra (two_alike m n) (by omega) fun i v h' tk bs _ rd hk => fin_min I q v h' tk bs rd hk
  · obtain ⟨its, rv, hl, _⟩ := I.tuple hs
    obtain ⟨as, ra⟩ := two_reads (h := s.heap) rv
    exact PySem.W.min_tuple_data (I.ok.hd hc) hl ra (two_alike m n) (by omega) fun i v h' tk bs _ rd hk => fin_min I q v h' tk bs rd hk
theorem cr_max20 (hc : X.calm = true) (hu : X.A.units + 64 < cLine) : CallR X (.builtin "max") (rMm X.K max) := by
  intro pins s σ H vs us Q I r h
  obtain ⟨a, m, n, rfl, hs, q⟩ := h
  rw [Vals.ref1 r]
  have hd := two_depth m n
  rcases hs with hs | hs
  · obtain ⟨its, rv, hl, _⟩ := I.list hs
    obtain ⟨as, ra⟩ := two_reads (h := s.heap) rv
    exact PySem.W.max_list_data (I.ok.hd hc) hl.isList ra (two_alike m n) (by omega) fun i v h' tk bs _ rd hk => fin_max I q v h' tk bs rd hk
  · obtain ⟨its, rv, hl, _⟩ := I.tuple hs
    obtain ⟨as, ra⟩ := two_reads (h := s.heap) rv
    exact PySem.W.max_tuple_data (I.ok.hd hc) hl ra (two_alike m n) (by omega) fun i v h' tk bs _ rd hk => fin_max I q v h' tk bs rd hk
theorem cr_minP (K : PySem.W.Frag) (hc : X.calm = true) (hu : X.A.units + 64 < cLine) (h : X.K = K := by rfl) : CallR X (.builtin "min") (rMm K min) := h ▸ cr_min20 hc hu
theorem cr_maxP (K : PySem.W.Frag) (hc : X.calm = true) (hu : X.A.units + 64 < cLine) (h : X.K = K := by rfl) : CallR X (.builtin "max") (rMm K max) := h ▸ cr_max20 hc hu
end
end Lw
/-! Lu: sum of lists, sorted of bools, sorted of a set of tuples of any length. -/
namespace Lw
open PySem PySem.Spec PyProof.Rows L2
def preL (f : Nat → Array Value) : Nat → Array Value
  | 0 => #[]
  | i + 1 => preL f i ++ f i
abbrev LOb (h : Heap) (l : Addr) (items : Array Value) (n : Nat) : Prop := h.get? l = some { cls := .type "list", dict := none, data := .seq items n, slots := #[] }
theorem fresh_size {H h : Heap} (hk : ∀ b o, H.get? b = some o → h.get? b = some o) : H.get? h.objs.size = none := by
  cases e : H.get? h.objs.size with
  | none => rfl
  | some o => exact absurd (Heap.lt_size (hk _ _ e)) (Nat.lt_irrefl _)
section
variable {prog : Program} {w : World} {A : Around} {R : Result → Shared → Prop} {I : Addr} {fp wr : List Addr} {G : Array GenState → Array GenState → Prop} {n : Nat} {P : Nat → Value → Prop} {St : Nat → Shared → Prop}
theorem sum_lists_loop (W : WalksS prog w A.in1 I fp wr G n P St) (H : Heap) (hw : ∀ b o, H.get? b = some o → b ∉ wr) (hfp : ∀ i s, St i s → ∀ b ∈ fp, ∃ o, s.heap.get? b = some o) (Lf : Nat → Array Value) (hval : ∀ i v, P i v → ∃ b c, v = .ref b ∧ LOb H b (Lf i) c)
    (S : Addr) (hSf : S ∉ fp) (hSH : H.get? S = none) (hz : ∀ i, i ≤ n → (preL Lf i).size ≤ sizeLine) (hz2 : ∀ i, i < n → (preL Lf i).size + (Lf i).size ≤ sizeLine) :
    ∀ (k i : Nat) (s : Shared) (a : Addr) (c cA : Nat), n - i = k → i ≤ n → St i s → (∀ b o, H.get? b = some o → s.heap.get? b = some o) → a ∉ S :: fp → (0 < i → S < a) → LOb s.heap a (preL Lf i) cA →
    s.heap.get? S = some { cls := .type "list", dict := none, data := .seq #[.ref a] c, slots := #[] } →
    (∀ s' a' c', Moved (S :: wr) G s s' → LOb s'.heap a' (preL Lf n) c' → (0 < n → S < a') → R (.ok (.ret (.ref a'))) s') → codeAny (model prog w) A (.builtin "sum.loop" ⟨[.ref I, .ref S, rawInt 2, rawInt 0], []⟩) R s := by
  have hSw : S ∉ wr := fun h => hSf (W.sub _ h)
  have hsub : ∀ b ∈ wr, b ∈ S :: wr := fun b hb => List.mem_cons_of_mem _ hb
  intro k
  induction k with
  | zero =>
    intro i s a c cA hk hi hst hkp ha hn hA hS hR
    have hin : i = n := by omega
    subst hin
    have haw : a ∉ wr := fun h => ha (List.mem_cons_of_mem _ (W.sub _ h))
    refine codeAny_builtin F.entry_sum_loop ?_
    rw [Around.under_plainId F.plain_sum_loop _]
    show wpAny _ A.in1 (seqItems? (.ref S) >>= _) _ _ s
    refine wpAny_bind (wpAny_seqItems hS rfl ?_)
    show wpAny _ A.in1 (tryCatch (pyNext (.ref I)) _ >>= _) _ _ s
    refine wpAny_bind (wpAny_tryCatch (W.done s _ _ hst fun s' hm => ?_))
    exact wpAny_pure (hR s' a cA (hm.mono hsub) (hm.heap a _ haw hA) hn)
  | succ k ih =>
    intro i s a c cA hk hi hst hkp ha hn hA hS hR
    have hlt : i < n := by omega
    have haw : a ∉ wr := fun h => ha (List.mem_cons_of_mem _ (W.sub _ h))
    refine codeAny_builtin F.entry_sum_loop ?_
    rw [Around.under_plainId F.plain_sum_loop _]
    show wpAny _ A.in1 (seqItems? (.ref S) >>= _) _ _ s
    refine wpAny_bind (wpAny_seqItems hS rfl ?_)
    show wpAny _ A.in1 (tryCatch (pyNext (.ref I)) _ >>= _) _ _ s
    refine wpAny_bind (wpAny_tryCatch (W.item i s _ _ hlt hst fun v s' hP hst' hm => ?_))
    obtain ⟨b, cb, rfl, hb⟩ := hval i v hP
    have hS' := hm.heap S _ hSw hS
    have hA' := hm.heap a _ haw hA
    have hb' : LOb s'.heap b (Lf i) cb := hm.heap b _ (hw b _ hb) (hkp b _ hb)
    have hkp' : ∀ b o, H.get? b = some o → s'.heap.get? b = some o := fun b o e => hm.heap b o (hw b o e) (hkp b o e)
    show wpAny _ A.in1 ((holding [Value.ref b] (binaryOp .Add (.ref a) (.ref b))).attempt >>= _) _ _ _
    refine wpAny_bind (wpAny_attempt (wpAny_holding (PySem.P.add_list hA' hb' ?_ (hz2 i hlt))))
    have hS1 : (s'.heap.push { cls := .type "list", data := .seq (preL Lf i ++ Lf i) }).get? S = some { cls := .type "list", dict := none, data := .seq #[.ref a] c, slots := #[] } := Heap.get?_push_of_some _ hS'
    have hSlt : S < s'.heap.objs.size := Heap.lt_size hS'
    show wpAny _ A.in1 (updateSeq S (fun _ => #[.ref s'.heap.objs.size]) >>= _) _ _ _
    refine wpAny_bind (wpAny_updateSeq hS1 rfl ?_)
    have hS2 := Heap.get?_update_self (Obj.mapSeq fun _ => #[Value.ref s'.heap.objs.size]) hS1 rfl
    have hA1 : (s'.heap.push { cls := .type "list", data := .seq (preL Lf i ++ Lf i) }).get? s'.heap.objs.size = some { cls := .type "list", data := .seq (preL Lf i ++ Lf i) } := Heap.get?_push_size _ rfl
    have hA2 : LOb ((s'.heap.push { cls := .type "list", data := .seq (preL Lf i ++ Lf i) }).update S (Obj.mapSeq fun _ => #[Value.ref s'.heap.objs.size])) s'.heap.objs.size (preL Lf (i + 1)) 0 :=
      (Heap.get?_update_other _ _ (Nat.ne_of_lt hSlt)).trans hA1
    have old : ∀ b o, b ≠ S → s'.heap.get? b = some o → ((s'.heap.push { cls := .type "list", data := .seq (preL Lf i ++ Lf i) }).update S (Obj.mapSeq fun _ => #[Value.ref s'.heap.objs.size])).get? b = some o :=
      fun b o hb e => (Heap.get?_update_other _ _ (Ne.symm hb)).trans (Heap.get?_push_of_some _ e)
    refine wpAny_bind (wpAny_letGo ?_)
    show wpAny _ A.in1 (updateSeq S (fun _ => #[.ref s'.heap.objs.size]) >>= _) _ _ _
    refine wpAny_bind (wpAny_updateSeq hS2 rfl ?_)
    have hS3 := Heap.get?_update_self (Obj.mapSeq fun _ => #[Value.ref s'.heap.objs.size]) hS2 rfl
    refine wpAny_pure ⟨plainId_quiet F.plain_sum_loop _, ih (i + 1) _ s'.heap.objs.size _ 0 (by omega) hlt (W.frame _ s' _ _ hst' (Nat.le_refl _) fun b hb o e => ?_) (fun b o e => ?_) (fun h => ?_) (fun _ => hSlt) ((Heap.get?_update_other _ _ (Nat.ne_of_lt hSlt)).trans hA2) hS3 fun s'' a'' c'' hm'' h1 h2 => ?_⟩
    · have hbS : b ≠ S := fun e => hSf (e ▸ hb)
      exact (Heap.get?_update_other _ _ (Ne.symm hbS)).trans (old b o hbS e)
    · have hbS : b ≠ S := fun e' => by rw [e', hSH] at e; cases e
      exact (Heap.get?_update_other _ _ (Ne.symm hbS)).trans (old b o hbS (hkp' b o e))
    · rcases List.mem_cons.mp h with e | h
      · exact Nat.ne_of_gt hSlt e
      · obtain ⟨o, ho⟩ := hfp _ _ hst' _ h
        exact Nat.lt_irrefl _ (Heap.lt_size ho)
    · refine hR s'' a'' c'' (Moved.trans W.gtrans ((hm.mono hsub).then_heap (tk := s'.toks) (Nat.le_refl _) fun b o hb e => ?_) hm'') h1 h2
      have hbS : b ≠ S := fun e' => hb (by rw [e']; exact List.mem_cons_self)
      exact (Heap.get?_update_other _ _ (Ne.symm hbS)).trans (old b o hbS e)
end
section
variable {prog : Program} {w : World} {A : Around} {E : Value → Shared → Prop} {s : Shared}
theorem args_sum2 (a b : Value) : argsOk "sum" ⟨[a, b], []⟩ := by unfold argsOk; kernel_rfl
theorem call_sum_lists {l b0 : Addr} {vs : Array Value} {c0 : Nat} {Q : Value → Shared → Prop} (hh : A.handled = none) (hl : s.heap.IsList l vs) (hbl : b0 ≠ l) (h0 : LOb s.heap b0 #[] c0) (Lf : Nat → Array Value) (hv : ∀ i v, vs[i]? = some v → ∃ b c, v = .ref b ∧ LOb s.heap b (Lf i) c)
    (hz : ∀ i, i ≤ vs.size → (preL Lf i).size ≤ sizeLine) (hz2 : ∀ i, i < vs.size → (preL Lf i).size + (Lf i).size ≤ sizeLine) (hn : 0 < vs.size)
    (h : ∀ h' tk a c, (∀ b o, s.heap.get? b = some o → h'.get? b = some o) → s.heap.objs.size ≤ a → LOb h' a (preL Lf vs.size) c → Q (.ref a) { s with heap := h', toks := tk }) :
    wpAny (model prog w) A (call (.builtin "sum") [.ref l, .ref b0]) Q E s := by
  refine call_function_tree F.kind_sum F.plain_sum F.entry_sum (args_sum2 _ _) ?_
  unfold Builtin.«sum»
  simp only [List.length_cons, List.length_nil]
  rw [if_neg (by decide)]
  refine wpAny_bind (wpAny_of_eq (show Builtin.Builtins.bindParams "sum" ["start"] 0 ⟨[.ref b0], []⟩ = pure [some (.ref b0)] from rfl) ?_)
  refine wpAny_bind (PySem.W.iter_listW (A := A.in1) hh hl fun s₂ e W st hfp hw hk => ?_)
  have hTb : s₂.TypeIs (.ref b0) "list" := ⟨_, hk _ _ h0, rfl⟩
  refine wpAny_bind (wpAny_pure ?_)
  simp only [List.forIn_cons, List.forIn_nil]
  refine wpAny_bind (wpAny_bind (wpAny_bind (wpAny_isInstance (T := "list") (b := false) hTb F.sub_list_str ?_)))
  simp only [Bool.false_eq_true, if_false]
  refine wpAny_pure (wpAny_bind (wpAny_bind (wpAny_isInstance (T := "list") (b := false) hTb F.sub_list_bytes ?_)))
  simp only [Bool.false_eq_true, if_false]
  refine wpAny_pure (wpAny_bind (wpAny_bind (wpAny_isInstance (T := "list") (b := false) hTb F.sub_list_bytearray ?_)))
  simp only [Bool.false_eq_true, if_false]
  refine wpAny_pure (wpAny_pure ?_)
  refine wpAny_bind (wpAny_newObj_type ?_)
  have hSf : s₂.heap.objs.size ∉ [s.heap.objs.size, l] := fun hm => Nat.lt_irrefl _ (hfp _ hm)
  have hl' : l < s.heap.objs.size := by obtain ⟨_, q, _⟩ := hl; exact Heap.lt_size q
  have hb0 : b0 < s.heap.objs.size := Heap.lt_size h0
  have hsz : s₂.heap.objs.size = s.heap.objs.size + 1 := by rw [e]; exact Heap.size_push ..
  refine wpAny_pure ⟨plainId_quiet F.plain_sum_loop _, sum_lists_loop W s.heap hw (fun i s' st' b hb => ?_) Lf hv s₂.heap.objs.size hSf (fresh_size hk) hz hz2 vs.size 0 _ b0 0 c0 rfl (Nat.zero_le _)
    (W.frame 0 s₂ _ _ st (Nat.le_refl _) fun b _ o e => Heap.get?_push_of_some _ e) (fun b o e => Heap.get?_push_of_some _ (hk b o e)) (fun hm => ?_) (fun h => absurd h (Nat.lt_irrefl _)) (Heap.get?_push_of_some _ (hk _ _ h0)) (Heap.get?_push_size _ rfl) fun s' a c hm hA hn' => ?_⟩
  · obtain ⟨⟨o, ho, _⟩, ⟨o2, ho2, _⟩⟩ := st'
    rcases List.mem_cons.mp hb with z | z
    · rw [z]; exact ⟨o, ho⟩
    · rw [List.mem_singleton.mp z]; exact ⟨o2, ho2⟩
  · rcases List.mem_cons.mp hm with z | hm
    · rw [z, hsz] at hb0; exact absurd hb0 (Nat.not_lt.mpr (Nat.le_succ _))
    · rcases List.mem_cons.mp hm with z | hm
      · rw [z] at hb0; exact Nat.lt_irrefl _ hb0
      · exact hbl (List.mem_singleton.mp hm)
  · have hkp : ∀ b o, s.heap.get? b = some o → s'.heap.get? b = some o := fun b o eb => hm.heap b o (fun hb => by
      have hlt := Heap.lt_size eb
      rcases List.mem_cons.mp hb with z | hb
      · rw [z, hsz] at hlt; exact absurd hlt (Nat.not_lt.mpr (Nat.le_succ _))
      · rw [List.mem_singleton.mp hb] at hlt; exact Nat.lt_irrefl _ hlt) (Heap.get?_push_of_some _ (hk b o eb))
    have e2 : s' = { s with heap := s'.heap, toks := s'.toks } := by
      subst e
      obtain ⟨hp, g, d, tk, os⟩ := s'
      have h1 : g = s.gens := hm.gens
      have h2 : d = s.drawn := hm.drawn
      have h3 : os = s.os := hm.os
      subst h1
      subst h2
      subst h3
      rfl
    rw [e2]
    exact h _ _ a c hkp (Nat.le_trans (Nat.le_trans (Nat.le_succ _) (Nat.le_of_eq hsz.symm)) (Nat.le_of_lt (hn' hn))) hA
end
section
variable {X : Cx}
/-- sum(ls, []) of lists of ints -/
def rSumL (K : PySem.W.Frag) : List V → Hp → VK → Prop := fun vs H Q => ∃ (a b : Addr) (ps : List (Addr × List V)), vs = [.ref a, .ref b] ∧ a ≠ b ∧ H b = some (.lst []) ∧ SqL K H a (ps.map fun p => V.ref p.1) ∧ (∀ p ∈ ps, H p.1 = some (.lst p.2)) ∧ ps ≠ [] ∧
  ((ps.map (·.2)).flatten).length ≤ sizeLine ∧ ∀ p, H p = none → Q (.ref p) (upd H p (.lst (ps.map (·.2)).flatten))
theorem cr_sumL0 (hc : X.calm = true) : CallR X (.builtin "sum") (rSumL X.K) := by
  intro pins s σ H vs us Q I r h
  obtain ⟨a, b, ps, rfl, hne, hb, hs, hp, hps, hz, q⟩ := h
  obtain ⟨its, rv, hl, _⟩ := I.list hs
  cases r with
  | cons r1 r =>
    cases r with
    | cons r2 r =>
      cases r
      cases r1
      cases r2
      obtain ⟨z, its0, n0, r0, hl0, e0⟩ := I.lstM hb
      cases r0
      have hlen := rv.length
      rw [List.length_map] at hlen
      -- the raw items of each list
      have hin : ∀ i, i < ps.length → ∃ (raw : List Value) (c : Nat), Vals (ps.getD i (0, [])).2 raw ∧ LOb s.heap (ps.getD i (0, [])).1 raw.toArray c := fun i hi => by
        have hm : ps.getD i (0, []) ∈ ps := by rw [List.getD_eq_getElem?_getD, List.getElem?_eq_getElem hi]; exact List.getElem_mem hi
        obtain ⟨_, raw, c, r', _, e'⟩ := I.lstM (hp _ hm)
        exact ⟨raw, c, r', e'⟩
      have hL : ∃ Lf : Nat → List Value, ∀ i, i < ps.length → Vals (ps.getD i (0, [])).2 (Lf i) ∧ ∃ c, LOb s.heap (ps.getD i (0, [])).1 (Lf i).toArray c :=
        ⟨fun i => if h : i < ps.length then (hin i h).choose else [], fun i hi => by
          simp only [dif_pos hi]
          obtain ⟨c, h1, h2⟩ := (hin i hi).choose_spec
          exact ⟨h1, c, h2⟩⟩
      obtain ⟨Lf, hLf⟩ := hL
      have hpre : ∀ i, i ≤ ps.length → Vals (((ps.take i).map (·.2)).flatten) (preL (fun i => (Lf i).toArray) i).toList := by
        intro i
        induction i with
        | zero => intro _; exact .nil
        | succ i ih =>
          intro hi
          have h1 := ih (by omega)
          have h2 := (hLf i (by omega)).1
          have e3 : ps.take (i + 1) = ps.take i ++ [ps.getD i (0, [])] := by
            rw [List.take_succ, List.getD_eq_getElem?_getD, List.getElem?_eq_getElem (by omega : i < ps.length)]; rfl
          rw [e3, List.map_append, List.flatten_append]
          show Vals _ (preL _ i ++ (Lf i).toArray).toList
          rw [Array.toList_append]
          refine h1.append ?_
          show Vals ((ps.getD i (0, [])).2 ++ []) _
          rw [List.append_nil]
          exact h2
      have hzi : ∀ i, i ≤ ps.length → (preL (fun i => (Lf i).toArray) i).size ≤ sizeLine := fun i hi => by
        have h1 := (hpre i hi).length
        have h1' : (preL (fun i => (Lf i).toArray) i).toList.length = (preL (fun i => (Lf i).toArray) i).size := Array.length_toList
        have h2 : ((ps.map (·.2)).flatten).length = (((ps.take i).map (·.2)).flatten).length + (((ps.drop i).map (·.2)).flatten).length := by
          rw [← List.length_append, ← List.flatten_append, ← List.map_append, List.take_append_drop]
        omega
      refine call_sum_lists (I.ok.hd hc) hl.isList (fun z => hne z.symm) e0 (fun i => (Lf i).toArray) (fun i v hv => ?_) (fun i hi => hzi i (by rw [List.size_toArray] at hi; omega)) (fun i hi => ?_) ?_ fun h' tk p c hk hp0 hA => ?_
      · rw [List.getElem?_toArray] at hv
        obtain ⟨hi, _⟩ := List.getElem?_eq_some_iff.mp hv
        have hi' : i < ps.length := by omega
        obtain ⟨c, h2⟩ := (hLf i hi').2
        have h3 : (ps.map fun p => V.ref p.1)[i]? = some (.ref (ps.getD i (0, [])).1) := by
          rw [List.getElem?_map, List.getD_eq_getElem?_getD, List.getElem?_eq_getElem hi']; rfl
        obtain ⟨u, hu, ru⟩ := rv.get h3
        rw [hv] at hu
        cases hu
        exact ⟨_, c, ru, h2⟩
      · have := hzi (i + 1) (by rw [List.size_toArray] at hi; omega)
        rw [show preL (fun i => (Lf i).toArray) (i + 1) = preL (fun i => (Lf i).toArray) i ++ (Lf i).toArray from rfl, Array.size_append] at this
        exact this
      · rw [List.size_toArray]
        have : 0 < ps.length := List.length_pos_iff.mpr hps
        omega
      · rw [List.size_toArray, ← hlen] at hA
        have hv := hpre ps.length (Nat.le_refl _)
        rw [List.take_length] at hv
        exact ⟨.ref p, _, I.laid (t' := tk) (o := .lst (ps.map (·.2)).flatten) hk hp0 ⟨hz, _, c, hv, hA⟩, rfl, q p (I.hok.fresh hp0)⟩
theorem cr_sumL (K : PySem.W.Frag) (hc : X.calm = true) (h : X.K = K := by rfl) : CallR X (.builtin "sum") (rSumL K) := h ▸ cr_sumL0 hc
/-! ### sorted of bools -/
theorem bl_reads {h : Heap} : ∀ {bs : List Bool} {its : List Value}, Vals (bs.map V.bl) its → PySem.W.EachIs (fun v b => v = Value.bool b) its bs
  | [], _, .nil => .nil
  | b :: bs, _, .cons r t => .cons r (bl_reads (h := h) t)
theorem bl_vals : ∀ {its : List Value} {bs : List Bool}, PySem.W.EachIs (fun v b => v = Value.bool b) its bs → Vals (bs.map V.bl) its
  | _, _, .nil => .nil
  | _, _, .cons r t => .cons r (bl_vals t)
/-- sorted(bs) of bools -/
def rSortB (K : PySem.W.Frag) : List V → Hp → VK → Prop := fun vs H Q => ∃ (a : Addr) (bs : List Bool), vs = [.ref a] ∧ SqL K H a (bs.map V.bl) ∧ bs.length ≤ 64 ∧ ∀ (ys : List Bool) (p : Addr), ys.Perm bs → ys.Pairwise (fun x y => x = true → y = true) → H p = none → Q (.ref p) (upd H p (.lst (ys.map V.bl)))
theorem dataLe_b : PySem.W.dataLe false PyData.bool = fun a b => decide ((if a = true then 1 else 0 : Int) ≤ (if b = true then 1 else 0)) := by
  refine Eq.trans ?_ (PySem.W.dataLe_int fun b : Bool => if b = true then (1 : Int) else 0)
  funext x y
  simp only [PySem.W.dataLe, PySem.W.keyToks]
theorem le_b_iff (x y : Bool) : decide ((if x = true then 1 else 0 : Int) ≤ (if y = true then 1 else 0)) = true ↔ (x = true → y = true) := by
  cases x <;> cases y <;> decide
theorem cr_sortedB0 (hu : X.A.units + 64 < cLine) : CallR X (.builtin "sorted") (rSortB X.K) := by
  intro pins s σ H vs us Q I r h
  obtain ⟨a, bs, rfl, hs, hz, q⟩ := h
  obtain ⟨its, rv, hl, _⟩ := I.list hs
  rw [Vals.ref1 r]
  have hsl : (64 : Nat) ≤ sizeLine := by decide
  refine PySem.W.sorted_data (enc := PyData.bool) hl.isList (bl_reads (h := s.heap) rv) ((bl_reads (h := s.heap) rv).mono fun v b e => ⟨[], by rw [e]; exact .bool _⟩) (PySem.W.AllAlike.of fun x y => by simp [PySem.W.alike]) (PySem.W.Sortable.others fun x => ⟨fun e => (nomatch e), fun _ e => (nomatch e)⟩) (by omega)
    (fun b _ => by have : (PyData.bool b).depth = 0 := by simp [PyData.depth]
                   omega) fun out ho e => ?_
  obtain ⟨c, hc⟩ := sortedAll_at s.heap its out.toArray
  have hle : s.heap.objs.size ≤ s.heap.objs.size + 1 := Nat.le_succ _
  have pm := List.mergeSort_perm bs (PySem.W.dataLe false PyData.bool)
  refine ⟨.ref (s.heap.objs.size + 1), _, I.laid (t' := s.toks) (fun b u eb => sortedAll_old eb) hle (o := .lst ((bs.mergeSort (PySem.W.dataLe false PyData.bool)).map V.bl)) ⟨?_, out, c, bl_vals e, hc⟩, rfl, q _ _ pm ?_ (I.hok.fresh hle)⟩
  · rw [List.length_map, pm.length_eq]; omega
  · have hp := List.pairwise_mergeSort (le := PySem.W.dataLe false PyData.bool) (fun x y z => by rw [dataLe_b]; cases x <;> cases y <;> cases z <;> decide) (fun x y => by rw [dataLe_b]; cases x <;> cases y <;> decide) bs
    exact hp.imp fun {x y} hxy => by rw [dataLe_b] at hxy; exact (le_b_iff x y).mp hxy
theorem cr_sortedB (K : PySem.W.Frag) (hu : X.A.units + 64 < cLine) (h : X.K = K := by rfl) : CallR X (.builtin "sorted") (rSortB K) := h ▸ cr_sortedB0 hu
/-! ### sorted of a set of tuples of ints, of any lengths -/
def tupD (p : Addr × List Int) : PyData := .tuple (p.2.map .int)
theorem items_reads {P : Program} {w : World} {h : Heap} : ∀ {k : List Int} {vs : List Value}, ItemsAre (intKind P w) k vs → ReadsAll h vs (k.map PyData.int) [] := by
  intro k vs x
  have y := ints_of_items x
  clear x
  induction y with
  | nil => exact .nil
  | cons n t r ih => exact .cons (as := []) (bs := []) (.int _ _) ih
theorem isT_reads {P : Program} {w : World} {h : Heap} {p : Addr × List Int} (x : IsT P w h p.2 p.1) : Reads h (.ref p.1) (tupD p) [] := by
  obtain ⟨o, items, n, ho, hc, hd, hi⟩ := x
  exact .tuple ho hc hd (items_reads hi)
end
section
variable {P : Program} {w : World} {A : Around} {E : Value → Shared → Prop} {s : Shared}
theorem sort_each : ∀ {out : List Value} {L' : List (Addr × List Int)}, PySem.W.EachIs (fun v p => v = Value.ref p.1) out L' → out = L'.map fun q => Value.ref q.1
  | _, _, .nil => rfl
  | _, _, .cons e t => by rw [List.map_cons, ← sort_each t, e]
theorem each_ref : ∀ L' : List (Addr × List Int), PySem.W.EachIs (fun v p => v = Value.ref p.1) (L'.map fun q => Value.ref q.1) L'
  | [] => .nil
  | _ :: t => .cons rfl (each_ref t)
theorem sorted_setAny {a : Addr} {L : List (Addr × List Int)} {es : Array (Int × Value)} {ep : Nat} {t : SetTable} {Q : Value → Shared → Prop} (R : SetTR P w s.heap a L es ep t) (hh : A.handled = none) (hu : A.units + 64 < cLine)
    (hB : ∀ p ∈ L, p.2 ≠ [])
    (hQ : ∀ s' p (out : Array Value) (c : Nat) (L' : List (Addr × List Int)), (∀ b o, s.heap.get? b = some o → s'.heap.get? b = some o) → s'.gens = s.gens → s'.os = s.os → s.heap.objs.size ≤ p →
      s'.heap.get? p = some (seqObj "list" out c) → out.toList = L'.map (fun q => Value.ref q.1) → L'.Perm L → Q (.ref p) s') :
    wpAny (model P w) A (call (.builtin "sorted") [.ref a]) Q E s := by
  obtain ⟨o, ho, hex, hd⟩ := R.ob
  have hsz := R.size
  have hfew := R.few
  refine Calls.call_function_entry kind_sorted plain_sorted entry_sorted (args_sorted1 _) ?_
  unfold Builtin.«sorted»
  refine wpAny_bind (m := checkCount "sorted" 1 1 _) (wpAny_pure ?_)
  refine wpAny_bind (collect_set (A := A.in1) hh ⟨o, ho, hex.1, hd⟩ R.fits (by unfold scanBound; omega) R.tab.ris R.led fun s1 vs k1 hz g1 o1 pm => ?_)
  have hes : es.toList.map (·.2) = L.map fun q => Value.ref q.1 := by
    rw [R.rows]
    unfold L2.rowsOf
    rw [List.map_map]; rfl
  rw [hes] at pm
  have ord : ∀ vs : List Value, (∀ v ∈ vs, ∃ q ∈ L, v = Value.ref q.1) → ∃ L1 : List (Addr × List Int), vs = L1.map (fun q => Value.ref q.1) ∧ ∀ q ∈ L1, q ∈ L := by
    intro vs
    induction vs with
    | nil => intro _; exact ⟨[], rfl, fun q hq => (by cases hq)⟩
    | cons v vs ih =>
      intro hv
      obtain ⟨q, hq, e⟩ := hv v List.mem_cons_self
      obtain ⟨L1, e1, hs⟩ := ih fun u hu => hv u (List.mem_cons_of_mem _ hu)
      refine ⟨q :: L1, by rw [List.map_cons, e, e1], fun r hr => ?_⟩
      rcases List.mem_cons.mp hr with z | z
      · rw [z]; exact hq
      · exact hs r z
  have one : ∀ q ∈ L, ∀ r ∈ L, q.1 = r.1 → q = r := fun q hq r hr e => by
    have a1 := R.tup q hq
    have a2 := R.tup r hr
    rw [e] at a1
    have e2 : q.2 = r.2 := a1.inj a2
    exact Prod.ext e e2
  have perm_of : ∀ L1 : List (Addr × List Int), (∀ q ∈ L1, q ∈ L) → (L1.map (fun q => Value.ref q.1)).Perm (L.map fun q => Value.ref q.1) → L1.Perm L := by
    intro L1 hs pm1
    have nL : L.Nodup := nodup_of_map R.nd
    have nref : (L.map fun q => Value.ref q.1).Nodup := by
      refine List.pairwise_map.mpr (List.Pairwise.imp_of_mem (fun {q r} hq hr hne e => ?_) nL)
      injection e with e
      exact hne (one q hq r hr e)
    have n1 : L1.Nodup := nodup_of_map (pm1.nodup_iff.mpr nref)
    refine (List.perm_ext_iff_of_nodup n1 nL).mpr fun q => ⟨hs q, fun hq => ?_⟩
    have hm : Value.ref q.1 ∈ L1.map (fun q => Value.ref q.1) := pm1.mem_iff.mpr (List.mem_map.mpr ⟨q, hq, rfl⟩)
    obtain ⟨r, hr, e⟩ := List.mem_map.mp hm
    injection e with e
    rw [← one r (hs r hr) q hq e]
    exact hr
  have hvl : vs.length < 64 := by rw [pm.length_eq, List.length_map]; exact hfew
  obtain ⟨L1, e1, hs1⟩ := ord vs fun v hv => by
    obtain ⟨q, hq, e⟩ := List.mem_map.mp (pm.mem_iff.mp hv)
    exact ⟨q, hq, e.symm⟩
  have hL1 : L1.length = vs.length := by rw [e1, List.length_map]
  refine wpAny_bind (wpAny_newList ?_ (by rw [sizeLine_eq]; omega))
  have hoL : (s1.heap.push (seqObj "list" vs.toArray 0)).get? s1.heap.objs.size = some (seqObj "list" vs.toArray 0) := Heap.get?_push_size _ rfl
  have hd1 : ∀ p : Addr × List Int, (tupD p).depth ≤ 1 := fun p => by
    have := PySem.W.depth_ints p.2
    show (PyData.tuple (p.2.map .int)).depth ≤ 1
    rw [PyData.depth, this]
    exact Nat.le_refl _
  have ev : PySem.W.EachIs (fun v p => v = Value.ref p.1) vs L1 := e1 ▸ each_ref L1
  have er : PySem.W.EachIs (fun v p => ∃ as, Reads (s1.heap.push (seqObj "list" vs.toArray 0)) v (tupD p) as ∧ s1.heap.objs.size ∉ as) vs L1 := by
    refine (PySem.W.each_mem ev).mono fun v p ⟨e, hp⟩ => ?_
    exact ⟨[], e ▸ isT_reads (isT_keep (R.tup p (hs1 p hp)) fun b u eb => Heap.get?_push_of_some _ (k1 b u eb)), List.not_mem_nil⟩
  refine wpAny_bind (wpAny_holding (PySem.W.list_sort_data (s := { s1 with heap := s1.heap.push (seqObj "list" vs.toArray 0) }) (enc := tupD) hoL ev er (PySem.W.AllAlike.of fun x y => ?_) (.inl fun d hd => ?_) (by rw [sizeLine_eq]; omega) (fun b _ => ?_) fun out hl eo => ?_))
  · show PySem.W.alike (.tuple _) (.tuple _) = true
    rw [PySem.W.alike]
    exact PySem.W.alike_ints _ _
  · obtain ⟨p, hp, rfl⟩ := List.mem_map.mp hd
    have := hB p (hs1 p hp)
    cases hp2 : p.2 with
    | nil => exact absurd hp2 this
    | cons x r => exact ⟨.int x, r.map .int, by unfold tupD; rw [hp2]; rfl⟩
  · have := hd1 b
    show A.units + 1 + 1 + _ < _
    omega
  · obtain ⟨c, hc⟩ := sortedHeap_at (vs := vs) (out := out.toArray) hoL
    have pm2 := List.mergeSort_perm L1 (PySem.W.dataLe false tupD)
    have pL1 : L1.Perm L := perm_of L1 hs1 (e1 ▸ pm)
    refine wpAny_pure ⟨_, rfl, hQ _ s1.heap.objs.size out.toArray c _ (fun b u e => ?_) g1 o1 hz hc (sort_each eo) (pm2.trans pL1)⟩
    have q := k1 b u e
    have hlt := Heap.lt_size q
    show (sortedHeap (s1.heap.push (seqObj "list" vs.toArray 0)) s1.heap.objs.size vs out.toArray).get? b = some u
    rw [sortedHeap_old (Nat.ne_of_lt hlt) (by rw [size_push']; exact Nat.lt_succ_of_lt hlt)]
    exact Heap.get?_push_of_some _ q
end
section
variable {X : Cx}
/-- sorted(set), the tuples not empty -/
def rSortST (K : PySem.W.Frag) (P : Program) (w : World) : List V → Hp → VK → Prop := fun vs H Q => ∃ (a : Addr) (L : List (Addr × List Int)), vs = [V.ref a] ∧ H a = some (SetTO P w a L) ∧ (∀ p ∈ L, SqT K H p.1 (p.2.map V.int)) ∧ (∀ p ∈ L, p.2 ≠ []) ∧
  ∀ (L' : List (Addr × List Int)) (p : Addr), L'.Perm L → (L'.map (·.2)).Nodup → H p = none → Q (.ref p) (upd H p (.lst (L'.map fun q => V.ref q.1)))
theorem cr_sortedST (hc : X.calm = true) (hu : X.A.units + 64 < cLine) : CallR X (.builtin "sorted") (rSortST X.K X.prog X.w) := by
  intro pins s σ H vs us Q I r h
  obtain ⟨a, L, rfl, ha, hk, hB, q⟩ := h
  have R0 : SetT0 X.prog X.w s.heap a L := (I.hok a _ ha).1
  obtain ⟨es, ep, t, R⟩ := R0.full fun p hp => I.isT (hk p hp)
  rw [Vals.ref1 r]
  refine sorted_setAny R (I.ok.hd hc) hu hB fun s' p out c L' k g o hp hg hout pm => ?_
  have hfew : L'.length < 64 := by rw [pm.length_eq]; exact R.few
  have hlen : (L'.map fun q => V.ref q.1).length ≤ sizeLine := by rw [List.length_map, sizeLine_eq]; omega
  have hn : H p = none := I.hok.fresh hp
  have hv : Vals (L'.map fun q => V.ref q.1) out.toList := by rw [hout]; exact vals_of_refs L'
  have J : Inv X pins σ (upd H p (.lst (L'.map fun q => V.ref q.1))) { s with heap := s'.heap, gens := s'.gens, drawn := s'.drawn, toks := s'.toks } :=
    I.call (ch := []) (Un.laid k hp hn) (I.hok.laid k hp ⟨hlen, out.toList, c, hv, hg⟩) (by rw [g]; exact I.bare) (fun _ z => nomatch z)
  have e : s' = { s with heap := s'.heap, gens := s'.gens, drawn := s'.drawn, toks := s'.toks } := by
    cases s'
    cases s
    cases o
    rfl
  rw [e]
  exact ⟨.ref p, _, J, rfl, q L' p pm ((pm.map (·.2)).nodup_iff.mpr R.nd) hn⟩
end
end Lw
/-! Lv: tied_of, beside_of (cold, hot), dicts of pairs, enumerate. -/
namespace Lw
open PySem PySem.Spec PyProof.Rows L2
section
variable {P : Program} {w : World} {K : PySem.W.Frag} {mg : Str → Option Value} {base : Heap}
variable {B H B0 H0 B1 H1 B2 H2 B' H' : Hp} {σ : Slo} {te ta tb tl td tv : TE} {a C dx d : Addr} {b : Bool} {x v : V} {m n i j : Nat} {fs : List (Str × V)} {f kf : Str} {PV : VP}
/-! ### enumerate -/
def YEn (vs : List V) : Nat → Hp → V → Hp → Prop := fun i H v H' => ∃ T x, v = .ref T ∧ H T = none ∧ H' = upd H T (.tup [vn i, x]) ∧ vs[i]? = some x
def EvEn {α : Type} (wi : TI) (σ : Slo) (B H : Hp) (R : α → VP) (xs : List α) : Prop := ∀ B1 H1, Gr B H B1 H1 → ∀ T : It → Hp → Prop,
  (∀ J B' H' vs, Gr B1 H1 B' H' → Rs R xs vs B' → Walk J xs.length (Same B') (YEn vs) → T J H') → wi σ H1 T
section
variable {α : Type} {R : α → VP} {xs : List α}
theorem een_tup {tr : TA} [∀ x, Mn (R x)] (h : EvA tr σ B H (AC (TO R xs) (AX []))) : EvEn (iEnumT K tr) σ B H R xs := fun B1 H1 g1 T k =>
  h B1 H1 g1 _ fun vs B2 H2 g2 ⟨v, ws, e, ⟨a, us, e1, ha, r⟩, e2⟩ => by
    cases e2; subst e e1
    refine ⟨a, us, rfl, SqT.of (g2.sub _ _ ha), k _ B2 H2 us g2 r ⟨fun i H3 hi s => ?_, fun H3 s => ?_, fun i H3 x H4 hi s ⟨T, y, e, n, e4, q⟩ => ?_⟩⟩
    · have hl := r.len
      exact ⟨us, us[i], SqT.of (s _ _ ha), List.getElem?_eq_getElem (by omega)⟩
    · exact ⟨us, SqT.of (s _ _ ha), r.len⟩
    · exact ⟨T, y, e, n, e4, q us (SqT.of (s _ _ ha))⟩
theorem een_list {tr : TA} [∀ x, Mn (R x)] (h : EvA tr σ B H (AC (LO R xs) (AX []))) : EvEn (iEnum K tr) σ B H R xs := fun B1 H1 g1 T k =>
  h B1 H1 g1 _ fun vs B2 H2 g2 ⟨v, ws, e, ⟨a, us, e1, ha, r⟩, e2⟩ => by
    cases e2; subst e e1
    refine ⟨a, us, rfl, SqL.of (g2.sub _ _ ha), k _ B2 H2 us g2 r ⟨fun i H3 hi s => ?_, fun H3 s => ?_, fun i H3 x H4 hi s ⟨T, y, e, n, e4, q⟩ => ?_⟩⟩
    · have hl := r.len
      exact ⟨us, us[i], SqL.of (s _ _ ha), List.getElem?_eq_getElem (by omega)⟩
    · exact ⟨us, SqL.of (s _ _ ha), Nat.le_of_eq r.len⟩
    · exact ⟨T, y, e, n, e4, q us (SqL.of (s _ _ ha))⟩
theorem s_forEn [∀ x, Mn (R x)] {wi : TI} {g : TG} {tb : TS} {D : Ends} (hi : EvEn wi σ B H R xs) (s : Same B H) (Pv : Nat → Slo → Hp → Hp → Prop)
    (h0 : ∀ B' H', Gr B H B' H' → Pv 0 σ B' H') (grow : ∀ i σ' B' H' B2 H2, Gr B' H' B2 H2 → Pv i σ' B' H' → Pv i σ' B2 H2)
    (step : ∀ i x v T σ' Bp B' H', xs[i]? = some x → Same Bp B' → Same B' H' → Pv i σ' B' H' → R x v B' → B' T = some (.tup [vn i, v]) →
      g (.ref T) σ' H' fun σ2 H2 => tb { D with nx := fun σ3 H3 => ∃ B3, Same Bp B3 ∧ Same B3 H3 ∧ Pv (i + 1) σ3 B3 H3, ct := fun σ3 H3 => ∃ B3, Same Bp B3 ∧ Same B3 H3 ∧ Pv (i + 1) σ3 B3 H3, bk := D.nx } σ2 H2)
    (done : ∀ σ' B' H', Same B' H' → Pv xs.length σ' B' H' → D.nx σ' H') : tFor wi g tb D σ H := by
  refine hi B H (Gr.refl s) _ fun J B0 H0 vs g0 r w => ?_
  refine ⟨fun i m σ' H' => m = xs.length - i ∧ i ≤ xs.length ∧ ∃ B', Same B0 B' ∧ Same B' H' ∧ Pv i σ' B' H', ⟨xs.length, by simp, Nat.zero_le _, B0, Same.refl _, g0.sub, h0 B0 H0 g0⟩, ?_⟩
  rintro i m σ' H' ⟨rfl, hle, B', s1, s2, q⟩
  have G := s1.trans s2
  by_cases hlt : i < xs.length
  · refine .inr ⟨w.goes i H' hlt G, fun σ3 H3 => ∃ B3, Same B' B3 ∧ Same B3 H3 ∧ Pv (i + 1) σ3 B3 H3, ?_, fun x H'' y => ?_⟩
    · rintro σ3 H3 ⟨B3, s3, s4, q3⟩
      exact ⟨xs.length - (i + 1), by omega, rfl, hlt, B3, s1.trans s3, s4, q3⟩
    · obtain ⟨T, z, e, nT, eH, hx⟩ := w.yields i H' x H'' hlt G y
      subst e eH
      obtain ⟨u, hu, ru⟩ := (r.mn s1).at hx
      have gT : Gr B' H' (upd B' T (.tup [vn i, z])) (upd H' T (.tup [vn i, z])) := Gr.new s2 nT
      exact step i u z T σ' B' _ _ hu gT.bb gT.sub (grow _ _ _ _ _ _ gT q) (Mn.mn gT.bb ru) upd_same
  · have e : i = xs.length := by omega
    subst e
    exact .inl ⟨w.stops H' G, done σ' B' H' s2 q⟩
end
/-! ### dicts of pairs -/
abbrev kp (p : Nat × Nat) : List Key := [ky p.1, ky p.2]
theorem kp_inj {p q : Nat × Nat} (h : kp p = kp q) : p = q := by
  injection h with h1 h2
  injection h2 with h2 _
  exact Prod.ext (ky_inj h1) (ky_inj h2)
def dtp (ks : List (Nat × Nat)) : List (List Key × V) := ks.map fun k => (kp k, .bl true)
theorem valV_dtp (k : Nat × Nat) : ∀ ks : List (Nat × Nat), valV (dtp ks) (kp k) = if k ∈ ks then some (.bl true) else none
  | [] => rfl
  | q :: ks => by
    show valV ((kp q, V.bl true) :: dtp ks) (kp k) = _
    by_cases h : q = k
    · subst h
      rw [valV_pos rfl, if_pos (List.mem_cons_self ..)]
    · rw [valV_neg fun e => h (kp_inj e), valV_dtp k ks]
      by_cases m : k ∈ ks
      · rw [if_pos m, if_pos (List.mem_cons_of_mem _ m)]
      · rw [if_neg m, if_neg fun z => m ((List.mem_cons.mp z).resolve_left fun e => h e.symm)]
theorem some_dtp (k : Nat × Nat) (ks : List (Nat × Nat)) : (valV (dtp ks) (kp k)).isSome = decide (k ∈ ks) := by
  rw [valV_dtp]
  by_cases m : k ∈ ks
  · rw [if_pos m, decide_eq_true m]; rfl
  · rw [if_neg m, decide_eq_false m]; rfl
def insP (ks : List (Nat × Nat)) (k : Nat × Nat) : List (Nat × Nat) := if k ∈ ks then ks else ks ++ [k]
theorem put_dtp (ks : List (Nat × Nat)) (k : Nat × Nat) : putK (dtp ks) (kp k) (.bl true) = dtp (insP ks k) := by
  unfold insP
  by_cases m : k ∈ ks
  · rw [if_pos m]
    unfold putK
    rw [if_pos (by rw [valV_any, some_dtp, decide_eq_true m])]
    unfold dtp
    rw [List.map_map]
    refine List.map_congr_left fun q _ => ?_
    show (if kp q = kp k then (kp q, V.bl true) else (kp q, V.bl true)) = _
    rw [ite_self]
  · rw [if_neg m, putK_new _ (by rw [valV_dtp, if_neg m])]
    unfold dtp
    rw [List.map_append]; rfl
theorem len_dtp (ks : List (Nat × Nat)) : (dtp ks).length = ks.length := List.length_map ..
theorem mem_insP {ks : List (Nat × Nat)} {k q : Nat × Nat} : q ∈ insP ks k ↔ q ∈ ks ∨ q = k := by
  unfold insP
  split
  · rename_i h
    exact ⟨.inl, fun z => z.elim id fun e => e ▸ h⟩
  · rw [List.mem_append, List.mem_singleton]
theorem insP_len (ks : List (Nat × Nat)) (k : Nat × Nat) : (insP ks k).length ≤ ks.length + 1 := by
  unfold insP
  split
  · omega
  · rw [List.length_append]; simp
theorem insP_nodup {ks : List (Nat × Nat)} {k : Nat × Nat} (h : ks.Nodup) : (insP ks k).Nodup := by
  unfold insP
  split
  · exact h
  · rename_i hk
    rw [List.nodup_append]
    refine ⟨h, List.nodup_cons.mpr ⟨by simp, List.nodup_nil⟩, fun a ha b hb e => ?_⟩
    rw [List.mem_singleton.mp hb] at e
    exact hk (e ▸ ha)
def VDP (ks : List (Nat × Nat)) : VP := fun v H => ∃ a, v = .ref a ∧ H a = some (.dT (dtp ks))
instance {ks : List (Nat × Nat)} : Mn (VDP ks) := ⟨fun s ⟨a, e, h⟩ => ⟨a, e, s _ _ h⟩⟩
theorem ev_inDP {ks : List (Nat × Nat)} {p : Nat × Nat} (hk : Ev te σ B H (I2 p)) (hd : Ev td σ B H (VDP ks)) : Ev (tDIn te td) σ B H (RX (.bl (decide (p ∈ ks)))) := fun B1 H1 g1 Q k =>
  hk B1 H1 g1 _ fun v B2 H2 g2 ⟨t, e, ht⟩ => hd B2 H2 (g1.trans g2) _ fun w B3 H3 g3 ⟨a, e3, ha⟩ => by
    subst e; subst e3
    exact ⟨a, _, rfl, DGet.t (k := kp p) (g3.sub _ _ ha) (g3.sub _ _ (g3.bb _ _ ht)), k _ B3 H3 (g2.trans g3) (by rw [some_dtp]; rfl)⟩
/-- d[p] = True, d one's own, p a pair -/
theorem s_dputP {ks : List (Nat × Nat)} {p : Nat × Nat} (he : Ev tv σ B H (RX (.bl true))) (hd : Ev td σ B H (RX (.ref a))) (hk : Ev te σ B H (I2 p)) (s : Same B H) (h : H a = some (.dT (dtp ks))) (hl : ks.length < 1000000) {D : Ends}
    (k : ∀ B' H', Gr B H B' H' → H' a = some (.dT (dtp ks)) → D.nx σ (upd H' a (.dT (dtp (insP ks p))))) : sDPut td te tv D σ H :=
  he.go s fun v1 B1 H1 g1 e1 => hd B1 H1 g1 _ fun v2 B2 H2 g2 e2 => hk B2 H2 (g1.trans g2) _ fun v3 B3 H3 g3 ⟨t, e3, ht⟩ => by
    cases e1; cases e2; subst e3
    have h3 := g3.hh _ _ (g2.hh _ _ (g1.hh _ _ h))
    refine ⟨a, _, rfl, DPut.t (k := kp p) h3 (g3.sub _ _ ht) (by rw [len_dtp]; exact szl hl), ?_⟩
    rw [put_dtp]
    exact k B3 H3 ((g1.trans g2).trans g3) h3
/-! ### tied_of -/
abbrev spTied (C : Addr) : Sp := Pr fun vs B P => ∃ v m ts rows, vs = [v] ∧ BookV C m ts rows v B ∧ P = LO (fun r => IT r) rows
theorem sc_tied_of : FnScope ["book"] ["book"] (defScope (tp 20)) := ⟨rfl, rfl, rfl, by decide +kernel, rfl, by decide +kernel, by decide +kernel⟩
theorem ok_tied_of (D : Dn K mg "tied_of" "tied_of" (tp 20)) (c : Ck K mg "Book" C "kept_ties") : Cal P w K mg base 1 "tied_of" (spTied C) := by
  refine cal_of D sc_tied_of (fun _ _ _ _ _ _ us hl => match us, hl with | [_], _ => rfl) (fun vs H Q E h => ?_) (fun cdv A outer s f H vs Q E hr h => ?_)
  · obtain ⟨B, P, s, ⟨v, m, ts, rows, rfl, _⟩, _⟩ := h
    rfl
  · obtain ⟨B0, P, s0, ⟨v, m, ts, rows, rfl, ⟨x, dx, fs, t, d, l, rfl, hx, l1, l2, _, l3, hd, hl⟩, rfl⟩, k⟩ := h
    refine ⟨_, (pss_one (ps_ret (pe_dget (hu_of hr) (fldK K (pv 0) rfl) pe_str (fun _ _ => rfl)))), ?_⟩
    exact s_ret (D := { nx := _, rt := _ }) ((ev_dgetS (ev_fld (evx 0 rfl) hx c.cl c.nF l3) hd).imp fun v B' s e => by cases e; exact Mn.mn s hl) s0 fun u B' H' g hu => k u B' H' g hu
/-! ### a web's facts, cold, hot -/
def offd (d : Addr) (B H : Hp) : Hp := fun a => if a = d then B a else H a
theorem offd_at {d : Addr} : offd d B H d = B d := if_pos rfl
theorem offd_ne {d a : Addr} (h : a ≠ d) : offd d B H a = H a := if_neg h
def WHot (d : Addr) (n : Nat) (ps : List (Nat × Nat)) (B : Hp) : Prop := ∃ l rows, B d = some (.dK [(.inr "beside", l)]) ∧ RowsOk n ps rows ∧ LO (fun r => IT r) rows l B
def WSt (d : Addr) (n : Nat) (ps : List (Nat × Nat)) (B H : Hp) : Prop := (B d = none ∧ H d = some (.dK [])) ∨ WHot d n ps B
theorem WHot.mn {ps : List (Nat × Nat)} (s : Same B B') (h : WHot d n ps B) : WHot d n ps B' := let ⟨l, rows, h1, h2, h3⟩ := h; ⟨l, rows, s _ _ h1, h2, Mn.mn s h3⟩
theorem offd_same (s : Same B H) : Same B (offd d B H) := fun a o e => by
  by_cases h : a = d
  · subst h; rw [offd_at]; exact e
  · rw [offd_ne h]; exact s a o e
theorem offd_hot {o : HO} (s : Same B H) (h : B d = some o) : offd d B H = H := funext fun a => by
  by_cases e : a = d
  · subst e; rw [offd_at, h, s _ _ h]
  · rw [offd_ne e]
theorem Gr.offd {ps : List (Nat × Nat)} (s : Same B H) (g : Gr B H B1 H1) (st : WSt d n ps B H) : Gr B (offd d B H) B1 (offd d B1 H1) ∧ WSt d n ps B1 H1 := by
  rcases st with ⟨b0, h0⟩ | hot
  · have b1 := g.fr _ _ b0 h0 mo_dK
    refine ⟨⟨g.bb, offd_same g.sub, fun a o e => ?_, fun a o e1 e2 m => ?_⟩, .inl ⟨b1, g.hh _ _ h0⟩⟩
    · by_cases h : a = d
      · subst h; rw [offd_at, b0] at e; cases e
      · rw [offd_ne h] at e ⊢; exact g.hh _ _ e
    · by_cases h : a = d
      · subst h; rw [offd_at, b0] at e2; cases e2
      · rw [offd_ne h] at e2; exact g.fr _ _ e1 e2 m
  · have hot1 := hot.mn g.bb
    obtain ⟨l, rows, h1, _⟩ := hot
    obtain ⟨l', rows', h1', _⟩ := id hot1
    rw [offd_hot s h1, offd_hot g.sub h1']
    exact ⟨g, .inr hot1⟩
theorem Gr.warm {o : HO} (s : Same B H) (b0 : B d = none) : Gr B (Lw.offd d B H) (upd B d o) (upd H d o) := by
  have h := Gr.new (o := o) (offd_same (d := d) s) (p := d) (by rw [offd_at]; exact b0)
  have e : upd (Lw.offd d B H) d o = upd H d o := funext fun a => by
    by_cases e : a = d
    · subst e; rw [upd_same, upd_same]
    · rw [upd_ne e, upd_ne e, offd_ne e]
  rw [e] at h
  exact h
theorem ev_niS {k : Str} {kvs : List (Key × V)} (hd : Ev td σ B H (RX (.ref a))) (h : H a = some (.dK kvs)) : Ev (tDNotIn (tC (.str k)) td) σ B H (RX (.bl (!(valV kvs (.inr k)).isSome))) := fun B1 H1 g1 Q q =>
  hd B1 H1 g1 _ fun w B3 H3 g3 e3 => by
    cases e3
    exact ⟨a, _, rfl, DGet.k (k := Sum.inr k) (g3.hh _ _ (g1.hh _ _ h)), q _ B3 H3 g3 rfl⟩
theorem s_dputS {k : Str} {kvs : List (Key × V)} [Mn PV] (he : Ev tv σ B H PV) (hd : Ev td σ B H (RX (.ref a))) (s : Same B H) (h : H a = some (.dK kvs)) (hl : kvs.length < 1000000) {D : Ends}
    (q : ∀ v B' H', Gr B H B' H' → H' a = some (.dK kvs) → PV v B' → D.nx σ (upd H' a (.dK (putK kvs (.inr k) v)))) : sDPut td (tC (.str k)) tv D σ H :=
  he.go s fun v1 B1 H1 g1 e1 => hd B1 H1 g1 _ fun v2 B2 H2 g2 e2 => by
    cases e2
    have h3 := g2.hh _ _ (g1.hh _ _ h)
    exact ⟨a, _, rfl, DPut.k (k := Sum.inr k) h3 (szl hl), q v1 B2 H2 (g1.trans g2) h3 (Mn.mn g2.bb e1)⟩
/-- beside_of(web): the web's facts are hot after it -/
abbrev spBeside (C : Addr) : Sp := fun vs H Q _ => ∃ B d n ps v, vs = [v] ∧ WebO C n ps d v B ∧ PsOk n ps ∧ ps.length ≤ 1000 ∧ n ≤ 1000 ∧ Same B H ∧ WSt d n ps B H ∧
  ∀ u B' H' rows, Gr B (offd d B H) B' H' → B' d = some (.dK [(.inr "beside", u)]) → RowsOk n ps rows → LO (fun r => IT r) rows u B' → Q u H'
theorem sc_beside_of : FnScope ["web"] ["web"] (defScope (tp 25)) := ⟨rfl, rfl, rfl, by decide +kernel, rfl, by decide +kernel, by decide +kernel⟩
theorem ok_beside_of (D : Dn K mg "beside_of" "beside_of" (tp 25)) (c : Ck K mg "Web" C "kept_pushes") (c_beside_lists : Cal P w K mg base 1 "beside_lists" spBesideLists) : Cal P w K mg base 2 "beside_of" (spBeside C) := by
  refine cal_of D sc_beside_of (fun _ _ _ _ _ _ us hl => match us, hl with | [_], _ => rfl) (fun vs H Q E h => ?_) (fun cdv A outer s f H vs Q E hr h => ?_)
  · obtain ⟨B, d, n, ps, v, rfl, _⟩ := h
    rfl
  · obtain ⟨B, d, n, ps, v, rfl, hw, hps, hle, hn, s0, st, k⟩ := h
    refine ⟨_, (pss_cons (ps_if (pt_cmp (pc_dnotin (hu_of hr) pe_str (fldK K (pv 0) rfl)) rfl) (pss_one (ps_dput (hu_of hr) (fldK K (pv 0) rfl) pe_str (pe_k c_beside_lists hr (by decide) rfl (pa_cons (fldK K (pv 0) rfl) (pa_cons (fldK K (pv 0) rfl) pa_nil))) rfl)) pss_nil)
      (pss_one (ps_ret (pe_dget (hu_of hr) (fldK K (pv 0) rfl) pe_str (fun _ _ => rfl))))), ?_⟩
    obtain ⟨x, dx, fs, t, rfl, hx, l1, l2, ht, l3⟩ := id hw
    rcases st with ⟨b0, h0⟩ | hot
    · refine s_if (D := { nx := _, rt := _ }) (b := true) (et_B (ev_niS (ev_fld (evx 0 rfl) hx c.cl c.nF l3) h0)) s0 (fun _ B1 H1 g1 => ?_) fun e => nomatch e
      refine s_dputS (PV := RwT n ps) (ev_call (ea_c (ev_fld (evx 0 rfl) (g1.bb _ _ hx) c.cl c.nS l1) (ea_c (P := TO I2 ps) ((ev_fld (evx 0 rfl) (g1.bb _ _ hx) c.cl c.nP l2).imp fun v B' s e => by cases e; exact Mn.mn (g1.bb.trans s) ht) ea_nil)) fun vs B' _ hvs => ?_) (ev_fld (evx 0 rfl) (g1.bb _ _ hx) c.cl c.nF l3) g1.sub (g1.hh _ _ h0) (by decide) fun l B2 H2 g2 h2 ⟨rows, hro, hl⟩ => ?_
      · obtain ⟨_, _, rfl, rfl, u', _, rfl, hu', rfl⟩ := hvs
        exact ⟨u', ps, n, rfl, hu', hps, hle, hn, rfl⟩
      · have g12 := g1.trans g2
        have b2 := g12.fr _ _ b0 h0 mo_dK
        obtain ⟨go, _⟩ := Gr.offd (ps := ps) (n := n) s0 g12 (.inl ⟨b0, h0⟩)
        have gw := go.trans (Gr.warm (o := .dK (putK [] (.inr "beside") l)) g12.sub b2)
        have gw2 : Gr (upd B2 d (.dK (putK [] (.inr "beside") l))) (upd H2 d (.dK (putK [] (.inr "beside") l))) _ _ := Gr.refl gw.sub
        refine s_ret (D := { nx := _, rt := _ }) ((ev_dgetS (l := l) (ev_fld (evx 0 rfl) (gw.bb _ _ hx) c.cl c.nF l3) upd_same)) gw.sub fun u B' H' g e => ?_
        cases e
        have hl' := Mn.mn (same_new b2 (o := .dK (putK [] (.inr "beside") l))) hl
        exact k l B' H' rows (gw.trans g) (g.bb _ _ upd_same) hro (Mn.mn g.bb hl')
    · obtain ⟨l, rows, hd, hro, hl⟩ := id hot
      refine s_if (D := { nx := _, rt := _ }) (b := false) (et_B (ev_niS (ev_fld (evx 0 rfl) hx c.cl c.nF l3) (s0 _ _ hd))) s0 (fun e => nomatch e) fun _ B1 H1 g1 => ?_
      refine s_ret (D := { nx := _, rt := _ }) ((ev_dgetS (l := l) (ev_fld (evx 0 rfl) (g1.bb _ _ hx) c.cl c.nF l3) (g1.bb _ _ hd))) g1.sub fun u B' H' g e => ?_
      cases e
      have gg := g1.trans g
      exact k l B' H' rows (by rw [offd_hot s0 hd]; exact gg) (gg.bb _ _ hd) hro (Mn.mn gg.bb hl)
end
end Lw
/-! Lx: is_land, land_numbers, touching. -/
namespace Lw
open PySem PySem.Spec PyProof.Rows L2
section
variable {P : Program} {w : World} {K : PySem.W.Frag} {mg : Str → Option Value} {base : Heap}
variable {B H B0 H0 B1 H1 B2 H2 B' H' : Hp} {σ : Slo} {te ta tb tl td tv : TE} {a C dx d : Addr} {b : Bool} {x v : V} {m n i j : Nat} {fs : List (Str × V)} {f kf : Str} {PV : VP}
/-- a property of a web -/
theorem ev_wsize {ps : List (Nat × Nat)} {E : XK} (h : Ev te σ B H (RX v)) (hw : WebO C n ps d v B) : Ev (tProp C (getSp C "kept_size") [] E te) σ B H (RX (vn n)) := by
  obtain ⟨x, dx, fs, t, rfl, hx, l1, l2, ht, l3⟩ := hw
  exact ev_prop h hx l1
theorem ev_wpush {ps : List (Nat × Nat)} {E : XK} (h : Ev te σ B H (RX v)) (hw : WebO C n ps d v B) : Ev (tProp C (getSp C "kept_pushes") [] E te) σ B H (TO I2 ps) := by
  obtain ⟨x, dx, fs, t, rfl, hx, l1, l2, ht, l3⟩ := hw
  exact (ev_prop h hx l2).imp fun v B' s e => by cases e; exact Mn.mn s ht
theorem ev_bsize {ts : List (Nat × Nat)} {rows : List (List Nat)} {E : XK} (h : Ev te σ B H (RX v)) (hw : BookV C m ts rows v B) : Ev (tProp C (getSp C "kept_size") [] E te) σ B H (RX (vn m)) := by
  obtain ⟨x, dx, fs, t, d, l, rfl, hx, l1, l2, _, l3, hd, hl⟩ := hw
  exact ev_prop h hx l1
theorem ev_bties {ts : List (Nat × Nat)} {rows : List (List Nat)} {E : XK} (h : Ev te σ B H (RX v)) (hw : BookV C m ts rows v B) : Ev (tProp C (getSp C "kept_ties") [] E te) σ B H (TO I2 ts) := by
  obtain ⟨x, dx, fs, t, d, l, rfl, hx, l1, l2, ht, l3, hd, hl⟩ := hw
  exact (ev_prop h hx l2).imp fun v B' s e => by cases e; exact Mn.mn s ht
theorem all_map_true {α : Type} (xs : List α) : (xs.map fun _ => true).all id = true := all_replicate_true _ fun b m => by obtain ⟨_, _, e⟩ := List.mem_map.mp m; exact e.symm
theorem ltn_next {l : List Nat} (h : l.Pairwise (· < ·)) (hi : i + 1 < l.length) : l[i] < l[i + 1] := List.pairwise_iff_getElem.mp h i (i + 1) (by omega) hi (Nat.lt_succ_self i)
/-- a land: standings of the web, strictly ascending, one at least -/
structure LandOk (n : Nat) (l : List Nat) : Prop where
  ne : l ≠ []
  lt : ∀ s ∈ l, s < n
  asc : l.Pairwise (· < ·)
theorem LandOk.nd {l : List Nat} (h : LandOk n l) : l.Nodup := h.asc.imp fun h => Nat.ne_of_lt h
theorem LandOk.len {l : List Nat} (h : LandOk n l) : l.length ≤ n := by
  have := nodup_le (m := List.range n) h.nd fun x hx => List.mem_range.mpr (h.lt x hx)
  rw [List.length_range] at this; exact this
abbrev spIsLand (C : Addr) : Sp := Pr fun vs B P => ∃ v u n d ps land, vs = [v, u] ∧ WebO C n ps d v B ∧ IT land u B ∧ LandOk n land ∧ n ≤ 1000 ∧ P = RX (.bl true)
theorem sc_is_land : FnScope ["web", "thing", "standing", "at"] ["web", "thing"] (defScope (tp 27)) := ⟨rfl, rfl, rfl, by decide +kernel, rfl, by decide +kernel, by decide +kernel⟩
theorem ok_is_land (D : Dn K mg "is_land" "is_land" (tp 27)) (T : Tx mg) (c_is_index : Cal P w K mg base 3 "is_index" spIndex) (c_Web_size : Prp P w K mg base C "size" "kept_size") : Cal P w K mg base 4 "is_land" (spIsLand C) := by
  refine cal_of D sc_is_land (fun _ _ _ _ _ _ us hl => match us, hl with | [_, _], _ => rfl) (fun vs H Q E h => ?_) (fun cdv A outer s f H vs Q E hr h => ?_)
  · obtain ⟨B, P, s, ⟨v, u, n, d, ps, land, rfl, _⟩, _⟩ := h
    rfl
  · obtain ⟨B0, P, s0, ⟨v, u, n, d, ps, land, rfl, hw, hu, hl, hn, rfl⟩, k⟩ := h
    refine ⟨_, (pss_cons (ps_if (PW.pt (pw_or (pt_not (pt_val (pe_callB (isiK K) (by rfl) T.isinstance (by decide +kernel) (pa_cons (pv 1) (pa_cons (pe_bltn (v := .ty "tuple") (u := .type "tuple") (by rfl) T.tuple (by decide +kernel) rfl) pa_nil))))) (pw_or (pt_cmpR op_eq (pe_callB (lenS K) (by rfl) T.len PySem.boot_len (pa_cons (pv 1) pa_nil)) pe_int (nomark _)) (pw_or1 (pt_not (pt_val (pe_callB (allK K rfl) (by rfl) T.all (by decide +kernel) (pa_cons (pe_lc (own := [("standing", 2)]) rfl sc_is_land.nd (piT K (pv 1)) (blkOk_by (by kernel_rfl)) (fun _ _ _ _ _ => (pg_name (i := 2) sc_is_land.nd rfl (.inl rfl))) (fun _ _ _ _ _ => pts_nil) (fun _ _ _ _ _ => (pe_k c_is_index hr (by decide) rfl (pa_cons (pv 2) (pa_cons (pe_pr c_Web_size hr (by decide) (pv 0) rfl) pa_nil))))) pa_nil)))))))) (pss_one (ps_ret pe_bl)) pss_nil)
      (pss_one (ps_ret (pe_callB (allK K rfl) (by rfl) T.all (by decide +kernel) (pa_cons (pe_lc (own := [("at", 3)]) rfl sc_is_land.nd (pi_range1 rfl T.range (pa_cons (pe_op op_sub (pe_callB (lenS K) (by rfl) T.len PySem.boot_len (pa_cons (pv 1) pa_nil)) pe_int) pa_nil)) (blkOk_by (by kernel_rfl)) (fun _ _ _ _ _ => (pg_name (i := 3) sc_is_land.nd rfl (.inl rfl))) (fun _ _ _ _ _ => pts_nil) (fun _ _ _ _ _ => (pe_cmpR op_lt (pe_ix (ixT K) (pv 1) (pv 3) (fun _ _ => rfl)) (pe_ix (ixT K) (pv 1) (pe_op op_add (pv 3) pe_int) (fun _ _ => rfl)) (nomark _)))) pa_nil))))), ?_⟩
    have hln := hl.len
    have h0 : land.length ≠ 0 := fun e => hl.ne (List.eq_nil_of_length_eq_zero e)
    obtain ⟨a, rfl, ha⟩ := id hu
    have hto : TO (fun x => RX (vn x)) land (.ref a) B0 := VT.to (f := vn) ⟨a, rfl, ha⟩
    refine s_if (D := { nx := _, rt := _ }) (b := false) (et_or (b := false) (c := false) (et_not (b := true) (et_B (ev_isi (evx 1 rfl) (fun _ _ g => .base (.tup (g.hh _ _ (s0 _ _ ha)))) (kit_ty (by decide +kernel))))) fun _ =>
      et_or (b := false) (c := false) ((et_val (ev_eqN (ev_len (ev_var 1 rfl hu) (pn_VT (List.length_map ..))) ev_0)).eq (decide_eq_false h0)) fun _ => et_not (b := true) (et_B ((ev_all (bs := land.map fun _ => true) (em_lcM (R' := fun b => RX (.bl b)) (ei_tup (ev_var 1 rfl hto)) (fun _ => true) (by omega) (fun _ => rfl) fun p v B' H' hmem g hv => ?_).vals.vl).eq ?_))) s0 (fun e => nomatch e) fun _ B1 H1 g1 => ?_
    · cases hv
      refine ev_call (ea_x (evx 2 rfl) (ea_x (ev_wsize (evx 0 rfl) (Mn.mn g.bb hw)) ea_nil)) fun vs B2 _ e => ?_
      cases e
      exact ⟨p, n, rfl, by rw [decide_eq_true (hl.lt p hmem)]⟩
    · rw [all_map_true]
    · have hu1 : IT land (.ref a) B1 := Mn.mn g1.bb hu
      have hto1 : TO (fun x => RX (vn x)) land (.ref a) B1 := Mn.mn g1.bb hto
      refine s_ret (D := { nx := _, rt := _ }) ((ev_all (bs := (List.range (land.length - 1)).map fun _ => true) (em_lcM (R' := fun b => RX (.bl b)) (ei_rng1 (n := land.length - 1) (ea_x (ev_subN (ev_len (ev_var 1 rfl hu1) (pn_VT (List.length_map ..))) ev_1 (by omega)) ea_nil) (by omega)) (fun _ => true) (by rw [List.length_range]; omega) (fun _ => rfl) fun i v B' H' hmem g hv => ?_).vals.vl).eq ?_) g1.sub fun v B' H' g p => k v B' H' (g1.trans g) p
      · cases hv
        have hi := List.mem_range.mp hmem
        have hu2 : IT land (.ref a) B' := Mn.mn g.bb hu1
        have e1 : (land.map vn)[i]? = some (vn (land[i]'(by omega))) := by rw [List.getElem?_map, List.getElem?_eq_getElem (by omega)]; rfl
        have e2 : (land.map vn)[i + 1]? = some (vn (land[i + 1]'(by omega))) := by rw [List.getElem?_map, List.getElem?_eq_getElem (by omega)]; rfl
        exact (ev_ltN (ev_ixVT (ev_var 1 rfl hu2) (evx 3 rfl) e1) (ev_ixVT (ev_var 1 rfl hu2) (ev_addN (evx 3 rfl) ev_1) e2)).eq (by rw [decide_eq_true (ltn_next hl.asc (by omega))])
      · rw [all_map_true]
/-! ### land_numbers -/
/-- who owns which standing -/
def fillOne (os : List (Option Nat)) (c : Nat) (land : List Nat) : List (Option Nat) := land.foldl (fun o s => o.set s (some c)) os
theorem fillOne_len (os : List (Option Nat)) (c : Nat) (land : List Nat) : (fillOne os c land).length = os.length := by
  unfold fillOne
  induction land generalizing os with
  | nil => rfl
  | cons s l ih => rw [List.foldl_cons, ih, List.length_set]
theorem fillOne_snoc (os : List (Option Nat)) (c : Nat) (l : List Nat) (s : Nat) : fillOne os c (l ++ [s]) = (fillOne os c l).set s (some c) := by
  unfold fillOne
  rw [List.foldl_append]; rfl
def fillAll (n : Nat) (told : List (List Nat)) : List (Option Nat) := (told.zipIdx).foldl (fun o p => fillOne o p.2 p.1) (List.replicate n none)
theorem fillAll_snoc (n : Nat) (told : List (List Nat)) (l : List Nat) : fillAll n (told ++ [l]) = fillOne (fillAll n told) told.length l := by
  unfold fillAll
  rw [List.zipIdx_append, List.foldl_append]
  simp
theorem fillAll_len (n : Nat) (told : List (List Nat)) : (fillAll n told).length = n := by
  have h : ∀ (qs : List (List Nat × Nat)) (os : List (Option Nat)), (qs.foldl (fun o p => fillOne o p.2 p.1) os).length = os.length := by
    intro qs
    induction qs with
    | nil => intro os; rfl
    | cons q qs ih => intro os; rw [List.foldl_cons, ih, fillOne_len]
  unfold fillAll
  rw [h, List.length_replicate]
abbrev spLandNumbers (C : Addr) : Sp := Pr fun vs B P => ∃ v u n d ps told, vs = [v, u] ∧ WebO C n ps d v B ∧ TO (fun l => IT l) told u B ∧ (∀ l ∈ told, LandOk n l) ∧ told.length ≤ 1000 ∧ n ≤ 1000 ∧ P = OL (fillAll n told)
theorem sc_land_numbers : FnScope ["web", "told", "found", "standing", "content", "land"] ["web", "told"] (defScope (tp 28)) := ⟨rfl, rfl, rfl, by decide +kernel, rfl, by decide +kernel, by decide +kernel⟩
theorem ok_land_numbers (D : Dn K mg "land_numbers" "land_numbers" (tp 28)) (T : Tx mg) (c_Web_size : Prp P w K mg base C "size" "kept_size") : Cal P w K mg base 3 "land_numbers" (spLandNumbers C) := by
  refine cal_of D sc_land_numbers (fun _ _ _ _ _ _ us hl => match us, hl with | [_, _], _ => rfl) (fun vs H Q E h => ?_) (fun cdv A outer s f H vs Q E hr h => ?_)
  · obtain ⟨B, P, s, ⟨v, u, n, d, ps, told, rfl, _⟩, _⟩ := h
    rfl
  · obtain ⟨B0, P, s0, ⟨v, u, n, d, ps, told, rfl, hw, hu, hl, ht, hn, rfl⟩, k⟩ := h
    refine ⟨_, (pss_cons (ps_setLc (i := 2) (own := [("standing", 3)]) rfl sc_land_numbers.nd rfl rfl (sw_true rfl rfl rfl (by decide +kernel)) (pi_range1 rfl T.range (pa_cons (pe_pr c_Web_size hr (by decide) (pv 0) rfl) pa_nil)) (blkOk_by (by kernel_rfl)) (fun _ _ _ _ _ => (pg_name (i := 3) sc_land_numbers.nd rfl (.inl rfl))) (fun _ _ _ _ _ => pts_nil) (fun _ _ _ _ _ => pe_non))
      (pss_cons (ps_for PassesOwn.never rfl (piEnT K (by rfl) T.enumerate (pa_cons (pv 1) pa_nil)) (pgT K rfl (pgs_cons (pg_name (i := 4) sc_land_numbers.nd rfl (.inl rfl)) (pgs_cons (pg_name (i := 5) sc_land_numbers.nd rfl (.inl rfl)) pgs_nil)) (n := 2))
        (pss_one (ps_for PassesOwn.never rfl (piT K (pv 5)) (pg_name (i := 3) sc_land_numbers.nd rfl (.inl rfl))
          (pss_one (ps_asg (pv 4) (pg_sub (pv 2) (pv 3) set_list))))))
      (pss_one (ps_ret (pv 2))))), ?_⟩
    refine s_asgM (D := { nx := _, rt := _ }) (em_lcM (R' := fun _ : Nat => RX .non) (ei_rng1 (n := n) (ea_x (ev_wsize (evx 0 rfl) hw) ea_nil) (by omega)) (fun x => x) (by rw [List.length_range]; omega) (fun _ => rfl) fun p v B' H' hmem g hv => ev_c) s0 fun L vs B1 H1 g1 nL bL hL r => ?_
    have evs : vs = (fillAll n []).map vo := by
      rw [Rs.vals (f := fun _ : Nat => V.non) r]
      show _ = (List.replicate n none).map vo
      rw [List.map_map, List.map_replicate]
      show (List.range n).map (fun _ => V.non) = _
      rw [List.map_const', List.length_range]; rfl
    subst evs
    refine s_forEn (D := { nx := _, rt := _ }) (een_tup (ea_c (ev_var 1 rfl (Mn.mn g1.bb hu)) ea_nil)) g1.sub (fun i σ B' H' => ∃ x3 x4 x5, σ = [some v, some u, some (.ref L), x3, x4, x5] ∧ Gr B0 H B' H' ∧ B' L = none ∧ H' L = some (.lst ((fillAll n (told.take i)).map vo)))
      (fun B' H' g => ?_) (fun i σ B' H' B2 H2 g => ?_) (fun i l lv T σ Bp B' H' hi sp s2 => ?_) (fun σ B' H' s2 => ?_)
    · exact ⟨_, _, _, rfl, g1.trans g, (g.own bL hL mo_lst).1, by rw [List.take_zero]; exact g.hh _ _ hL⟩
    · rintro ⟨x3, x4, x5, rfl, g0, b, h⟩
      exact ⟨_, _, _, rfl, g0.trans g, (g.own b h mo_lst).1, g.hh _ _ h⟩
    · rintro ⟨x3, x4, x5, rfl, g0, b, h⟩ hlv hT
      refine ⟨T, _, rfl, SqT.of (s2 _ _ hT), rfl, _, _, rfl, _, _, rfl, rfl, ?_⟩
      have hlm := hl l (List.mem_of_getElem? hi)
      have hll := hlm.len
      have hil : (told.take i).length = i := by
        have := (List.getElem?_eq_some_iff.mp hi).1
        rw [List.length_take]; omega
      obtain ⟨al, rfl, hal⟩ := hlv
      refine s_for (ei_tup (B := B') (ev_var 5 rfl (VT.to (f := vn) ⟨al, rfl, hal⟩))) s2 (fun j σ B' H' => ∃ x3, σ = [some v, some u, some (.ref L), x3, some (vn i), some (.ref al)] ∧ Gr B0 H B' H' ∧ Same Bp B' ∧ B' L = none ∧ H' L = some (.lst ((fillOne (fillAll n (told.take i)) i (l.take j)).map vo)))
        (fun B3 H3 g => ?_) (fun j st sv σ B3 H3 hj s3 => ?_) (fun σ B3 H3 s3 => ?_)
      · exact ⟨_, rfl, g0.trans g, sp.trans g.bb, (g.own b h mo_lst).1, by rw [List.take_zero]; exact g.hh _ _ h⟩
      · rintro ⟨x3, rfl, g0, sp, b, h⟩ e
        cases e
        have hst := hlm.lt st (List.mem_of_getElem? hj)
        refine s_setL (j := st) (evx 4 rfl) (evx 2 rfl) (evx 3 rfl) s3 h (by rw [List.length_map, fillOne_len, fillAll_len]; exact hst) fun v4 B4 H4 g4 h4 e4 => ?_
        cases e4
        have nL0 : H L = none := nL
        have b4 := (g4.own b h mo_lst).1
        have gg := (g0.trans g4).put (o := .lst (((fillOne (fillAll n (told.take i)) i (l.take j)).map vo).set st (vn i))) nL0 b4
        refine ⟨B4, g4.bb, gg.sub, _, rfl, gg, sp.trans g4.bb, b4, ?_⟩
        rw [upd_same, List.take_add_one, hj]
        show _ = some (HO.lst (List.map vo (fillOne _ _ (l.take j ++ [st]))))
        rw [fillOne_snoc, List.map_set]; rfl
      · rintro ⟨x3, rfl, g0, sp, b, h⟩
        refine ⟨B3, sp, s3, _, _, _, rfl, g0, b, ?_⟩
        rw [h, List.take_length, List.take_add_one, hi]
        show _ = some (HO.lst (List.map vo (fillAll n (told.take i ++ [l]))))
        rw [fillAll_snoc, hil]
    · rintro ⟨x3, x4, x5, rfl, g0, b, h⟩
      rw [List.take_length] at h
      refine s_ret (D := { nx := _, rt := _ }) (evx 2 rfl) s2 fun u2 B3 H3 g3 e => ?_
      cases e
      have b3 := (g3.own b h mo_lst).1
      exact k _ _ _ ((g0.trans g3).settle nL b3 (g3.hh _ _ h)) ⟨L, rfl, upd_same⟩
end
end Lw
/-! Ly: touching, the lands' reached. -/
namespace Lw
open PySem PySem.Spec PyProof.Rows L2
section
variable {P : Program} {w : World} {K : PySem.W.Frag} {mg : Str → Option Value} {base : Heap}
variable {B H B0 H0 B1 H1 B2 H2 B' H' : Hp} {σ : Slo} {te ta tb tl td tv : TE} {a C dx d : Addr} {b : Bool} {x v : V} {m n i j : Nat} {fs : List (Str × V)} {f kf : Str} {PV : VP}
theorem ev_mmT {f : Nat → Nat → Nat} (h : Ev te σ B H (VT [vn m, vn n])) : Ev (tCB (rMm K f) (tCons te tNil)) σ B H (RX (vn (f m n))) :=
  ev_cbx (ea_c h ea_nil) fun vs B' H' g ⟨v, ws, e, ⟨p, e1, hp⟩, e2⟩ Q q => by
    cases e2; subst e e1
    exact ⟨p, m, n, rfl, .inr (SqT.of (g.sub _ _ hp)), q⟩
theorem ev_mmL {f : Nat → Nat → Nat} (h : Ev te σ B H (VL [vn m, vn n])) : Ev (tCB (rMm K f) (tCons te tNil)) σ B H (RX (vn (f m n))) :=
  ev_cbx (ea_c h ea_nil) fun vs B' H' g ⟨v, ws, e, ⟨p, e1, hp⟩, e2⟩ Q q => by
    cases e2; subst e e1
    exact ⟨p, m, n, rfl, .inl (SqL.of (g.sub _ _ hp)), q⟩
theorem dec_vo (a b : Option Nat) : decide (vo a = vo b) = decide (a = b) := by
  by_cases h : a = b
  · subst h; simp
  · rw [decide_eq_false h, decide_eq_false fun e => h (vo_inj e)]
theorem scal_vo (a b : Option Nat) : scal (vo a) (vo b) = true := by cases a <;> cases b <;> rfl
theorem inV_vo (a b : Option Nat) : inV .non [vo a, vo b] = (a.isNone || b.isNone) := by
  cases a <;> cases b <;> simp [inV, vo, eqV]
/-- the pair of owners that a push makes touch -/
def tch (x y : Option Nat) : Option (Nat × Nat) := match x, y with
  | some a, some b => if a = b then none else some (min a b, max a b)
  | _, _ => none
def tchs (os : List (Option Nat)) (ps : List (Nat × Nat)) : List (Nat × Nat) := ps.filterMap fun q => tch (os.getD q.1 none) (os.getD q.2 none)
def insPs (qs : List (Nat × Nat)) : List (Nat × Nat) := qs.foldl insP []
theorem insPs_snoc (qs : List (Nat × Nat)) (q : Nat × Nat) : insPs (qs ++ [q]) = insP (insPs qs) q := by unfold insPs; rw [List.foldl_append]; rfl
theorem mem_insPs {qs : List (Nat × Nat)} {q : Nat × Nat} : q ∈ insPs qs ↔ q ∈ qs := by
  have h : ∀ (ks acc : List (Nat × Nat)), q ∈ ks.foldl insP acc ↔ q ∈ acc ∨ q ∈ ks := by
    intro ks
    induction ks with
    | nil => intro acc; simp
    | cons k ks ih =>
      intro acc
      rw [List.foldl_cons, ih, mem_insP, List.mem_cons, or_assoc]
  have := h qs []
  simpa [insPs] using this
theorem insPs_len (qs : List (Nat × Nat)) : (insPs qs).length ≤ qs.length := by
  have h : ∀ (ks acc : List (Nat × Nat)), (ks.foldl insP acc).length ≤ acc.length + ks.length := by
    intro ks
    induction ks with
    | nil => intro acc; simp
    | cons k ks ih =>
      intro acc
      rw [List.foldl_cons, List.length_cons]
      have := ih (insP acc k)
      have := insP_len acc k
      omega
  have q := h qs []
  rw [List.length_nil, Nat.zero_add] at q
  exact q
theorem insPs_nodup (qs : List (Nat × Nat)) : (insPs qs).Nodup := by
  have h : ∀ (ks acc : List (Nat × Nat)), acc.Nodup → (ks.foldl insP acc).Nodup := by
    intro ks
    induction ks with
    | nil => intro acc h; exact h
    | cons k ks ih => intro acc h; exact ih _ (insP_nodup h)
  exact h qs [] List.nodup_nil
theorem tchs_len (os : List (Option Nat)) (ps : List (Nat × Nat)) : (tchs os ps).length ≤ ps.length := List.length_filterMap_le _ _
theorem tchs_snoc (os : List (Option Nat)) (ps : List (Nat × Nat)) (q : Nat × Nat) : insPs (tchs os (ps ++ [q])) = match tch (os.getD q.1 none) (os.getD q.2 none) with
    | some p => insP (insPs (tchs os ps)) p
    | none => insPs (tchs os ps) := by
  unfold tchs
  rw [List.filterMap_append]
  cases h : tch (os.getD q.1 none) (os.getD q.2 none) with
  | none => rw [List.filterMap_cons, h]; simp
  | some p => rw [List.filterMap_cons, h]; exact insPs_snoc _ _
theorem os_at {os : List (Option Nat)} (h : i < os.length) : (os.map vo)[i]? = some (vo (os.getD i none)) := by
  rw [List.getElem?_map, List.getD_eq_getElem?_getD, List.getElem?_eq_getElem h]; rfl
abbrev spTouching (C : Addr) : Sp := Pr fun vs B P => ∃ v u n d ps os, vs = [v, u] ∧ WebO C n ps d v B ∧ OL os u B ∧ PsOk n ps ∧ os.length = n ∧ ps.length ≤ 1000 ∧ n ≤ 1000 ∧ P = VDP (insPs (tchs os ps))
theorem sc_touching : FnScope ["web", "owners", "found", "one", "two", "pair"] ["web", "owners"] (defScope (tp 29)) := ⟨rfl, rfl, rfl, by decide +kernel, rfl, by decide +kernel, by decide +kernel⟩
theorem ok_touching (D : Dn K mg "touching" "touching" (tp 29)) (T : Tx mg) (c_Web_pushes : Prp P w K mg base C "pushes" "kept_pushes") : Cal P w K mg base 3 "touching" (spTouching C) := by
  refine cal_of D sc_touching (fun _ _ _ _ _ _ us hl => match us, hl with | [_, _], _ => rfl) (fun vs H Q E h => ?_) (fun cdv A outer s f H vs Q E hr h => ?_)
  · obtain ⟨B, P, s, ⟨v, u, n, d, ps, os, rfl, _⟩, _⟩ := h
    rfl
  · obtain ⟨B0, P, s0, ⟨v, u, n, d, ps, os, rfl, hw, hu, hps, hos, hle, hn, rfl⟩, k⟩ := h
    refine ⟨_, (pss_cons (ps_set (i := 2) sc_touching.nd rfl (.inl rfl) pe_dnewT)
      (pss_cons (ps_for PassesOwn.never rfl (piT K (pe_pr c_Web_pushes hr (by decide) (pv 0) rfl)) (pgT K rfl (pgs_cons (pg_name (i := 3) sc_touching.nd rfl (.inl rfl)) (pgs_cons (pg_name (i := 4) sc_touching.nd rfl (.inl rfl)) pgs_nil)) (n := 2))
        (pss_cons (ps_set (i := 5) sc_touching.nd rfl (.inl rfl) (pe_tup (pa_cons (pe_ix (ixL K) (pv 1) (pv 3) (fun _ _ => rfl)) (pa_cons (pe_ix (ixL K) (pv 1) (pv 4) (fun _ _ => rfl)) pa_nil))))
        (pss_one (ps_if (PW.pt (pw_and (pt_cmpR (notInS K) pe_non (pv 5) rfl) (pw_and1 (pt_cmpR op_ne (pe_ix (ixT K) (pv 5) pe_int (fun _ _ => rfl)) (pe_ix (ixT K) (pv 5) pe_int (fun _ _ => rfl)) (nomark _))))) (pss_one (ps_dput (hu_of hr) (pv 2) (pe_tup (pa_cons (pe_callB (cr_minP K rfl hr.units) (by rfl) T.min (by decide +kernel) (pa_cons (pv 5) pa_nil)) (pa_cons (pe_callB (cr_maxP K rfl hr.units) (by rfl) T.max (by decide +kernel) (pa_cons (pv 5) pa_nil)) pa_nil))) pe_bl rfl)) pss_nil))))
      (pss_one (ps_ret (pv 2))))), ?_⟩
    refine fun D hD => ?_
    have b0 := none_of_same s0 hD
    refine s_for (D := { nx := _, rt := _ }) (ei_tup (B := B0) (ev_wpush (evx 0 rfl) hw)) (same_off s0 b0) (fun i σ B' H' => ∃ x3 x4 x5, σ = [some v, some u, some (.ref D), x3, x4, x5] ∧ Gr B0 H B' H' ∧ B' D = none ∧ H' D = some (.dT (dtp (insPs (tchs os (ps.take i))))))
      (fun B' H' g => ?_) (fun i q qv σ B1 H1 hi s1 => ?_) (fun σ B1 H1 s1 => ?_)
    · exact ⟨_, _, _, rfl, (Gr.newM s0 hD).trans g, (g.own b0 upd_same mo_dT).1, by rw [List.take_zero]; exact g.hh _ _ upd_same⟩
    · rintro ⟨x3, x4, x5, rfl, g0, bD, h⟩ ⟨c, rfl, hc⟩
      have hq := hps.lt q (List.mem_of_getElem? hi)
      refine ⟨c, _, rfl, SqT.of (s1 _ _ hc), rfl, _, _, rfl, _, _, rfl, rfl, ?_⟩
      have hu1 : OL os u B1 := Mn.mn g0.bb hu
      have e1 := os_at (os := os) (i := q.1) (by omega)
      have e2 := os_at (os := os) (i := q.2) (by omega)
      refine s_asg (P := VT [vo (os.getD q.1 none), vo (os.getD q.2 none)]) (ev_tupx (ea_x (ev_ixVL (ev_var 1 rfl hu1) (evx 3 rfl) e1) (ea_x (ev_ixVL (ev_var 1 rfl hu1) (evx 4 rfl) e2) ea_nil))) s1 fun pv B2 H2 g2 hp => ?_
      have g02 := g0.trans g2
      have b2 := (g2.own bD h mo_dT).1
      have h2 := g2.hh _ _ h
      have hsn := tchs_snoc os (ps.take i) q
      have htk : ps.take (i + 1) = ps.take i ++ [q] := by rw [List.take_add_one, hi]; rfl
      refine s_if (et_and (b := !((os.getD q.1 none).isNone || (os.getD q.2 none).isNone)) (c := !decide (os.getD q.1 none = os.getD q.2 none)) (et_B ((ev_inT (neg := true) ev_c (ev_var 5 rfl hp) rfl (by cases os.getD q.1 none <;> cases os.getD q.2 none <;> rfl)).eq (by rw [inV_vo]; rfl))) fun _ =>
        et_B ((ev_ne (ev_ixVT (i := 0) (ev_var 5 rfl hp) ev_0 rfl) (ev_ixVT (i := 1) (ev_var 5 rfl hp) ev_1 rfl) (scal_vo _ _)).eq (by rw [dec_vo]))) g2.sub (fun e B3 H3 g3 => ?_) (fun e B3 H3 g3 => ?_)
      · cases ex : os.getD q.1 none with
        | none => rw [ex] at e; simp at e
        | some xa =>
          cases ey : os.getD q.2 none with
          | none => rw [ex, ey] at e; simp at e
          | some xb =>
            rw [ex, ey] at e hp hsn
            have ne : xa ≠ xb := fun z => by subst z; simp at e
            have hp3 : VT [vn xa, vn xb] pv B3 := Mn.mn g3.bb hp
            have et : tch (some xa) (some xb) = some (min xa xb, max xa xb) := if_neg ne
            rw [et] at hsn
            refine s_dputP (p := (min xa xb, max xa xb)) ev_c (evx 2 rfl) (ev_tupx (ea_x (ev_mmT (ev_var 5 rfl hp3)) (ea_x (ev_mmT (ev_var 5 rfl hp3)) ea_nil))) g3.sub (g3.hh _ _ h2) ?_ fun B4 H4 g4 h4 => ?_
            · have h1 := insPs_len (tchs os (ps.take i))
              have h2 := tchs_len os (ps.take i)
              have h3 : (ps.take i).length ≤ ps.length := by rw [List.length_take]; omega
              omega
            · have b4 := (g4.own (g3.own b2 h2 mo_dT).1 (g3.hh _ _ h2) mo_dT).1
              have gg := ((g02.trans g3).trans g4).put (o := .dT (dtp (insP (insPs (tchs os (ps.take i))) (min xa xb, max xa xb)))) hD b4
              exact ⟨B4, (g2.bb.trans g3.bb).trans g4.bb, gg.sub, _, _, _, rfl, gg, b4, by rw [upd_same, htk, hsn]⟩
      · have hn : tch (os.getD q.1 none) (os.getD q.2 none) = none := by
          cases ex : os.getD q.1 none with
          | none => rfl
          | some xa =>
            cases ey : os.getD q.2 none with
            | none => rfl
            | some xb =>
              rw [ex, ey] at e
              by_cases z : xa = xb
              · exact if_pos z
              · simp [z] at e
        rw [hn] at hsn
        exact ⟨B3, g2.bb.trans g3.bb, g3.sub, _, _, _, rfl, g02.trans g3, (g3.own b2 h2 mo_dT).1, by rw [htk, hsn]; exact g3.hh _ _ h2⟩
    · rintro ⟨x3, x4, x5, rfl, g0, bD, h⟩
      rw [List.take_length] at h
      refine s_ret (D := { nx := _, rt := _ }) (evx 2 rfl) s1 fun u2 B3 H3 g3 e => ?_
      cases e
      have b3 := (g3.own bD h mo_dT).1
      exact k _ _ _ ((g0.trans g3).settle hD b3 (g3.hh _ _ h)) ⟨D, rfl, upd_same⟩
/-! ### reached, by owners -/
theorem go_beside {E : XK} {ps : List (Nat × Nat)} {Q : VK} (h : Ev te σ B H (RX v)) (hw : WebO C n ps d v B) (s : Same B H) (hps : PsOk n ps) (hle : ps.length ≤ 1000) (hn : n ≤ 1000) (st : WSt d n ps B H)
    (k : ∀ u B' H' rows, Gr B (offd d B H) B' H' → WHot d n ps B' → RowsOk n ps rows → LO (fun r => IT r) rows u B' → Q u H') : tCall (spBeside C) [] E (tCons te tNil) σ H Q :=
  (ea_x h ea_nil) B H (Gr.refl s) _ fun vs B1 H1 g1 e => by
    cases e
    obtain ⟨go, st1⟩ := Gr.offd s g1 st
    exact ⟨B1, d, n, ps, v, rfl, Mn.mn g1.bb hw, hps, hle, hn, g1.sub, st1, fun u B' H' rows g2 hot hro hl => k u B' H' rows (go.trans g2) ⟨u, rows, hot, hro, hl⟩ hro hl⟩
theorem s_beside {E : XK} {ps : List (Nat × Nat)} {D : Ends} (h : Ev te σ B H (RX v)) (hw : WebO C n ps d v B) (s : Same B H) (hps : PsOk n ps) (hle : ps.length ≤ 1000) (hn : n ≤ 1000) (st : WSt d n ps B H)
    (k : ∀ u B' H' rows, Gr B (offd d B H) B' H' → WHot d n ps B' → RowsOk n ps rows → LO (fun r => IT r) rows u B' → D.nx (σ.set i (some u)) H') : tAsg (tCall (spBeside C) [] E (tCons te tNil)) (gName i) D σ H :=
  go_beside (Q := fun u H' => D.nx (σ.set i (some u)) H') h hw s hps hle hn st k
theorem ev_beside {E : XK} {ps : List (Nat × Nat)} (h : Ev te σ B H (RX v)) (hw : WebO C n ps d v B) (hps : PsOk n ps) (hle : ps.length ≤ 1000) (hn : n ≤ 1000) (hot : WHot d n ps B) : Ev (tCall (spBeside C) [] E (tCons te tNil)) σ B H (RwT n ps) := fun B1 H1 g1 Q k =>
  (ea_x h ea_nil) B1 H1 g1 _ fun vs B2 H2 g2 e => by
    cases e
    have hot2 := hot.mn (g1.bb.trans g2.bb)
    refine ⟨B2, d, n, ps, v, rfl, Mn.mn (g1.bb.trans g2.bb) hw, hps, hle, hn, g2.sub, .inr hot2, fun u B' H' rows g3 _ hro hl => ?_⟩
    obtain ⟨l, r0, hd, _⟩ := hot2
    rw [offd_hot g2.sub hd] at g3
    exact k u B' H' (g2.trans g3) ⟨rows, hro, hl⟩
theorem Sr.outF {adj : Rel} {S : Nat → Prop} {a : Nat} {ks todo : List Nat} {q : Nat} (h : Sr adj S a ks (q :: todo)) : St1 adj S a q [] ks todo :=
  ⟨h.nd, h.rch, h.st, h.sub q (by simp), fun t m => h.sub t (by simp [m]), fun k m n e => h.cl k m (by simp [n, e]), fun _ m => absurd m (by simp)⟩
abbrev sameOwn (os : List (Option Nat)) (c : Nat) : Nat → Prop := fun x => os.getD x none = os.getD c none
abbrev spReached30 (C : Addr) : Sp := fun vs H Q _ => ∃ B d n ps v u os c, vs = [v, u, vn c] ∧ WebO C n ps d v B ∧ OL os u B ∧ PsOk n ps ∧ os.length = n ∧ c < n ∧ ps.length ≤ 1000 ∧ n ≤ 1000 ∧ Same B H ∧ WSt d n ps B H ∧
  ∀ u B' H' ks, Gr B (offd d B H) B' H' → WHot d n ps B' → ks.Nodup → (∀ k, k ∈ ks ↔ Rch (Adj ps) (sameOwn os c) c k) → IL ks u B' → Q u H'
theorem sc_reached_30 : FnScope ["web", "owners", "standing", "beside", "found", "met", "at", "there"] ["web", "owners", "standing"] (defScope (tp 30)) := ⟨rfl, rfl, rfl, by decide +kernel, rfl, by decide +kernel, by decide +kernel⟩
set_option maxHeartbeats 1000000 in
theorem ok_reached_lands (D : Dn K mg "reached_lands" "reached" (tp 30)) (T : Tx mg) (c_beside_of : Cal P w K mg base 2 "beside_of" (spBeside C)) : Cal P w K mg base 3 "reached_lands" (spReached30 C) := by
  refine cal_of D sc_reached_30 (fun _ _ _ _ _ _ us hl => match us, hl with | [_, _, _], _ => rfl) (fun vs H Q E h => ?_) (fun cdv A outer s f H vs Q E hr h => ?_)
  · obtain ⟨B, d, n, ps, v, u, os, c, rfl, _⟩ := h
    rfl
  · obtain ⟨B0, d, n, ps, v, u, os, c, rfl, hw, hu, hps, hos, hc, hle, hn, s0, st, k⟩ := h
    refine ⟨_, (pss_cons (ps_set (i := 3) sc_reached_30.nd rfl (.inl rfl) (pe_k c_beside_of hr (by decide) rfl (pa_cons (pv 0) pa_nil)))
      (pss_cons (ps_set (i := 4) sc_reached_30.nd rfl (.inl rfl) (pe_lst (pa_cons (pv 2) pa_nil)))
      (pss_cons (ps_set (i := 5) sc_reached_30.nd rfl (.inl rfl) (pe_disp (pps_cons (pv 2) pe_bl pps_nil) (by rfl) (by rfl) (fun z => by cases z) (by decide)))
      (pss_cons (ps_set (i := 6) sc_reached_30.nd rfl (.inl rfl) pe_int)
      (pss_cons (ps_while PassesOwn.never (pt_cmpR op_lt (pv 6) (pe_callB (lenS K) (by rfl) T.len PySem.boot_len (pa_cons (pv 4) pa_nil)) (nomark _)) (pss_cons (ps_for PassesOwn.never rfl (piT K (pe_ix (ixL K) (pv 3) (pe_ix (ixL K) (pv 4) (pv 6) (fun _ _ => rfl)) (fun _ _ => rfl))) (pg_name (i := 7) sc_reached_30.nd rfl (.inl rfl))
          (pss_one (ps_if (PW.pt (pw_and (pt_cmp (pc_dnotin (hu_of hr) (pv 7) (pv 5)) rfl) (pw_and1 (pt_cmpR op_eq (pe_ix (ixL K) (pv 1) (pv 7) (fun _ _ => rfl)) (pe_ix (ixL K) (pv 1) (pv 2) (fun _ _ => rfl)) (nomark _))))) (pss_cons (ps_dput (hu_of hr) (pv 5) (pv 7) pe_bl rfl)
            (pss_one (ps_expr (bmK K PySem.F.plainAttrs_list PySem.F.slot_list_append PySem.F.type_list_append mt_append (pv 4) (pa_cons (pv 7) pa_nil))))) pss_nil)))
        (pss_one (ps_aug (i := 6) sc_reached_30.nd rfl (.inl rfl) pe_int ip_add))))
      (pss_one (ps_ret (pv 4)))))))), ?_⟩
    refine s_beside (D := { nx := _, rt := _ }) (evx 0 rfl) hw s0 hps hle hn st fun bv B1 H1 rows gA hot hro hrows => ?_
    refine s_asgM (D := { nx := _, rt := _ }) (em_lst (xs := [vn c]) (ea_x (evx 2 rfl) ea_nil)) gA.sub fun L vs B2 H2 g2 nL bL hL e => ?_
    cases e
    refine a_disp1 rfl fun Dm hD => ?_
    have hL2 := hL
    have s3 : Same B2 (upd H2 Dm (.dK (dts [c]))) := same_off g2.sub (none_of_same g2.sub hD)
    have nL0 : offd d B0 H L = none := gA.hh.free nL
    have hD0 : offd d B0 H Dm = none := (gA.trans g2).hh.free hD
    have rc0 : Rc n ps [] c B0 (offd d B0 H) Dm L [c] [c] B2 (upd H2 Dm (.dK (dts [c]))) :=
      ⟨(gA.trans g2).trans (Gr.newM g2.sub hD), upd_same, none_of_same g2.sub hD, hD0, by rw [upd_ne (ne_of_none hL hD)]; exact hL, bL, nL0⟩
    have hlt : ∀ ks : List Nat, ks.Nodup → (∀ x ∈ ks, Rch (Adj ps) (sameOwn os c) c x) → ks.length ≤ n := fun ks nd h => by
      have := nodup_le (m := List.range n) nd fun x hx => List.mem_range.mpr (rch_lt hps hc (h x hx))
      rw [List.length_range] at this; exact this
    show tSeq (tAsg (tC (.int 0)) (gName 6)) _ _ _ _
    refine s_asgx ev_0 s3 fun B3 H3 g3 => ?_
    refine s_while (D := { nx := _, rt := _ }) (fun m σ B' H' => ∃ ks at_ x7, σ = [some v, some u, some (vn c), some bv, some (.ref L), some (.ref Dm), some (vn at_), x7] ∧ Rc n ps [] c B0 (offd d B0 H) Dm L ks ks B' H' ∧ Same B1 B' ∧ Sr (Adj ps) (sameOwn os c) c ks (ks.drop at_) ∧ at_ ≤ ks.length ∧ m = n - at_) n g3.sub
      ⟨[c], 0, none, rfl, rc0.grow g3, g2.bb.trans g3.bb, Sr.start, Nat.zero_le _, rfl⟩ fun m σ B4 H4 s4 => ?_
    rintro ⟨ks, at_, x7, rfl, r, sb, sr, hat, rfl⟩
    refine ⟨decide (at_ < ks.length), et_val (ev_ltN (evx 6 rfl) (ev_lenM (n := ks.length) (evx 4 rfl) r.hL (List.length_map ..))), fun ht B5 H5 g5 => ?_, fun hf B5 H5 g5 => ?_⟩
    · have ht := of_decide_eq_true ht
      have hkl := hlt ks sr.nd sr.rch
      have edrop : ks.drop at_ = ks[at_] :: ks.drop (at_ + 1) := List.drop_eq_getElem_cons ht
      have eq_ : ks[at_]? = some ks[at_] := List.getElem?_eq_getElem ht
      generalize ks[at_] = q at edrop eq_
      have hq : q ∈ ks := List.mem_of_getElem? eq_
      have hqn : q < n := rch_lt hps hc (sr.rch q hq)
      obtain ⟨row, erow, _, hrow, _⟩ := hro.at hqn
      have r5 := r.grow g5
      have hrows5 : LO (fun r => IT r) rows bv B5 := Mn.mn (sb.trans g5.bb) hrows
      refine s_for (R := RN) (xs := row) (ei_tup ((ev_ixL (R := fun r => IT r) (ev_var 3 rfl hrows5) (ev_ixVM (v := vn q) (evx 4 rfl) (evx 6 rfl) r5.hL (by rw [List.getElem?_map, eq_]; rfl)) erow).imp fun v B' _ h => VT.to h)) g5.sub
        (fun i σ B' H' => ∃ ks' x7, σ = [some v, some u, some (vn c), some bv, some (.ref L), some (.ref Dm), some (vn at_), x7] ∧ Rc n ps [] c B0 (offd d B0 H) Dm L ks' ks' B' H' ∧ Same B1 B' ∧ St1 (Adj ps) (sameOwn os c) c q (row.take i) ks' (ks'.drop (at_ + 1)) ∧ at_ + 1 ≤ ks'.length)
        (fun B6 H6 g6 => ?_) (fun i y yv σ B6 H6 hy s6 => ?_) (fun σ B6 H6 s6 => ?_)
      · exact ⟨ks, _, rfl, r5.grow g6, (sb.trans g5.bb).trans g6.bb, by rw [edrop] at sr; exact sr.outF, ht⟩
      · rintro ⟨ks', x7, rfl, r, sb, st, hat'⟩ e
        cases e
        have hyr : Adj ps q y := (hrow y).mp (List.mem_of_getElem? hy)
        have hyn := (Adj.lt hps hyr).2
        have hu6 : OL os u B6 := Mn.mn r.gr.bb hu
        have e1 := os_at (os := os) (i := y) (by omega)
        have e2 := os_at (os := os) (i := c) (by omega)
        show tIfS _ _ _ _ _ _
        refine s_if (et_and (b := !decide (y ∈ ks')) (c := decide (os.getD y none = os.getD c none)) (et_B (ev_niDM (evx 7 rfl) (evx 5 rfl) r.hd)) fun _ => et_B ((ev_eq (ev_ixVL (ev_var 1 rfl hu6) (evx 7 rfl) e1) (ev_ixVL (ev_var 1 rfl hu6) (evx 2 rfl) e2) (scal_vo _ _)).eq (by rw [dec_vo]))) s6 (fun e B7 H7 g7 => ?_) (fun e B7 H7 g7 => ?_)
        · have e1 : y ∉ ks' := fun h => by simp [h] at e
          have e2 : os.getD y none = os.getD c none := by
            rw [decide_eq_false e1] at e
            simpa using e
          have r7 := r.grow g7
          have hl := hlt ks' st.nd st.rch
          refine s_dput ev_c (evx 5 rfl) (evx 7 rfl) g7.sub r7.hd (by omega) fun B8 H8 g8 h8 => ?_
          have r8 := (r7.grow g8).putD (Lw.ins ks' y)
          refine s_app (evx 4 rfl) (evx 7 rfl) r8.gr.sub r8.hL (by rw [List.length_map]; omega) fun v9 B9 H9 g9 h9 e9 => ?_
          cases e9
          have r9 := (r8.grow g9).putL (ks' ++ [y])
          have ei : Lw.ins ks' y = ks' ++ [y] := by unfold Lw.ins; rw [if_neg e1]
          rw [ei] at r9
          have st' := st.new e1 e2 hyr
          rw [← List.drop_append_of_le_length hat'] at st'
          have sx : Same B1 B9 := ((sb.trans g7.bb).trans g8.bb).trans g9.bb
          refine ⟨B9, (g7.bb.trans g8.bb).trans g9.bb, ?_, ks' ++ [y], _, rfl, ?_, sx, ?_, ?_⟩
          · have := r9.gr.sub
            rw [List.map_append] at this; exact this
          · rw [List.map_append] at r9; exact r9
          · rw [List.take_add_one, hy]; exact st'
          · rw [List.length_append]; omega
        · refine ⟨B7, g7.bb, g7.sub, ks', _, rfl, r.grow g7, sb.trans g7.bb, ?_, hat'⟩
          rw [List.take_add_one, hy]
          exact st.old fun hs => by
            have hs' : os.getD y none = os.getD c none := hs
            rw [hs', decide_eq_true rfl, Bool.and_true] at e
            cases h : decide (y ∈ ks') with
            | true => exact of_decide_eq_true h
            | false => rw [h] at e; cases e
      · rintro ⟨ks', x7, rfl, r, sb, st, hat'⟩
        rw [List.take_length] at st
        refine ⟨vn at_, rfl, ev_1.go s6 fun v7 B7 H7 g7 e7 => ?_⟩
        cases e7
        have hkl' := hlt ks' st.nd st.rch
        exact ⟨_, _, rfl, rfl, n - (at_ + 1), B7, by omega, g7.sub, ks', at_ + 1, _, rfl, r.grow g7, sb.trans g7.bb, st.back (fun c h => (hrow c).mpr h), hat', rfl⟩
    · have hf := of_decide_eq_false hf
      have r5 := r.grow g5
      have e0 : ks.drop at_ = [] := List.drop_eq_nil_of_le (by omega)
      rw [e0] at sr
      refine s_ret (D := { nx := _, rt := _ }) (evx 4 rfl) g5.sub fun v4 B6 H6 g6 e4 => ?_
      cases e4
      have r6 := r5.grow g6
      have hb := same_new (o := .lst (ks.map vn)) r6.bL
      exact k _ _ _ ks (r6.gr.settle r6.L0 r6.bL r6.hL) (hot.mn (((sb.trans g5.bb).trans g6.bb).trans hb)) sr.nd sr.all ⟨L, rfl, upd_same⟩
end
end Lw
/-! Lp: lands, plain. -/
namespace Lw
/-- the lands told: standings of the web, no one in two, each one whole -/
structure Told (n : Nat) (ps : List (Nat × Nat)) (told : List (List Nat)) : Prop where
  ok : ∀ l ∈ told, LandOk n l
  dis : ∀ (i j : Nat) li lj s, told[i]? = some li → told[j]? = some lj → s ∈ li → s ∈ lj → i = j
  con : ∀ l ∈ told, ∀ x ∈ l, ∀ y ∈ l, Rch (Adj ps) (· ∈ l) x y
def TiesOk (ps : List (Nat × Nat)) (told : List (List Nat)) (ts : List (Nat × Nat)) : Prop := ∀ t ∈ ts, ∃ la lb x y, told[t.1]? = some la ∧ told[t.2]? = some lb ∧ x ∈ la ∧ y ∈ lb ∧ Adj ps x y
theorem fillOne_get (c : Nat) (s : Nat) : ∀ (land : List Nat) (os : List (Option Nat)), (∀ x ∈ land, x < os.length) → (fillOne os c land).getD s none = if s ∈ land then some c else os.getD s none
  | [], os, _ => by simp [fillOne]
  | x :: l, os, h => by
    have hx := h x (List.mem_cons_self ..)
    have ih := fillOne_get c s l (os.set x (some c)) fun y hy => by rw [List.length_set]; exact h y (List.mem_cons_of_mem _ hy)
    show (fillOne (os.set x (some c)) c l).getD s none = _
    rw [ih]
    by_cases hs : s ∈ l
    · rw [if_pos hs, if_pos (List.mem_cons_of_mem _ hs)]
    · rw [if_neg hs]
      by_cases e : s = x
      · subst e
        rw [if_pos (List.mem_cons_self ..), List.getD_eq_getElem?_getD, List.getElem?_set_self hx]; rfl
      · rw [if_neg fun m => (List.mem_cons.mp m).elim e hs, List.getD_eq_getElem?_getD, List.getElem?_set_ne fun z => e z.symm, List.getD_eq_getElem?_getD]
theorem fillAll_get {n s : Nat} : ∀ (k : Nat) (told : List (List Nat)), told.length = k → (∀ l ∈ told, LandOk n l) → (∀ (i j : Nat) li lj, told[i]? = some li → told[j]? = some lj → s ∈ li → s ∈ lj → i = j) →
    ∀ c, (fillAll n told).getD s none = some c ↔ ∃ l, told[c]? = some l ∧ s ∈ l
  | 0, told, hk, _, _, c => by
    have : told = [] := List.eq_nil_of_length_eq_zero hk
    subst this
    simp [fillAll, List.getD_eq_getElem?_getD, List.getElem?_replicate]
    intro h
    split at h <;> simp at h
  | k + 1, told, hk, hok, hd, c => by
    obtain ⟨t, l, rfl⟩ : ∃ t l, told = t ++ [l] := ⟨told.dropLast, told.getLast (List.ne_nil_of_length_eq_add_one hk), (List.dropLast_concat_getLast _).symm⟩
    have hk' : t.length = k := by rw [List.length_append, List.length_singleton] at hk; omega
    have hg : ∀ i li, t[i]? = some li → (t ++ [l])[i]? = some li := fun i li h => by rw [List.getElem?_append_left (List.getElem?_eq_some_iff.mp h).1]; exact h
    have ih := fillAll_get (n := n) (s := s) k t hk' (fun x hx => hok x (by simp [hx])) (fun i j li lj h1 h2 => hd i j li lj (hg i li h1) (hg j lj h2)) c
    have hl : (t ++ [l])[k]? = some l := by rw [List.getElem?_append_right (by omega), hk', Nat.sub_self]; rfl
    rw [fillAll_snoc, fillOne_get _ _ _ _ fun x hx => by rw [fillAll_len]; exact (hok l (by simp)).lt x hx]
    by_cases hs : s ∈ l
    · rw [if_pos hs, hk']
      refine ⟨fun e => ?_, fun ⟨l', h1, h2⟩ => ?_⟩
      · cases e; exact ⟨l, hl, hs⟩
      · rw [hd k c l l' hl h1 hs h2]
    · rw [if_neg hs, ih]
      refine ⟨fun ⟨l', h1, h2⟩ => ⟨l', hg _ _ h1, h2⟩, fun ⟨l', h1, h2⟩ => ?_⟩
      by_cases hc : c < t.length
      · rw [List.getElem?_append_left hc] at h1; exact ⟨l', h1, h2⟩
      · rw [List.getElem?_append_right (by omega)] at h1
        by_cases hz : c - t.length = 0
        · rw [hz] at h1; simp at h1; subst h1; exact absurd h2 hs
        · rw [List.getElem?_eq_none (by simp; omega)] at h1; cases h1
section
variable {n : Nat} {ps ts : List (Nat × Nat)} {told : List (List Nat)}
theorem Told.own (h : Told n ps told) (s c : Nat) : (fillAll n told).getD s none = some c ↔ ∃ l, told[c]? = some l ∧ s ∈ l :=
  fillAll_get told.length told rfl h.ok (fun i j li lj h1 h2 h3 h4 => h.dis i j li lj s h1 h2 h3 h4) c
theorem nodup_leA {α : Type} [DecidableEq α] : ∀ {l m : List α}, l.Nodup → (∀ x ∈ l, x ∈ m) → l.length ≤ m.length
  | [], _, _, _ => Nat.zero_le _
  | x :: l, m, h, k => by
    obtain ⟨h1, h2⟩ := List.nodup_cons.mp h
    have hx : x ∈ m := k x (List.mem_cons_self ..)
    have hm : 0 < m.length := List.length_pos_of_mem hx
    have h3 : l.length ≤ (m.erase x).length := nodup_leA h2 fun y hy => (List.mem_erase_of_ne (fun e : y = x => h1 (e ▸ hy))).mpr (k y (List.mem_cons_of_mem _ hy))
    rw [List.length_erase_of_mem hx] at h3
    rw [List.length_cons]
    omega
def cntO (os : List (Option Nat)) : Nat := (os.filter (·.isSome)).length
theorem cntO_set {os : List (Option Nat)} {s c : Nat} (h : os[s]? = some none) : cntO (os.set s (some c)) = cntO os + 1 := by
  induction os generalizing s with
  | nil => simp at h
  | cons o os ih =>
    cases s with
    | zero =>
      simp at h; subst h
      simp [cntO]
    | succ s =>
      have ih := ih (s := s) (by simpa using h)
      unfold cntO at ih ⊢
      rw [List.set_cons_succ, List.filter_cons, List.filter_cons]
      split <;> simp [ih]
theorem cnt_one (c : Nat) : ∀ (land : List Nat) (os : List (Option Nat)), land.Nodup → (∀ x ∈ land, os[x]? = some none) → cntO (fillOne os c land) = cntO os + land.length
  | [], os, _, _ => rfl
  | x :: l, os, nd, h => by
    obtain ⟨h1, h2⟩ := List.nodup_cons.mp nd
    have ih := cnt_one c l (os.set x (some c)) h2 fun y hy => by
      have hne : x ≠ y := fun e => h1 (by rw [e]; exact hy)
      rw [List.getElem?_set_ne hne]
      exact h y (List.mem_cons_of_mem _ hy)
    show cntO (fillOne (os.set x (some c)) c l) = _
    rw [ih, cntO_set (h x (List.mem_cons_self ..)), List.length_cons]
    omega
theorem cnt_all (n : Nat) (ps : List (Nat × Nat)) : ∀ (k : Nat) (told : List (List Nat)), told.length = k → Told n ps told → cntO (fillAll n told) = (told.map List.length).sum
  | 0, told, hk, _ => by
    have : told = [] := List.eq_nil_of_length_eq_zero hk
    subst this
    simp [fillAll, cntO]
  | k + 1, told, hk, h => by
    obtain ⟨t, l, rfl⟩ : ∃ t l, told = t ++ [l] := ⟨told.dropLast, told.getLast (List.ne_nil_of_length_eq_add_one hk), (List.dropLast_concat_getLast _).symm⟩
    have hk' : t.length = k := by rw [List.length_append, List.length_singleton] at hk; omega
    have hg : ∀ i li, t[i]? = some li → (t ++ [l])[i]? = some li := fun i li h => by rw [List.getElem?_append_left (List.getElem?_eq_some_iff.mp h).1]; exact h
    have ht : Told n ps t := ⟨fun x hx => h.ok x (by simp [hx]), fun i j li lj s h1 h2 => h.dis i j li lj s (hg _ _ h1) (hg _ _ h2), fun x hx => h.con x (by simp [hx])⟩
    have ih := cnt_all n ps k t hk' ht
    have hl : (t ++ [l])[t.length]? = some l := by rw [List.getElem?_append_right (Nat.le_refl _), Nat.sub_self]; rfl
    have lo := h.ok l (by simp)
    rw [fillAll_snoc, cnt_one _ _ _ lo.nd fun x hx => ?_, ih, List.map_append, List.sum_append]
    · simp
    · have hx2 : x < (fillAll n t).length := by rw [fillAll_len]; exact lo.lt x hx
      have hn : (fillAll n t).getD x none = none := by
        cases e : (fillAll n t).getD x none with
        | none => rfl
        | some c =>
          obtain ⟨l', h1, h2⟩ := (ht.own x c).mp e
          have := h.dis c t.length l' l x (hg _ _ h1) hl h2 hx
          have := (List.getElem?_eq_some_iff.mp h1).1
          omega
      rw [List.getD_eq_getElem?_getD, List.getElem?_eq_getElem hx2] at hn
      rw [List.getElem?_eq_getElem hx2]
      exact congrArg some hn
/-- a land is what is reached from its first standing by owners -/
theorem Told.reach (h : Told n ps told) {c : Nat} {l : List Nat} (hc : told[c]? = some l) {q : Nat} (hq : q ∈ l) {ks : List Nat} (nd : ks.Nodup) (hk : ∀ k, k ∈ ks ↔ Rch (Adj ps) (sameOwn (fillAll n told) q) q k) : ks.length = l.length := by
  have hl := List.mem_of_getElem? hc
  have eo : (fillAll n told).getD q none = some c := (h.own q c).mpr ⟨l, hc, hq⟩
  have same : ∀ x, sameOwn (fillAll n told) q x ↔ x ∈ l := fun x => by
    show (fillAll n told).getD x none = (fillAll n told).getD q none ↔ _
    rw [eo, h.own]
    exact ⟨fun ⟨l', h1, h2⟩ => by rw [hc] at h1; cases h1; exact h2, fun hx => ⟨l, hc, hx⟩⟩
  refine Nat.le_antisymm (nodup_le nd fun x hx => ?_) (nodup_le (h.ok l hl).nd fun x hx => ?_)
  · exact (same x).mp (((hk x).mp hx).mem ((same q).mpr hq))
  · exact (hk x).mpr ((h.con l hl q hq x hx).mono fun y hy => (same y).mpr hy)
theorem Told.ties (h : Told n ps told) (hts : ∀ t ∈ ts, t.1 < t.2) (ht : TiesOk ps told ts) {t : Nat × Nat} (hm : t ∈ ts) : t ∈ insPs (tchs (fillAll n told) ps) := by
  obtain ⟨la, lb, x, y, h1, h2, h3, h4, e⟩ := ht t hm
  have lt := hts t hm
  have ox := (h.own x t.1).mpr ⟨la, h1, h3⟩
  have oy := (h.own y t.2).mpr ⟨lb, h2, h4⟩
  rw [mem_insPs]
  unfold tchs
  rw [List.mem_filterMap]
  rcases e with e | e
  · refine ⟨_, e, ?_⟩
    simp only [ox, oy, tch]
    rw [if_neg (by omega)]
    exact congrArg some (Prod.ext (Nat.min_eq_left (by omega)) (Nat.max_eq_right (by omega)))
  · refine ⟨_, e, ?_⟩
    simp only [ox, oy, tch]
    rw [if_neg (by omega)]
    exact congrArg some (Prod.ext (Nat.min_eq_right (by omega)) (Nat.max_eq_left (by omega)))
theorem PsOk.nodup (h : PsOk n ps) : ps.Nodup := h.asc.imp fun {a b} hl e => by subst e; rcases hl with hl | ⟨_, hl⟩ <;> exact Nat.lt_irrefl _ hl
theorem PsOk.len (h : PsOk n ps) : ps.length ≤ n * n := by
  have h1 : (ps.map fun p => p.1 * n + p.2).Nodup := by
    refine List.pairwise_map.mpr (List.Pairwise.imp_of_mem (fun {a b} ha hb hl e => ?_) h.asc)
    have := h.lt a ha
    have := h.lt b hb
    rcases hl with hl | ⟨h1, h2⟩
    · have : a.1 * n + n ≤ b.1 * n := by
        have := Nat.mul_le_mul_right n (show a.1 + 1 ≤ b.1 by omega)
        rw [Nat.succ_mul] at this; exact this
      omega
    · rw [h1] at e; omega
  have h2 := nodup_le (m := List.range (n * n)) h1 fun x hx => by
    obtain ⟨p, hp, rfl⟩ := List.mem_map.mp hx
    have := h.lt p hp
    rw [List.mem_range]
    have : p.1 * n + n ≤ n * n := by
      have := Nat.mul_le_mul_right n (show p.1 + 1 ≤ n by omega)
      rw [Nat.succ_mul] at this; exact this
    omega
  rw [List.length_map, List.length_range] at h2
  exact h2
def pairs8 : List (Nat × Nat) := (List.range 8).flatMap fun b => (List.range b).map fun a => (a, b)
theorem PsOk.le28 (h : PsOk n ps) (hn : n ≤ 8) : ps.length ≤ 28 := by
  have := nodup_leA (m := pairs8) h.nodup fun p hp => by
    have := h.lt p hp
    refine List.mem_flatMap.mpr ⟨p.2, List.mem_range.mpr (by omega), List.mem_map.mpr ⟨p.1, List.mem_range.mpr (by omega), rfl⟩⟩
  have e : pairs8.length = 28 := by decide
  omega
end
end Lw
/-! Lz: are_lands, check_lands, all_standings. -/
namespace Lw
open PySem PySem.Spec PyProof.Rows L2
section
variable {P : Program} {w : World} {K : PySem.W.Frag} {mg : Str → Option Value} {base : Heap}
variable {B H B0 H0 B1 H1 B2 H2 B' H' : Hp} {σ : Slo} {te ta tb tl td tv : TE} {a C CB dx d : Addr} {b : Bool} {x v : V} {m n i j : Nat} {fs : List (Str × V)} {f kf : Str} {PV : VP} {ps : List (Nat × Nat)}
/-- growth while the web may warm -/
structure GW (d : Addr) (n : Nat) (ps : List (Nat × Nat)) (B H B' H' : Hp) : Prop where
  gr : Gr B (offd d B H) B' (offd d B' H')
  st : WSt d n ps B' H'
  sub : Same B' H'
theorem GW.of (s : Same B H) (g : Gr B H B' H') (st : WSt d n ps B H) : GW d n ps B H B' H' := let ⟨h1, h2⟩ := Gr.offd s g st; ⟨h1, h2, g.sub⟩
theorem GW.trans (g : GW d n ps B H B1 H1) (k : GW d n ps B1 H1 B2 H2) : GW d n ps B H B2 H2 := ⟨g.gr.trans k.gr, k.st, k.sub⟩
theorem GW.bb (g : GW d n ps B H B' H') : Same B B' := g.gr.bb
theorem GW.warm (g : Gr B (offd d B H) B' H') (hot : WHot d n ps B') : GW d n ps B H B' H' := by
  obtain ⟨l, rows, h, _⟩ := id hot
  refine ⟨?_, .inr hot, g.sub⟩
  rw [offd_hot g.sub h]; exact g
theorem WSt.at (st : WSt d n ps B H) (s : Same B H) : ∃ o, H d = some o := by
  rcases st with ⟨_, h⟩ | ⟨l, rows, h, _⟩
  · exact ⟨_, h⟩
  · exact ⟨_, s _ _ h⟩
/-- one's own object stays while all grows, the web warming or not -/
theorem GW.own {o : HO} (g : GW d n ps B H B' H') (hd : a ≠ d) (n0 : B a = none) (h : H a = some o) (mo : Mo o) : B' a = none ∧ H' a = some o := by
  have h' : offd d B H a = some o := by rw [offd_ne hd]; exact h
  obtain ⟨h1, h2⟩ := g.gr.own n0 h' mo
  rw [offd_ne hd] at h2
  exact ⟨h1, h2⟩
theorem GW.put {o : HO} (g : GW d n ps B H B1 H1) (hd : a ≠ d) (n0 : H a = none) (n1 : B1 a = none) : GW d n ps B H B1 (upd H1 a o) := by
  refine ⟨?_, ?_, same_off g.sub n1⟩
  · have q := g.gr.put (p := a) (o := o) (by rw [offd_ne hd]; exact n0) n1
    have e : offd d B1 (upd H1 a o) = upd (offd d B1 H1) a o := funext fun b => by
      by_cases hb : b = d
      · subst hb; rw [offd_at, upd_ne fun z => hd z.symm, offd_at]
      · rw [offd_ne hb]
        by_cases hbD : b = a
        · subst hbD; rw [upd_same, upd_same]
        · rw [upd_ne hbD, upd_ne hbD, offd_ne hb]
    rw [e]; exact q
  · rcases g.st with ⟨h1, h2⟩ | h
    · exact .inl ⟨h1, by rw [upd_ne fun z => hd z.symm]; exact h2⟩
    · exact .inr h
theorem GW.refl (s : Same B H) (st : WSt d n ps B H) : GW d n ps B H B H := GW.of s (Gr.refl s) st
/-- a comprehension whose turns may warm the web -/
theorem go_lcW {α : Type} {R : α → VP} {xs : List α} [∀ x, Mn (R x)] {wi : TI} {j : Nat} {ws : List Nat} {Q : VK} (hi : EvI wi σ B H R xs) (s : Same B H) (st : WSt d n ps B H) (y : V) (hl : xs.length ≤ 900000) (hw : ∀ v, wipe ((wipe σ ws).set j (some v)) ws = wipe σ ws)
    (turn : ∀ x v B' H', x ∈ xs → GW d n ps B H B' H' → R x v B' → ∀ Q : VK, (∀ B2 H2, GW d n ps B' H' B2 H2 → WHot d n ps B2 → Q y H2) → te ((wipe σ ws).set j (some v)) H' Q)
    (k : ∀ D B' H', GW d n ps B H B' H' → (0 < xs.length → WHot d n ps B') → H D = none → B' D = none → H' D = some (.lst (List.replicate xs.length y)) → Q (.ref D) H') : tLc wi (gName j) tYes te ws σ H Q := by
  refine hi B H (Gr.refl s) _ fun J B2 H2 vs g2 r w => fun D hD => ?_
  have hB2 : B2 D = none := none_of_same g2.sub hD
  have gw2 := GW.of s g2 st
  have hDd : D ≠ d := fun e => by subst e; obtain ⟨o, ho⟩ := gw2.st.at g2.sub; rw [hD] at ho; cases ho
  refine lc_it w (fun i H' => ∃ B', GW d n ps B2 H2 B' H' ∧ (0 < i → WHot d n ps B') ∧ B' D = none ∧ H' D = some (.lst (List.replicate i y))) ?_ ?_ ?_ ?_
  · exact ⟨B2, (GW.refl g2.sub gw2.st).put hDd hD hB2, fun h => absurd h (Nat.lt_irrefl _), hB2, upd_same⟩
  · rintro i H' _ ⟨B', g', _⟩
    exact g'.bb.trans g'.sub
  · intro i x H0 H' hlt ⟨B', g0, hot0, nD, hacc0⟩ ⟨e0, hx⟩
    have g' : GW d n ps B2 H2 B' H' := by rw [e0]; exact g0
    have hacc : H' D = some (.lst (List.replicate i y)) := by rw [e0]; exact hacc0
    obtain ⟨z, hz, rz⟩ := (r.mn g'.bb).at hx
    refine ⟨hw x, ?_⟩
    dsimp only [tYes]
    rw [if_pos rfl]
    refine turn z x B' H' (List.mem_of_getElem? hz) (gw2.trans g') rz _ fun B4 H4 g4 hot4 => ?_
    obtain ⟨n4, e4⟩ := g4.own hDd nD hacc mo_lst
    refine ⟨_, e4, szl (by rw [List.length_replicate]; omega), B4, (g'.trans g4).put hDd hD n4, fun _ => hot4, n4, ?_⟩
    rw [upd_same, List.replicate_succ']
  · rintro H' ⟨B', g', hot, nD, hacc⟩
    exact k D B' H' (gw2.trans g') hot (g2.hh.free hD) nD hacc
/-- .. what an expression gives that warms the web -/
def EvW (d : Addr) (n : Nat) (ps : List (Nat × Nat)) (te : TE) (σ : Slo) (B H : Hp) (PV : VP) : Prop := ∀ Q : VK, (∀ v B' H', GW d n ps B H B' H' → WHot d n ps B' → PV v B' → Q v H') → te σ H Q
theorem go_call {sp : Sp} {tr : TA} {E : XK} {PL : List V → Hp → Prop} {Q : VK} (h : EvA tr σ B H PL) (s : Same B H) (k : ∀ vs B' H', Gr B H B' H' → PL vs B' → sp (vs ++ []) H' Q E) : tCall sp [] E tr σ H Q := h B H (Gr.refl s) _ k
theorem evw_len {PV : VP} (h : EvW d n ps te σ B H PV) (hp : ∀ v B', PV v B' → PN m v B') : EvW d n ps (tCB (fun xs H Q => ∃ p ys, xs = [.ref p] ∧ (SqL K H p ys ∨ SqT K H p ys) ∧ Q (.int ys.length) H) (tCons te tNil)) σ B H (RX (vn m)) := fun Q k =>
  h _ fun v B' H' g hot p => by
    obtain ⟨a, us, rfl, q, l⟩ := hp _ _ p
    subst l
    exact ⟨a, us, rfl, q.elim (fun q => .inl (SqL.of (g.sub _ _ q))) (fun q => .inr (SqT.of (g.sub _ _ q))), k _ B' H' g hot rfl⟩
theorem evw_eqN (h : EvW d n ps ta σ B H (RX (vn i))) (h2 : ∀ B' H', GW d n ps B H B' H' → Ev tb σ B' H' (RX (vn j))) : EvW d n ps (tOp rEq ta tb) σ B H (RX (.bl (decide (i = j)))) := fun Q k =>
  h _ fun v B' H' g hot p => (h2 B' H' g).go g.sub fun y B2 H2 g2 p2 => by
    cases p; cases p2
    exact ⟨rfl, by rw [dec_vn]; exact k _ B2 H2 (g.trans (GW.of g.sub g2 g.st)) (hot.mn g2.bb) rfl⟩
/-- if not all([..]): .., the turns all true, maybe warming the web -/
theorem s_allW {α : Type} {R : α → VP} {xs : List α} [∀ x, Mn (R x)] {wi : TI} {j : Nat} {ws : List Nat} {tu tw : TS} {D : Ends} (hi : EvI wi σ B H R xs) (s : Same B H) (st : WSt d n ps B H) (hl : xs.length ≤ 900000) (hw : ∀ v, wipe ((wipe σ ws).set j (some v)) ws = wipe σ ws)
    (turn : ∀ x v B' H', x ∈ xs → GW d n ps B H B' H' → R x v B' → ∀ Q : VK, (∀ B2 H2, GW d n ps B' H' B2 H2 → WHot d n ps B2 → Q (.bl true) H2) → te ((wipe σ ws).set j (some v)) H' Q)
    (k : ∀ B' H', GW d n ps B H B' H' → (0 < xs.length → WHot d n ps B') → tw D σ H') : tIfS (tNot (tB (tCB (rAll K) (tCons (tLc wi (gName j) tYes te ws) tNil)))) tu tw D σ H :=
  go_lcW (Q := fun v H' => rAll K [v] H' fun x H3 => ∃ b, x = .bl b ∧ (if (!b) = true then tu D σ H3 else tw D σ H3)) hi s st (.bl true) hl hw turn fun D B' H' gw hot nD bD hD =>
    ⟨D, List.replicate xs.length true, rfl, SqL.of (by rw [List.map_replicate]; exact hD), true, by
      rw [List.all_replicate]
      split <;> rfl, k B' H' gw hot⟩
/-! ### are_lands -/
theorem sum_cast : ∀ ns : List Nat, (ns.map fun n : Nat => (n : Int)).sum = ((ns.sum : Nat) : Int)
  | [] => rfl
  | n :: ns => by rw [List.map_cons, List.sum_cons, List.sum_cons, sum_cast ns]; exact (Int.natCast_add _ _).symm
theorem ev_sum {ns : List Nat} (h : Ev te σ B H (IL ns)) : Ev (tCB (rSum K) (tCons te tNil)) σ B H (RX (vn ns.sum)) :=
  ev_cbx (ea_c h ea_nil) fun vs B' H' g ⟨v, ws, e, ⟨p, e1, hp⟩, e2⟩ Q q => by
    cases e2; subst e e1
    refine ⟨p, ns.map fun n : Nat => (n : Int), rfl, SqL.of (by rw [← map_cast]; exact g.sub _ _ hp), ?_⟩
    rw [sum_cast]; exact q
/-- a case: a web, a book, the lands told -/
structure CaseOk (n : Nat) (ps : List (Nat × Nat)) (m : Nat) (ts : List (Nat × Nat)) (told : List (List Nat)) : Prop where
  pok : PsOk n ps
  tok : PsOk m ts
  len : told.length = m
  tld : Told n ps told
  tie : TiesOk ps told ts
  con : ∀ k, k < m → Rch (Adj ts) (· < m) 0 k
  n1 : 1 ≤ n
  n2 : n ≤ 30
  m1 : 1 ≤ m
  m2 : m ≤ 6
theorem CaseOk.pl {ts : List (Nat × Nat)} {told : List (List Nat)} (c : CaseOk n ps m ts told) : ps.length ≤ 1000 := by
  have h1 := c.pok.len
  have h2 : n * n ≤ 30 * 30 := Nat.mul_le_mul c.n2 c.n2
  omega
theorem CaseOk.tsl {ts : List (Nat × Nat)} {told : List (List Nat)} (c : CaseOk n ps m ts told) : ts.length ≤ 28 := c.tok.le28 (by have := c.m2; omega)
/-- the arguments of the lands' defs -/
structure LArgs (C CB : Addr) (n m : Nat) (ps ts : List (Nat × Nat)) (told : List (List Nat)) (d : Addr) (v bk u : V) (B : Hp) : Prop where
  web : WebO C n ps d v B
  book : ∃ rows, RowsOk m ts rows ∧ BookV CB m ts rows bk B
  val : TO (fun l => IT l) told u B
  ok : CaseOk n ps m ts told
theorem LArgs.mn {ts : List (Nat × Nat)} {told : List (List Nat)} {bk u : V} (h : LArgs C CB n m ps ts told d v bk u B) (s : Same B B') : LArgs C CB n m ps ts told d v bk u B' :=
  ⟨Mn.mn s h.web, let ⟨rows, h1, h2⟩ := h.book; ⟨rows, h1, Mn.mn s h2⟩, Mn.mn s h.val, h.ok⟩
abbrev spLands (C CB : Addr) (R : V) : Sp := fun vs H Q _ => ∃ B n m ps ts told d v bk u, vs = [v, bk, u] ∧ LArgs C CB n m ps ts told d v bk u B ∧ Same B H ∧ WSt d n ps B H ∧
  ∀ B' H', Gr B (offd d B H) B' H' → WHot d n ps B' → Q R H'
theorem sc_are_lands : FnScope ["web", "book", "thing", "land", "owners", "owner", "touched", "tie"] ["web", "book", "thing"] (defScope (tp 32)) := ⟨rfl, rfl, rfl, by decide +kernel, rfl, by decide +kernel, by decide +kernel⟩
set_option maxHeartbeats 1000000 in
theorem ok_are_lands (D : Dn K mg "are_lands" "are_lands" (tp 32)) (T : Tx mg) (c_is_land : Cal P w K mg base 4 "is_land" (spIsLand C)) (c_land_numbers : Cal P w K mg base 3 "land_numbers" (spLandNumbers C)) (c_reached_lands : Cal P w K mg base 3 "reached_lands" (spReached30 C))
    (c_touching : Cal P w K mg base 3 "touching" (spTouching C)) (c_Book_size : Prp P w K mg base CB "size" "kept_size") (c_Book_ties : Prp P w K mg base CB "ties" "kept_ties") : Cal P w K mg base 5 "are_lands" (spLands C CB (.bl true)) := by
  refine cal_of D sc_are_lands (fun _ _ _ _ _ _ us hl => match us, hl with | [_, _, _], _ => rfl) (fun vs H Q E h => ?_) (fun cdv A outer s f H vs Q E hr h => ?_)
  · obtain ⟨B, n, m, ps, ts, told, d, v, bk, u, rfl, _⟩ := h
    rfl
  · obtain ⟨B0, n, m, ps, ts, told, d, v, bk, u, rfl, ar, s0, st, k⟩ := h
    refine ⟨_, (pss_cons (ps_if (PW.pt (pw_or (pt_not (pt_val (pe_callB (isiK K) (by rfl) T.isinstance (by decide +kernel) (pa_cons (pv 2) (pa_cons (pe_bltn (v := .ty "tuple") (u := .type "tuple") (by rfl) T.tuple (by decide +kernel) rfl) pa_nil))))) (pw_or (pt_cmpR op_ne (pe_callB (lenS K) (by rfl) T.len PySem.boot_len (pa_cons (pv 2) pa_nil)) (pe_pr c_Book_size hr (by decide) (pv 1) rfl) (nomark _)) (pw_or1 (pt_not (pt_val (pe_callB (allK K rfl) (by rfl) T.all (by decide +kernel) (pa_cons (pe_lc (own := [("land", 3)]) rfl sc_are_lands.nd (piT K (pv 2)) (blkOk_by (by kernel_rfl)) (fun _ _ _ _ _ => (pg_name (i := 3) sc_are_lands.nd rfl (.inl rfl))) (fun _ _ _ _ _ => pts_nil) (fun _ _ _ _ _ => (pe_k c_is_land hr (by decide) rfl (pa_cons (pv 0) (pa_cons (pv 3) pa_nil))))) pa_nil)))))))) (pss_one (ps_ret pe_bl)) pss_nil)
      (pss_cons (ps_set (i := 4) sc_are_lands.nd rfl (.inr rfl) (pe_k c_land_numbers hr (by decide) rfl (pa_cons (pv 0) (pa_cons (pv 2) pa_nil))))
      (pss_cons (ps_if (pt_cmpR op_ne (pe_callB (sumK K rfl) (by rfl) T.sum (by decide +kernel) (pa_cons (pe_lc (own := [("land", 3)]) rfl sc_are_lands.nd (piT K (pv 2)) (blkOk_by (by kernel_rfl)) (fun _ _ _ _ _ => (pg_name (i := 3) sc_are_lands.nd rfl (.inl rfl))) (fun _ _ _ _ _ => pts_nil) (fun _ _ _ _ _ => (pe_callB (lenS K) (by rfl) T.len PySem.boot_len (pa_cons (pv 3) pa_nil)))) pa_nil)) (pe_callB (lenS K) (by rfl) T.len PySem.boot_len (pa_cons (pe_lc (own := [("owner", 5)]) rfl sc_are_lands.nd (piL K (pv 4)) (blkOk_by (by kernel_rfl)) (fun _ _ _ _ _ => (pg_name (i := 5) sc_are_lands.nd rfl (.inl rfl))) (fun _ _ _ _ _ => (pts_one (pt_cmpR op_notN (pv 5) pe_non (nomark _)))) (fun _ _ _ _ _ => (pv 5))) pa_nil)) (nomark _)) (pss_one (ps_ret pe_bl)) pss_nil)
      (pss_cons (ps_if (pt_not (pt_val (pe_callB (allK K rfl) (by rfl) T.all (by decide +kernel) (pa_cons (pe_lc (own := [("land", 3)]) rfl sc_are_lands.nd (piT K (pv 2)) (blkOk_by (by kernel_rfl)) (fun _ _ _ _ _ => (pg_name (i := 3) sc_are_lands.nd rfl (.inl rfl))) (fun _ _ _ _ _ => pts_nil) (fun _ _ _ _ _ => (pe_cmpR op_eq (pe_callB (lenS K) (by rfl) T.len PySem.boot_len (pa_cons (pe_k c_reached_lands hr (by decide) rfl (pa_cons (pv 0) (pa_cons (pv 4) (pa_cons (pe_ix (ixT K) (pv 3) pe_int (fun _ _ => rfl)) pa_nil)))) pa_nil)) (pe_callB (lenS K) (by rfl) T.len PySem.boot_len (pa_cons (pv 3) pa_nil)) (nomark _)))) pa_nil)))) (pss_one (ps_ret pe_bl)) pss_nil)
      (pss_cons (ps_set (i := 6) sc_are_lands.nd rfl (.inr rfl) (pe_k c_touching hr (by decide) rfl (pa_cons (pv 0) (pa_cons (pv 4) pa_nil))))
      (pss_one (ps_ret (pe_callB (allK K rfl) (by rfl) T.all (by decide +kernel) (pa_cons (pe_lc (own := [("tie", 7)]) rfl sc_are_lands.nd (piT K (pe_pr c_Book_ties hr (by decide) (pv 1) rfl)) (blkOk_by (by kernel_rfl)) (fun _ _ _ _ _ => (pg_name (i := 7) sc_are_lands.nd rfl (.inl rfl))) (fun _ _ _ _ _ => pts_nil) (fun _ _ _ _ _ => (pe_cmp (pc_din (hu_of hr) (pv 7) (pv 6)) rfl))) pa_nil))))))))), ?_⟩
    have ok := ar.ok
    have hn : n ≤ 1000 := by have := ok.n2; omega
    have hpl := ok.pl
    have hml := ok.len
    have htl : told.length ≤ 1000 := by rw [hml]; have := ok.m2; omega
    obtain ⟨ut, tvs, rfl, hut, hrt⟩ := id ar.val
    obtain ⟨brows, hbro, hbk⟩ := ar.book
    refine s_if (D := { nx := _, rt := _ }) (b := false) (et_or (b := false) (c := false) (et_not (b := true) (et_B (ev_isi (evx 2 rfl) (fun _ _ g => .base (.tup (g.hh _ _ (s0 _ _ hut)))) (kit_ty (by decide +kernel))))) fun _ =>
      et_or (b := false) (c := false) ((et_val (ev_neN (ev_len (ev_var 2 rfl ar.val) (pn_TO rfl)) (ev_bsize (evx 1 rfl) hbk))).eq (by rw [hml]; simp)) fun _ =>
        et_not (b := true) (et_B ((ev_all (bs := told.map fun _ => true) (em_lcM (R' := fun b => RX (.bl b)) (ei_tup (ev_var 2 rfl ar.val)) (fun _ => true) (by omega) (fun _ => rfl) fun l v' B' H' hmem g hv => ?_).vals.vl).eq ?_))) s0 (fun e => nomatch e) fun _ B1 H1 g1 => ?_
    · refine ev_call (ea_c (evx 0 rfl) (ea_c (ev_var 3 rfl hv) ea_nil)) fun vs B2 s2 hvs => ?_
      obtain ⟨_, _, rfl, rfl, u', _, rfl, hu', rfl⟩ := hvs
      exact ⟨_, u', n, d, ps, l, rfl, Mn.mn (g.bb.trans s2) ar.web, hu', ok.tld.ok l hmem, hn, rfl⟩
    · rw [all_map_true]
    · have ar1 := ar.mn g1.bb
      have gw1 := GW.of s0 g1 st
      refine s_asg (D := { nx := _, rt := _ }) (ev_call (P := OL (fillAll n told)) (ea_c (evx 0 rfl) (ea_c (ev_var 2 rfl ar1.val) ea_nil)) fun vs B' s' hvs => ?_) g1.sub fun ow B2 H2 g2 how => ?_
      · obtain ⟨_, _, rfl, rfl, u', _, rfl, hu', rfl⟩ := hvs
        exact ⟨_, u', n, d, ps, told, rfl, Mn.mn s' ar1.web, hu', ok.tld.ok, htl, hn, rfl⟩
      have ar2 := ar1.mn g2.bb
      have gw2 := gw1.trans (GW.of g1.sub g2 gw1.st)
      refine s_if (D := { nx := _, rt := _ }) (b := false) ((et_val (ev_neN (ev_sum (ns := told.map List.length) (em_lcM (R' := fun k => RX (vn k)) (ei_tup (ev_var 2 rfl ar2.val)) List.length (by omega) (fun _ => rfl) fun l v' B' H' hmem g hv => ev_len (ev_var 3 rfl hv) (pn_VT (List.length_map ..))).vals.vl)
        (ev_len (em_lcN (R' := fun o : Option Nat => RX (vo o)) (ei_VL (f := vo) (ev_var 4 rfl how)) (fun o => o.isSome) id (by rw [fillAll_len]; omega) (fun _ => rfl) fun o v' B' H' hmem g hv => ⟨?_, fun _ => ?_⟩).lo (pn_LO (n := cntO (fillAll n told)) (List.length_map ..))))).eq ?_) g2.sub (fun e => nomatch e) fun _ B3 H3 g3 => ?_
      · cases hv
        refine (et_val (ev_notN (evx 5 rfl))).eq ?_
        cases o <;> rfl
      · cases hv
        exact evx 5 rfl
      · rw [cnt_all n ps _ told rfl ok.tld]; simp
      have ar3 := ar2.mn g3.bb
      have gw3 := gw2.trans (GW.of g2.sub g3 gw2.st)
      have how3 : OL (fillAll n told) ow B3 := Mn.mn g3.bb how
      refine s_allW (D := { nx := _, rt := _ }) (ei_tup (ev_var 2 rfl ar3.val)) g3.sub gw3.st (by omega) (fun _ => rfl) (fun l v' B' H' hmem g hv Q' k' => ?_) fun B4 H4 g4 hot4 => ?_
      · -- one land
        have lo := ok.tld.ok l hmem
        obtain ⟨c, hc⟩ := List.getElem?_of_mem hmem
        have hl0 : 0 < l.length := List.length_pos_iff.mpr lo.ne
        have e0 : l[0]? = some l[0] := List.getElem?_eq_getElem hl0
        have ar' := ar3.mn g.bb
        have hv1 : (l.map vn)[0]? = some (vn l[0]) := by rw [List.getElem?_map, e0]; rfl
        refine evw_eqN (d := d) (n := n) (ps := ps) (B := B') (i := l.length) (j := l.length) (evw_len (PV := fun w B' => ∃ ks : List Nat, ks.length = l.length ∧ IL ks w B') (fun Q2 k2 => ?_) fun w B' ⟨ks, el, hw⟩ => pn_VL (by rw [List.length_map]; exact el) _ _ hw) (fun B5 H5 g5 => ev_len (ev_var 3 rfl (Mn.mn g5.bb hv)) (pn_VT (List.length_map ..))) _ fun y B6 H6 g6 hot6 e6 => ?_
        · refine go_call (ea_c (evx 0 rfl) (ea_c (ev_var 4 rfl (Mn.mn g.bb how3)) (ea_x (ev_ixVT (i := 0) (ev_var 3 rfl hv) ev_0 hv1) ea_nil))) g.sub fun vs B5 H5 g5 hvs => ?_
          obtain ⟨_, _, rfl, rfl, u', _, rfl, hu', rfl⟩ := hvs
          have st5 := (GW.of g.sub g5 g.st).st
          refine ⟨B5, d, n, ps, _, u', fillAll n told, l[0], rfl, Mn.mn g5.bb ar'.web, hu', ok.pok, fillAll_len .., lo.lt _ (List.getElem_mem hl0), hpl, hn, g5.sub, st5, fun w' B6 H6 ks g6 hot6 nd hk hw' => ?_⟩
          exact k2 _ B6 H6 ((GW.of g.sub g5 g.st).trans (GW.warm g6 hot6)) hot6 ⟨ks, ok.tld.reach hc (List.getElem_mem hl0) nd hk, hw'⟩
        · cases e6
          have := k' B6 H6 g6 hot6
          rw [decide_eq_true rfl]
          exact this
      · · have gw4 := gw3.trans g4
          have ar4 := ar3.mn g4.bb
          have hot := hot4 (by have := ok.m1; omega)
          have how4 : OL (fillAll n told) ow B4 := Mn.mn g4.bb how3
          refine s_asg (D := { nx := _, rt := _ }) (ev_call (P := VDP (insPs (tchs (fillAll n told) ps))) (ea_c (evx 0 rfl) (ea_c (ev_var 4 rfl how4) ea_nil)) fun vs B' s' hvs => ?_) g4.sub fun to B5 H5 g5 hto => ?_
          · obtain ⟨_, _, rfl, rfl, u', _, rfl, hu', rfl⟩ := hvs
            exact ⟨_, u', n, d, ps, _, rfl, Mn.mn s' ar4.web, hu', ok.pok, fillAll_len .., hpl, hn, rfl⟩
          have gw5 := gw4.trans (GW.of g4.sub g5 gw4.st)
          obtain ⟨brows5, _, hbk5⟩ := (ar4.mn g5.bb).book
          refine s_ret (D := { nx := _, rt := _ }) (P := RX (.bl true)) ((ev_all (bs := ts.map fun _ => true) (em_lcM (R' := fun b => RX (.bl b)) (ei_tup (ev_bties (evx 1 rfl) hbk5)) (fun _ => true) (by have := ok.tsl; omega) (fun _ => rfl) fun t v' B' H' hmem g hv => ?_).vals.vl).eq ?_) g5.sub fun v' B' H' g e => ?_
          · exact (ev_inDP (ev_var 7 rfl hv) (ev_var 6 rfl (Mn.mn g.bb hto))).eq (by rw [decide_eq_true (ok.tld.ties (fun t ht => (ok.tok.lt t ht).1) ok.tie hmem)])
          · rw [all_map_true]
          · cases e
            have gwF := gw5.trans (GW.of g5.sub g gw5.st)
            have hotF : WHot d n ps B' := (hot.mn g5.bb).mn g.bb
            obtain ⟨l, rows, hd, _⟩ := id hotF
            refine k B' H' ?_ hotF
            have := gwF.gr
            rw [offd_hot g.sub hd] at this
            exact this
end
end Lw
/-! Ma: check_lands, all_standings, pieces_of, pieces_left, touch. -/
namespace Lw
open PySem PySem.Spec PyProof.Rows L2
/-! ### plain -/
/-- the pieces of S -/
structure PcsOk (ps : List (Nat × Nat)) (S : List Nat) (pcs : List (List Nat)) : Prop where
  comp : ∀ p ∈ pcs, p.Nodup ∧ ∃ s ∈ S, ∀ x, x ∈ p ↔ Rch (Adj ps) (· ∈ S) s x
  all : ∀ s ∈ S, ∃ p ∈ pcs, s ∈ p
  len : pcs.length ≤ S.length
structure PcI (ps : List (Nat × Nat)) (S done ks : List Nat) (pcs : List (List Nat)) : Prop where
  nd : ks.Nodup
  mem : ∀ x, x ∈ ks ↔ ∃ s ∈ done, Rch (Adj ps) (· ∈ S) s x
  comp : ∀ p ∈ pcs, p.Nodup ∧ ∃ s ∈ S, ∀ x, x ∈ p ↔ Rch (Adj ps) (· ∈ S) s x
  all : ∀ s ∈ done, ∃ p ∈ pcs, s ∈ p
  len : pcs.length ≤ done.length
section
variable {ps : List (Nat × Nat)} {S done ks q : List Nat} {pcs : List (List Nat)} {s n : Nat}
theorem PcI.start : PcI ps S [] [] [] := ⟨List.nodup_nil, fun x => by simp, fun p h => absurd h (by simp), fun s h => absurd h (by simp), Nat.le_refl _⟩
theorem PcI.old (h : PcI ps S done ks pcs) (hS : ∀ s ∈ done, s ∈ S) (m : s ∈ ks) : PcI ps S (done ++ [s]) ks pcs := by
  obtain ⟨s', hs', r⟩ := (h.mem s).mp m
  refine ⟨h.nd, fun x => ⟨fun hx => ?_, fun ⟨t, ht, rt⟩ => ?_⟩, h.comp, fun t ht => ?_, by have := h.len; rw [List.length_append]; omega⟩
  · obtain ⟨t, ht, rt⟩ := (h.mem x).mp hx
    exact ⟨t, by simp [ht], rt⟩
  · rcases List.mem_append.mp ht with ht | ht
    · exact (h.mem x).mpr ⟨t, ht, rt⟩
    · rw [List.mem_singleton.mp ht] at rt
      exact (h.mem x).mpr ⟨s', hs', r.trans rt⟩
  · rcases List.mem_append.mp ht with ht | ht
    · exact h.all t ht
    · rw [List.mem_singleton.mp ht]
      obtain ⟨p, hp, hsp⟩ := h.all s' hs'
      obtain ⟨_, s2, _, hc⟩ := h.comp p hp
      exact ⟨p, hp, (hc s).mpr (((hc s').mp hsp).trans r)⟩
theorem foldl_ins_mem {x : Nat} : ∀ (q acc : List Nat), x ∈ q.foldl ins acc ↔ x ∈ acc ∨ x ∈ q
  | [], acc => by simp
  | k :: q, acc => by rw [List.foldl_cons, foldl_ins_mem q, mem_ins, List.mem_cons, or_assoc]
theorem foldl_ins_nodup : ∀ (q acc : List Nat), acc.Nodup → (q.foldl ins acc).Nodup
  | [], _, h => h
  | _ :: q, _, h => foldl_ins_nodup q _ (ins_nodup h)
theorem srt_nodup {l : List Nat} (h : l.Nodup) : (srt l).Nodup := (srt_perm l).nodup_iff.mpr h
theorem PcI.new (h : PcI ps S done ks pcs) (hs : s ∈ S) (nd : q.Nodup) (hq : ∀ x, x ∈ q ↔ Rch (Adj ps) (· ∈ S) s x) : PcI ps S (done ++ [s]) (q.foldl ins ks) (pcs ++ [srt q]) := by
  refine ⟨foldl_ins_nodup _ _ h.nd, fun x => ?_, fun p hp => ?_, fun t ht => ?_, by have := h.len; rw [List.length_append, List.length_append]; simp; omega⟩
  · rw [foldl_ins_mem, h.mem, hq]
    refine ⟨fun z => ?_, fun ⟨t, ht, rt⟩ => ?_⟩
    · rcases z with ⟨t, ht, rt⟩ | rt
      · exact ⟨t, by simp [ht], rt⟩
      · exact ⟨s, by simp, rt⟩
    · rcases List.mem_append.mp ht with ht | ht
      · exact .inl ⟨t, ht, rt⟩
      · rw [List.mem_singleton.mp ht] at rt; exact .inr rt
  · rcases List.mem_append.mp hp with hp | hp
    · exact h.comp p hp
    · rw [List.mem_singleton.mp hp]
      exact ⟨srt_nodup nd, s, hs, fun x => by rw [mem_srt]; exact hq x⟩
  · rcases List.mem_append.mp ht with ht | ht
    · obtain ⟨p, hp, h2⟩ := h.all t ht
      exact ⟨p, by simp [hp], h2⟩
    · rw [List.mem_singleton.mp ht]
      exact ⟨srt q, by simp, by rw [mem_srt]; exact (hq s).mpr .refl⟩
theorem PcI.fin (h : PcI ps S S ks pcs) : PcsOk ps S pcs := ⟨h.comp, h.all, h.len⟩
theorem PcI.le (h : PcI ps S done ks pcs) (hS : ∀ s ∈ done, s ∈ S) : ks.length ≤ S.length := nodup_le h.nd fun x hx => by
  obtain ⟨s, hs, r⟩ := (h.mem x).mp hx
  exact r.mem (hS s hs)
theorem PcsOk.short (h : PcsOk ps S pcs) {p : List Nat} (hp : p ∈ pcs) : p.length ≤ S.length := by
  obtain ⟨nd, s, hs, hc⟩ := h.comp p hp
  exact nodup_le nd fun x hx => ((hc x).mp hx).mem hs
theorem PsOk.le1000 (h : PsOk n ps) (hn : n ≤ 30) : ps.length ≤ 1000 := by
  have h1 := h.len
  have h2 : n * n ≤ 30 * 30 := Nat.mul_le_mul hn hn
  omega
theorem mergeK_dts : ∀ (q ks : List Nat), mergeK (dts ks) (dts q) = dts (q.foldl ins ks)
  | [], ks => rfl
  | k :: q, ks => by
    show mergeK (putK (dts ks) (ky k) (.bl true)) (dts q) = _
    rw [put_dts, mergeK_dts q]; rfl
theorem inV_vn (s : Nat) (l : List Nat) : inV (vn s) (l.map vn) = decide (s ∈ l) := by
  unfold inV
  rw [List.any_map]
  induction l with
  | nil => rfl
  | cons x l ih =>
    rw [List.any_cons, ih]
    have e : ((fun y => eqV y (vn s)) ∘ vn) x = decide (x = s) := by
      show ((x : Int) == (s : Int)) = _
      by_cases h : x = s
      · subst h; simp
      · simp [h]; omega
    rw [e]
    by_cases h : x = s
    · subst h; simp
    · have h' : ¬ s = x := fun z => h z.symm
      simp [h, h']
theorem flat_vn (l : List Nat) : (l.map vn).all flatV = true := by rw [List.all_map]; exact List.all_eq_true.mpr fun _ _ => rfl
end
section
variable {P : Program} {w : World} {K : PySem.W.Frag} {mg : Str → Option Value} {base : Heap}
variable {B H B0 H0 B1 H1 B2 H2 B' H' : Hp} {σ : Slo} {te ta tb tl td tv : TE} {a C CB dx d : Addr} {b : Bool} {x v : V} {m n i j : Nat} {fs : List (Str × V)} {f kf : Str} {PV : VP} {ps : List (Nat × Nat)}
/-! ### check_lands, all_standings -/
theorem s_notW {tu tw : TS} {D : Ends} (h : EvW d n ps te σ B H (RX (.bl true))) (k : ∀ B' H', GW d n ps B H B' H' → WHot d n ps B' → tw D σ H') : tIfS (tNot (tB te)) tu tw D σ H :=
  h (fun x H3 => ∃ b, x = .bl b ∧ (if (!b) = true then tu D σ H3 else tw D σ H3)) fun v B' H' g hot e => ⟨true, e, k B' H' g hot⟩
theorem evw_lands {R : V} {tr : TA} {E : XK} {ts : List (Nat × Nat)} {told : List (List Nat)} {v bk u : V} (h : EvA tr σ B H (AX [v, bk, u])) (ar : LArgs C CB n m ps ts told d v bk u B) (s : Same B H) (st : WSt d n ps B H) : EvW d n ps (tCall (spLands C CB R) [] E tr) σ B H (RX R) := fun Q k =>
  go_call h s fun vs B1 H1 g1 e => by
    cases e
    have gw := GW.of s g1 st
    exact ⟨B1, n, m, ps, ts, told, d, v, bk, u, rfl, ar.mn g1.bb, g1.sub, gw.st, fun B' H' g hot => k R B' H' (gw.trans (GW.warm g hot)) hot rfl⟩
theorem sc_check_lands : FnScope ["web", "book", "told"] ["web", "book", "told"] (defScope (tp 42)) := ⟨rfl, rfl, rfl, by decide +kernel, rfl, by decide +kernel, by decide +kernel⟩
theorem ok_check_lands (D : Dn K mg "check_lands" "check_lands" (tp 42)) (T : Tx mg) (c_are_lands : Cal P w K mg base 5 "are_lands" (spLands C CB (.bl true))) : Cal P w K mg base 6 "check_lands" (spLands C CB .non) := by
  refine cal_of D sc_check_lands (fun _ _ _ _ _ _ us hl => match us, hl with | [_, _, _], _ => rfl) (fun vs H Q E h => ?_) (fun cdv A outer s f H vs Q E hr h => ?_)
  · obtain ⟨B, n, m, ps, ts, told, d, v, bk, u, rfl, _⟩ := h
    rfl
  · obtain ⟨B0, n, m, ps, ts, told, d, v, bk, u, rfl, ar, s0, st, k⟩ := h
    refine ⟨_, (pss_one (ps_if (pt_not (pt_val (pe_k c_are_lands hr (by decide) rfl (pa_cons (pv 0) (pa_cons (pv 1) (pa_cons (pv 2) pa_nil)))))) (pss_one ps_never) pss_nil)), ?_⟩
    refine s_notW (d := d) (n := n) (ps := ps) (B := B0) (evw_lands (ea_x (evx 0 rfl) (ea_x (evx 1 rfl) (ea_x (evx 2 rfl) ea_nil))) ar s0 st) fun B' H' g hot => ?_
    have := g.gr
    obtain ⟨l, rows, hd, _⟩ := id hot
    rw [offd_hot g.sub hd] at this
    exact k B' H' this hot
def flat (told : List (List Nat)) : List Nat := told.flatten
theorem flatten_take_le (told : List (List Nat)) (i : Nat) : ((told.take i).flatten).length ≤ told.flatten.length := by
  have : told.flatten.length = ((told.take i).flatten).length + ((told.drop i).flatten).length := by
    rw [← List.length_append, ← List.flatten_append, List.take_append_drop]
  omega
abbrev spAll : Sp := Pr fun vs B P => ∃ u told, vs = [u] ∧ TO (fun l => IT l) told u B ∧ told.flatten.length ≤ 1000 ∧ P = IL (srt told.flatten)
theorem sc_all_standings : FnScope ["told", "found", "land"] ["told"] (defScope (tp 43)) := ⟨rfl, rfl, rfl, by decide +kernel, rfl, by decide +kernel, by decide +kernel⟩
theorem ok_all_standings (D : Dn K mg "all_standings" "all_standings" (tp 43)) (T : Tx mg) : Cal P w K mg base 1 "all_standings" spAll := by
  refine cal_of D sc_all_standings (fun _ _ _ _ _ _ us hl => match us, hl with | [_], _ => rfl) (fun vs H Q E h => ?_) (fun cdv A outer s f H vs Q E hr h => ?_)
  · obtain ⟨B, P, s, ⟨u, told, rfl, _⟩, _⟩ := h
    rfl
  · obtain ⟨B0, P, s0, ⟨u, told, rfl, hu, hl, rfl⟩, k⟩ := h
    refine ⟨_, (pss_cons (ps_set (i := 1) sc_all_standings.nd rfl (.inl rfl) (pe_lst pa_nil))
      (pss_cons (ps_for PassesOwn.never rfl (piT K (pv 0)) (pg_name (i := 2) sc_all_standings.nd rfl (.inl rfl))
        (pss_one (ps_expr (bmK K PySem.F.plainAttrs_list PySem.F.slot_list_extend PySem.F.type_list_extend mt_extendT (pv 1) (pa_cons (pv 2) pa_nil)))))
      (pss_one (ps_ret (pe_callB (srtI K) (by rfl) T.sorted (by decide +kernel) (pa_cons (pv 1) pa_nil)))))), ?_⟩
    refine s_asgM (D := { nx := _, rt := _ }) (em_lst (xs := []) ea_nil) s0 fun L vs B1 H1 g1 nL bL hL e => ?_
    cases e
    refine s_for (D := { nx := _, rt := _ }) (ei_tup (ev_var 0 rfl (Mn.mn g1.bb hu))) g1.sub (fun i σ B' H' => ∃ x2, σ = [some u, some (.ref L), x2] ∧ Gr B0 H B' H' ∧ B' L = none ∧ H' L = some (.lst (((told.take i).flatten).map vn)))
      (fun B' H' g => ?_) (fun i l lv σ B' H' hi s2 => ?_) (fun σ B' H' s2 => ?_)
    · exact ⟨_, rfl, g1.trans g, (g.own bL hL mo_lst).1, by rw [List.take_zero]; exact g.hh _ _ hL⟩
    · rintro ⟨x2, rfl, g0, b, h⟩ ⟨al, rfl, hal⟩
      have hsn : (told.take (i + 1)).flatten = (told.take i).flatten ++ l := by
        rw [List.take_add_one, hi, List.flatten_append]; simp
      have hle := flatten_take_le told (i + 1)
      rw [hsn, List.length_append] at hle
      refine ⟨.ref L, rfl, .inl ⟨rfl, _, SqL.of h⟩, .ref al, rfl, L, al, _, _, rfl, rfl, h, s2 _ _ hal, ?_, ?_⟩
      · rw [List.length_map, List.length_map]
        exact sz _ (by omega)
      · have gg := g0.put (o := .lst (((told.take i).flatten).map vn ++ l.map vn)) nL b
        exact ⟨B', Same.refl _, gg.sub, _, rfl, gg, b, by rw [upd_same, hsn, List.map_append]⟩
    · rintro ⟨x2, rfl, g0, b, h⟩
      rw [List.take_length] at h
      have g2 := g0.settle nL b h
      refine s_ret (D := { nx := _, rt := _ }) (em_sorted (ns := told.flatten) (ev_var (v := .ref L) (B := upd B' L (.lst (told.flatten.map vn))) (P := IL told.flatten) 1 rfl ⟨L, rfl, upd_same⟩)).vl g2.sub fun u2 B3 H3 g3 hu2 => ?_
      exact k _ _ _ (g2.trans g3) hu2
/-! ### pieces_of -/
def WebH (C : Addr) (n : Nat) (ps : List (Nat × Nat)) : VP := fun v B => ∃ d, WebO C n ps d v B ∧ WHot d n ps B
instance : Mn (WebH C n ps) := ⟨fun s ⟨d, h, k⟩ => ⟨d, Mn.mn s h, k.mn s⟩⟩
theorem ev_besideH {E : XK} (h : Ev te σ B H (RX v)) (hw : WebH C n ps v B) (hps : PsOk n ps) (hn : n ≤ 30) : Ev (tCall (spBeside C) [] E (tCons te tNil)) σ B H (RwT n ps) := by
  obtain ⟨d, hw, hot⟩ := hw
  exact ev_beside h hw hps (hps.le1000 hn) (by omega) hot
/-- sorted(d) -/
theorem em_sortD {ks : List Nat} (h : Ev te σ B H (VD ks)) (hl : ks.length < 64) : EvM (tCB (fun xs H Q => ∃ (a : Addr) (kvs : List (Key × V)) (ks : List Int), xs = [.ref a] ∧ Rd H a (.dK kvs) ∧ kvs.map (·.1) = ks.map Sum.inl ∧ ks.length < 64 ∧
    ∀ (ys : List Int) (p : Addr), ys.Perm ks → ys.Pairwise (· ≤ ·) → H p = none → Q (.ref p) (upd H p (.lst (ys.map V.int)))) (tCons te tNil)) σ B H (fun vs _ => vs = (srt ks).map vn) :=
  em_cb (ea_c h ea_nil) fun vs B' H' g ⟨v, ws, e, ⟨p, e1, hp⟩, e2⟩ Q q => by
    cases e2; subst e e1
    refine ⟨p, _, ks.map fun n : Nat => (n : Int), rfl, .inl (g.sub _ _ hp), ?_, by rw [List.length_map]; exact hl, fun ms r pm asc nr => ?_⟩
    · unfold dts
      rw [List.map_map, List.map_map]; rfl
    · exact q r _ B' _ (Gr.newM g.sub nr) nr (none_of_same g.sub nr) upd_same (srt_ints pm asc)
abbrev spPieces (C : Addr) : Sp := Pr fun vs B P => ∃ v u n ps S, vs = [v, u] ∧ WebH C n ps v B ∧ IL S u B ∧ PsOk n ps ∧ n ≤ 30 ∧ (∀ s ∈ S, s < n) ∧ S.Nodup ∧ P = fun w B' => ∃ pcs, PcsOk ps S pcs ∧ LO (fun p => IT p) pcs w B'
theorem sc_pieces_of : FnScope ["web", "standings", "inside", "standing", "met", "found", "piece"] ["web", "standings"] (defScope (tp 36)) := ⟨rfl, rfl, rfl, by decide +kernel, rfl, by decide +kernel, by decide +kernel⟩
set_option maxHeartbeats 1000000 in
theorem ok_pieces_of (D : Dn K mg "pieces_of" "pieces_of" (tp 36)) (T : Tx mg) (c_beside_of : Cal P w K mg base 2 "beside_of" (spBeside C)) (c_reached_checks : Cal P w K mg base 1 "reached_checks" spReached) : Cal P w K mg base 3 "pieces_of" (spPieces C) := by
  refine cal_of D sc_pieces_of (fun _ _ _ _ _ _ us hl => match us, hl with | [_, _], _ => rfl) (fun vs H Q E h => ?_) (fun cdv A outer s f H vs Q E hr h => ?_)
  · obtain ⟨B, P, s, ⟨v, u, n, ps, S, rfl, _⟩, _⟩ := h
    rfl
  · obtain ⟨B0, P, s0, ⟨v, u, n, ps, S, rfl, hw, hu, hps, hn, hS, nd, rfl⟩, k⟩ := h
    refine ⟨_, (pss_cons (ps_setDc (i := 2) (own := [("standing", 3)]) rfl sc_pieces_of.nd rfl rfl (sw_trueD rfl rfl rfl (by decide +kernel)) (piL K (pv 1)) (blkOk_by (by kernel_rfl)) (fun _ _ _ _ _ => (pg_name (i := 3) sc_pieces_of.nd rfl (.inl rfl))) (fun _ _ _ _ _ => pts_nil) (fun _ _ _ _ _ => (pv 3)) (fun _ _ _ _ _ => pe_bl))
      (pss_cons (ps_set (i := 4) sc_pieces_of.nd rfl (.inl rfl) pe_dnewK)
      (pss_cons (ps_set (i := 5) sc_pieces_of.nd rfl (.inl rfl) (pe_lst pa_nil))
      (pss_cons (ps_for PassesOwn.never rfl (piL K (pv 1)) (pg_name (i := 3) sc_pieces_of.nd rfl (.inl rfl))
        (pss_one (ps_if (pt_cmp (pc_dnotin (hu_of hr) (pv 3) (pv 4)) rfl) (pss_cons (ps_set (i := 6) sc_pieces_of.nd rfl (.inl rfl) (pe_k c_reached_checks hr (by decide) rfl (pa_cons (pe_k c_beside_of hr (by decide) rfl (pa_cons (pv 0) pa_nil)) (pa_cons (pv 2) (pa_cons (pv 3) pa_nil)))))
          (pss_cons (ps_expr (bmK K PySem.F.plainAttrs_dict PySem.F.slot_dict_update PySem.F.type_dict_update mt_update (pv 4) (pa_cons (pv 6) pa_nil)))
          (pss_one (ps_expr (bmK K PySem.F.plainAttrs_list PySem.F.slot_list_append PySem.F.type_list_append mt_append (pv 5) (pa_cons (pe_callTy (tupOf K) (by rfl) T.tuple (by decide +kernel) (pa_cons (pe_callB (call_sortedDI rfl) (by rfl) T.sorted (by decide +kernel) (pa_cons (pv 6) pa_nil)) pa_nil)) pa_nil)))))) pss_nil)))
      (pss_one (ps_ret (pv 5))))))), ?_⟩
    have hSl : S.length ≤ 30 := by
      have := nodup_le (m := List.range n) nd fun x hx => List.mem_range.mpr (hS x hx)
      rw [List.length_range] at this; omega
    have hil := insAll_len S
    refine s_asg (D := { nx := _, rt := _ }) (ev_dc (ei_VL (f := vn) (ev_var 1 rfl hu)) (by omega) (fun _ => rfl) (fun _ => rfl)) s0 fun di B1 H1 g1 hdi => ?_
    refine fun M hM => ?_
    have s1 : Same B1 (upd H1 M (.dK [])) := same_off g1.sub (none_of_same g1.sub hM)
    refine s_asgM (em_lst (xs := []) ea_nil) s1 fun L vs B2 H2 g2 nL bL hL e => ?_
    cases e
    have hM1 : B1 M = none := none_of_same g1.sub hM
    have hM0 : H M = none := g1.hh.free hM
    have nL0 : H L = none := g1.hh.free ((same_new hM).free nL)
    obtain ⟨bM, hM2⟩ := g2.own hM1 upd_same mo_dK
    have gg := (g1.trans (Gr.newM g1.sub hM (o := .dK []))).trans g2
    refine s_for (D := { nx := _, rt := _ }) (ei_VL (f := vn) (ev_var 1 rfl (Mn.mn gg.bb hu))) g2.sub (fun i σ B' H' => ∃ x3 x6 ks pcs vs, σ = [some v, some u, some di, x3, some (.ref M), some (.ref L), x6] ∧ Gr B0 H B' H' ∧ Same B1 B' ∧ B' M = none ∧ H' M = some (.dK (dts ks)) ∧ B' L = none ∧ H' L = some (.lst vs) ∧ Rs (fun p => IT p) pcs vs B' ∧ PcI ps S (S.take i) ks pcs)
      (fun B' H' g => ?_) (fun i y yv σ B3 H3 hi s3 => ?_) (fun σ B3 H3 s3 => ?_)
    · exact ⟨_, _, [], [], [], rfl, gg.trans g, (g2.bb.trans g.bb), (g.own bM hM2 mo_dK).1, g.hh _ _ hM2, (g.own bL hL mo_lst).1, g.hh _ _ hL, True.intro, PcI.start⟩
    · rintro ⟨x3, x6, ks, pcs, vs, rfl, g0, sb, bM, hM3, bL, hL3, rs, pc⟩ e
      cases e
      have hyS : y ∈ S := List.mem_of_getElem? hi
      have htk : S.take (i + 1) = S.take i ++ [y] := by rw [List.take_add_one, hi]; rfl
      have hsub : ∀ t ∈ S.take i, t ∈ S := fun t ht => List.mem_of_mem_take ht
      have hkl := pc.le hsub
      have hpl := pc.len
      have hti : (S.take i).length ≤ S.length := by rw [List.length_take]; omega
      show tIfS _ _ _ _ _ _
      refine s_if (b := !decide (y ∈ ks)) (et_B (ev_niDM (evx 3 rfl) (evx 4 rfl) hM3)) s3 (fun e B4 H4 g4 => ?_) (fun e B4 H4 g4 => ?_)
      · have g04 := g0.trans g4
        have hw4 : WebH C n ps v B4 := Mn.mn g04.bb hw
        have hdi4 : VD (insAll S) di B4 := Mn.mn (sb.trans g4.bb) hdi
        refine s_asg (ev_call (P := fun w B' => ∃ q : List Nat, q.Nodup ∧ (∀ x, x ∈ q ↔ Rch (Adj ps) (· ∈ insAll S) y x) ∧ q.length ≤ (insAll S).length + 1 ∧ VD q w B') (ea_c (ev_besideH (evx 0 rfl) hw4 hps hn) (ea_c (ev_var 2 rfl hdi4) (ea_x (evx 3 rfl) ea_nil))) fun vs B' s' hvs => ?_) g4.sub fun pv B5 H5 g5 hpv => ?_
        · obtain ⟨l', _, rfl, ⟨rows', hro', hl'⟩, u', _, rfl, hu', rfl⟩ := hvs
          refine ⟨l', u', ps, n, y, rows', insAll S, rfl, hl', hu', hps, hro', hS y hyS, by omega, rfl⟩
        · obtain ⟨q, ndq, hq', _, aq, rfl, haq⟩ := hpv
          have hq : ∀ x, x ∈ q ↔ Rch (Adj ps) (· ∈ S) y x := fun x => (hq' x).trans ⟨fun r => r.mono fun z hz => mem_insAll.mp hz, fun r => r.mono fun z hz => mem_insAll.mpr hz⟩
          have g05 := g04.trans g5
          obtain ⟨bM5, hM5⟩ := (g4.trans g5).own bM hM3 mo_dK
          obtain ⟨bL5, hL5⟩ := (g4.trans g5).own bL hL3 mo_lst
          have ne : M ≠ aq := fun z => by rw [z, haq] at bM5; cases bM5
          have hql : q.length ≤ S.length := nodup_le ndq fun x hx => ((hq x).mp hx).mem hyS
          refine ⟨.ref M, rfl, ?_, .ref aq, rfl, M, aq, dts ks, dts q, rfl, rfl, ne, hM5, g5.sub _ _ haq, ?_, ?_⟩
          · exact .inr (.inr (.inl ⟨rfl, .inl ⟨_, hM5⟩⟩))
          · rw [len_dts, len_dts]; exact sz _ (by omega)
          · rw [mergeK_dts]
            have g06 := g05.put (o := .dK (dts (q.foldl ins ks))) hM0 bM5
            have neL : L ≠ M := ne_of hL5 hM5 (fun e => nomatch e)
            refine s_app (evx 5 rfl) (ev_tupOfL (em_sortD (ev_var (B := B5) (P := VD q) 6 rfl ⟨aq, rfl, haq⟩) (by omega)).vl) g06.sub (by rw [upd_ne neL]; exact hL5) (by rw [rs.len]; omega) fun v8 B8 H8 g8 h8 p8 => ?_
            have g08 := g06.trans g8
            obtain ⟨bM8, hM8⟩ := g8.own bM5 upd_same mo_dK
            obtain ⟨bL8, _⟩ := g8.own bL5 (by rw [upd_ne neL]; exact hL5) mo_lst
            have g09 := g08.put (o := .lst (vs ++ [v8])) nL0 bL8
            have s58 : Same B3 B8 := (g4.bb.trans g5.bb).trans g8.bb
            exact ⟨B8, s58, g09.sub, _, _, _, _, _, rfl, g09, sb.trans s58, bM8, by rw [upd_ne neL.symm]; exact hM8, bL8, upd_same, (rs.mn s58).app (Rs.one p8), by rw [htk]; exact pc.new hyS ndq hq⟩
      · have m : y ∈ ks := by
          cases h : decide (y ∈ ks) with
          | true => exact of_decide_eq_true h
          | false => rw [h] at e; cases e
        exact ⟨B4, g4.bb, g4.sub, _, _, ks, pcs, vs, rfl, g0.trans g4, sb.trans g4.bb, (g4.own bM hM3 mo_dK).1, g4.hh _ _ hM3, (g4.own bL hL3 mo_lst).1, g4.hh _ _ hL3, rs.mn g4.bb, by rw [htk]; exact pc.old hsub m⟩
    · rintro ⟨x3, x6, ks, pcs, vs, rfl, g0, sb, bM, hM3, bL, hL3, rs, pc⟩
      rw [List.take_length] at pc
      refine s_ret (D := { nx := _, rt := _ }) (evx 5 rfl) s3 fun u2 B4 H4 g4 e => ?_
      cases e
      have bL4 := (g4.own bL hL3 mo_lst).1
      exact k _ _ _ ((g0.trans g4).settle nL0 bL4 (g4.hh _ _ hL3)) ⟨pcs, pc.fin, L, vs, rfl, upd_same, rs.mn (g4.bb.trans (same_new bL4))⟩
end
end Lw
/-! Mb: pieces_left, touch, fits_chosen. -/
namespace Lw
open PySem PySem.Spec PyProof.Rows L2
/-- two sets of standings touch -/
def Tch (ps : List (Nat × Nat)) (a b : List Nat) : Prop := ∃ x ∈ a, ∃ y ∈ b, Adj ps x y
/-- the rows of what is left -/
structure LeftOk (ps : List (Nat × Nat)) (told : List (List Nat)) (lost : List Nat) (rows : List (List (List Nat))) : Prop where
  len : rows.length = told.length
  pcs : ∀ (i : Nat) l r, told[i]? = some l → rows[i]? = some r → PcsOk ps (l.filter fun s => !decide (s ∈ lost)) r
section
variable {P : Program} {w : World} {K : PySem.W.Frag} {mg : Str → Option Value} {base : Heap}
variable {B H B0 H0 B1 H1 B2 H2 B' H' : Hp} {σ : Slo} {te ta tb tl td tv : TE} {a C CB dx d : Addr} {b : Bool} {x v : V} {m n i j : Nat} {fs : List (Str × V)} {f kf : Str} {PV : VP} {ps : List (Nat × Nat)}
/-- [f x y for x in xs for y in ys x] -/
theorem em_lc2 {α β : Type} {R : α → VP} {R1 : β → VP} {xs : List α} [∀ x, Mn (R x)] [∀ x, Mn (R1 x)] {wi wi1 : TI} {i0 i1 : Nat} {ws ws1 : List Nat} (hi : EvI wi σ B H R xs) (ys : α → List β) (f : α → β → V)
    (hl : (xs.flatMap fun x => (ys x).map (f x)).length ≤ 900000) (hw0 : ∀ v, wipe ((wipe σ ws).set i0 (some v)) ws = wipe σ ws)
    (hw1 : ∀ v u, wipe ((wipe ((wipe σ ws).set i0 (some v)) ws1).set i1 (some u)) ws1 = wipe ((wipe σ ws).set i0 (some v)) ws1)
    (h1 : ∀ x v B' H', x ∈ xs → Gr B H B' H' → R x v B' → EvI wi1 ((wipe σ ws).set i0 (some v)) B' H' R1 (ys x))
    (h2 : ∀ x v y u B' H', x ∈ xs → y ∈ ys x → Gr B H B' H' → R x v B' → R1 y u B' → Ev te ((wipe ((wipe σ ws).set i0 (some v)) ws1).set i1 (some u)) B' H' (RX (f x y))) :
    EvM (tLc2 wi (gName i0) tYes wi1 (gName i1) tYes te ws ws1) σ B H (fun vs _ => vs = xs.flatMap fun x => (ys x).map (f x)) := fun B1 H1 g1 Q k => by
  refine hi B1 H1 g1 _ fun J B2 H2 vs g2 r w => fun D hD => ?_
  have hB2 : B2 D = none := none_of_same g2.sub hD
  have hacc : ∀ i x, xs[i]? = some x → ((xs.take (i + 1)).flatMap fun x => (ys x).map (f x)) = ((xs.take i).flatMap fun x => (ys x).map (f x)) ++ (ys x).map (f x) := fun i x hx => by
    rw [List.take_add_one, hx, List.flatMap_append]; simp
  have hle : ∀ i, ((xs.take i).flatMap fun x => (ys x).map (f x)).length ≤ (xs.flatMap fun x => (ys x).map (f x)).length := fun i => by
    have e : xs = xs.take i ++ xs.drop i := (List.take_append_drop i xs).symm
    conv => rhs; rw [e, List.flatMap_append, List.length_append]
    omega
  refine ⟨fun i m H' => m = xs.length - i ∧ i ≤ xs.length ∧ ∃ B', Gr B2 H2 B' H' ∧ B' D = none ∧ H' D = some (.lst ((xs.take i).flatMap fun x => (ys x).map (f x))), ⟨xs.length, by simp, Nat.zero_le _, B2, Gr.newM g2.sub hD, hB2, upd_same⟩, ?_⟩
  rintro i m H' ⟨rfl, hle', B', g', bD, hd⟩
  have G := g'.bb.trans g'.sub
  by_cases hlt : i < xs.length
  · refine .inr ⟨w.goes i H' hlt G, fun H'' => ∃ B3, Gr B2 H2 B3 H'' ∧ B3 D = none ∧ H'' D = some (.lst ((xs.take (i + 1)).flatMap fun x => (ys x).map (f x))), ?_, fun x H'' y => ?_⟩
    · rintro H'' ⟨B3, h1, h2, h3⟩
      exact ⟨xs.length - (i + 1), by omega, rfl, hlt, B3, h1, h2, h3⟩
    · obtain ⟨e, hx⟩ := w.yields i H' x H'' hlt G y
      subst e
      obtain ⟨z, hz, rz⟩ := (r.mn g'.bb).at hx
      have hzm := List.mem_of_getElem? hz
      refine ⟨hw0 x, ?_⟩
      dsimp only [tYes]
      rw [if_pos rfl]
      have g01 : Gr B H B' H'' := (g1.trans g2).trans g'
      refine h1 z x B' H'' hzm g01 rz B' H'' (Gr.refl g'.sub) _ fun J1 B3 H3 us g3 r1 w1 => ?_
      have gz := g'.trans g3
      obtain ⟨bD3, hd3⟩ := g3.own bD hd mo_lst
      refine ⟨fun j m H' => m = (ys z).length - j ∧ j ≤ (ys z).length ∧ ∃ B', Gr B2 H2 B' H' ∧ Same B3 B' ∧ B' D = none ∧ H' D = some (.lst (((xs.take i).flatMap fun x => (ys x).map (f x)) ++ ((ys z).take j).map (f z))), ⟨(ys z).length, by simp, Nat.zero_le _, B3, gz, Same.refl _, bD3, by simp [hd3]⟩, ?_⟩
      rintro j m H4 ⟨rfl, hj, B4, g4, s4, bD4, hd4⟩
      have G4 := s4.trans g4.sub
      by_cases hjl : j < (ys z).length
      · refine .inr ⟨w1.goes j H4 hjl G4, fun H5 => ∃ B5, Gr B2 H2 B5 H5 ∧ Same B3 B5 ∧ B5 D = none ∧ H5 D = some (.lst (((xs.take i).flatMap fun x => (ys x).map (f x)) ++ ((ys z).take (j + 1)).map (f z))), ?_, fun u H5 yy => ?_⟩
        · rintro H5 ⟨B5, h1, h2, h3, h4⟩
          exact ⟨(ys z).length - (j + 1), by omega, rfl, hjl, B5, h1, h2, h3, h4⟩
        · obtain ⟨e, hu⟩ := w1.yields j H4 u H5 hjl G4 yy
          subst e
          obtain ⟨t, ht, rt⟩ := (r1.mn s4).at hu
          refine ⟨hw1 x u, ?_⟩
          dsimp only [tYes]
          rw [if_pos rfl]
          have rz4 : R z x B4 := Mn.mn (g3.bb.trans s4) rz
          refine h2 z x t u B4 H5 hzm (List.mem_of_getElem? ht) ((g1.trans g2).trans g4) rz4 rt B4 H5 (Gr.refl g4.sub) _ fun yv B6 H6 g6 e6 => ?_
          cases e6
          obtain ⟨bD6, hd6⟩ := g6.own bD4 hd4 mo_lst
          have hcat : (((xs.take i).flatMap fun x => (ys x).map (f x)) ++ ((ys z).take j).map (f z)) ++ [f z t] = ((xs.take i).flatMap fun x => (ys x).map (f x)) ++ ((ys z).take (j + 1)).map (f z) := by
            rw [List.append_assoc, List.take_add_one, ht, List.map_append]; rfl
          refine ⟨_, hd6, ?_, B6, (g4.trans g6).put hD bD6, s4.trans g6.bb, bD6, by rw [upd_same, hcat]⟩
          have h5 := hacc i z hz
          have h6 := hle (i + 1)
          rw [h5, List.length_append, List.length_map] at h6
          rw [List.length_append, List.length_map, List.length_take]
          exact szl (by omega)
      · have e : j = (ys z).length := by omega
        subst e
        refine .inl ⟨w1.stops H4 G4, B4, g4, bD4, ?_⟩
        rw [hd4, List.take_length, hacc i z hz]
  · have e : i = xs.length := by omega
    subst e
    rw [List.take_length] at hd
    exact .inl ⟨w.stops H' G, k D _ B' H' (g2.trans g') (g2.hh.free hD) bD hd rfl⟩
/-! ### a hot web, its rows known -/
def WebR (C : Addr) (n : Nat) (ps : List (Nat × Nat)) (rows : List (List Nat)) : VP := fun v B => ∃ d l, WebO C n ps d v B ∧ B d = some (.dK [(.inr "beside", l)]) ∧ RowsOk n ps rows ∧ LO (fun r => IT r) rows l B
instance {rows : List (List Nat)} : Mn (WebR C n ps rows) := ⟨fun s ⟨d, l, h, k, r, q⟩ => ⟨d, l, Mn.mn s h, s _ _ k, r, Mn.mn s q⟩⟩
theorem WebH.rows (h : WebH C n ps v B) : ∃ rows, RowsOk n ps rows ∧ WebR C n ps rows v B := by
  obtain ⟨d, h, l, rows, k, r, q⟩ := h
  exact ⟨rows, r, d, l, h, k, r, q⟩
theorem ev_besideR {E : XK} {rows : List (List Nat)} (h : Ev te σ B H (RX v)) (hw : WebR C n ps rows v B) (hps : PsOk n ps) (hn : n ≤ 30) : Ev (tCall (spBeside C) [] E (tCons te tNil)) σ B H (LO (fun r => IT r) rows) := fun B1 H1 g1 Q k =>
  (ea_x h ea_nil) B1 H1 g1 _ fun vs B2 H2 g2 e => by
    cases e
    obtain ⟨d, l, ho, hd, hro, hl⟩ := hw
    have s2 := g1.bb.trans g2.bb
    refine ⟨B2, d, n, ps, v, rfl, Mn.mn s2 ho, hps, hps.le1000 hn, by omega, g2.sub, .inr ⟨l, rows, s2 _ _ hd, hro, Mn.mn s2 hl⟩, fun u B' H' rows' g3 hd' _ _ => ?_⟩
    rw [offd_hot g2.sub (s2 _ _ hd)] at g3
    have e : u = l := by
      have h1 := g3.bb _ _ (s2 _ _ hd)
      rw [h1] at hd'
      have h2 := Option.some.inj hd'
      injection h2 with h2
      have h3 := (List.cons.inj h2).1
      exact (Prod.mk.inj h3).2.symm
    subst e
    exact k u B' H' (g2.trans g3) (Mn.mn (s2.trans g3.bb) hl)
/-! ### pieces_left -/
abbrev spLeft (C : Addr) : Sp := Pr fun vs B P => ∃ v u lo n ps told lost, vs = [v, u, lo] ∧ WebH C n ps v B ∧ TO (fun l => IT l) told u B ∧ IT lost lo B ∧ PsOk n ps ∧ n ≤ 30 ∧ (∀ l ∈ told, LandOk n l) ∧ told.length ≤ 1000 ∧ P = fun w B' => ∃ rows, LeftOk ps told lost rows ∧ TO (fun r => LO (fun p => IT p) r) rows w B'
theorem sc_pieces_left : FnScope ["web", "told", "lost", "found", "part", "standing"] ["web", "told", "lost"] (defScope (tp 37)) := ⟨rfl, rfl, rfl, by decide +kernel, rfl, by decide +kernel, by decide +kernel⟩
theorem ok_pieces_left (D : Dn K mg "pieces_left" "pieces_left" (tp 37)) (T : Tx mg) (c_pieces_of : Cal P w K mg base 3 "pieces_of" (spPieces C)) : Cal P w K mg base 4 "pieces_left" (spLeft C) := by
  refine cal_of D sc_pieces_left (fun _ _ _ _ _ _ us hl => match us, hl with | [_, _, _], _ => rfl) (fun vs H Q E h => ?_) (fun cdv A outer s f H vs Q E hr h => ?_)
  · obtain ⟨B, P, s, ⟨v, u, lo, n, ps, told, lost, rfl, _⟩, _⟩ := h
    rfl
  · obtain ⟨B0, P, s0, ⟨v, u, lo, n, ps, told, lost, rfl, hw, hu, hlo, hps, hn, hok, htl, rfl⟩, k⟩ := h
    refine ⟨_, (pss_cons (ps_set (i := 3) sc_pieces_left.nd rfl (.inl rfl) (pe_lst pa_nil))
      (pss_cons (ps_for PassesOwn.never rfl (piT K (pv 1)) (pg_name (i := 4) sc_pieces_left.nd rfl (.inl rfl))
        (pss_one (ps_expr (bmK K PySem.F.plainAttrs_list PySem.F.slot_list_append PySem.F.type_list_append mt_append (pv 3) (pa_cons (pe_k c_pieces_of hr (by decide) rfl (pa_cons (pv 0) (pa_cons (pe_lc (own := [("standing", 5)]) rfl sc_pieces_left.nd (piT K (pv 4)) (blkOk_by (by kernel_rfl)) (fun _ _ _ _ _ => (pg_name (i := 5) sc_pieces_left.nd rfl (.inl rfl))) (fun _ _ _ _ _ => (pts_one (pt_cmpR (notInS K) (pv 5) (pv 2) rfl))) (fun _ _ _ _ _ => (pv 5))) pa_nil))) pa_nil)))))
      (pss_one (ps_ret (pe_callTy (tupOf K) (by rfl) T.tuple (by decide +kernel) (pa_cons (pv 3) pa_nil)))))), ?_⟩
    refine s_asgM (D := { nx := _, rt := _ }) (em_lst (xs := []) ea_nil) s0 fun L vs B1 H1 g1 nL bL hL e => ?_
    cases e
    refine s_for (D := { nx := _, rt := _ }) (ei_tup (ev_var 1 rfl (Mn.mn g1.bb hu))) g1.sub (fun i σ B' H' => ∃ x4 x5 rows vs, σ = [some v, some u, some lo, some (.ref L), x4, x5] ∧ Gr B0 H B' H' ∧ B' L = none ∧ H' L = some (.lst vs) ∧ Rs (fun r => LO (fun p => IT p) r) rows vs B' ∧ LeftOk ps (told.take i) lost rows)
      (fun B' H' g => ?_) (fun i l lv σ B' H' hi s2 => ?_) (fun σ B' H' s2 => ?_)
    · refine ⟨_, _, [], [], rfl, g1.trans g, (g.own bL hL mo_lst).1, g.hh _ _ hL, True.intro, ⟨by simp, fun i l r h => ?_⟩⟩
      rw [List.take_zero] at h; simp at h
    · rintro ⟨x4, x5, rows, vs, rfl, g0, b, h, rs, lk⟩ hlv
      have lo' := hok l (List.mem_of_getElem? hi)
      have hll := lo'.len
      have hilt := (List.getElem?_eq_some_iff.mp hi).1
      have hil : (told.take i).length = i := by
        rw [List.length_take]; omega
      refine s_app (P := fun w B' => ∃ pcs, PcsOk ps (l.filter fun s => !decide (s ∈ lost)) pcs ∧ LO (fun p => IT p) pcs w B') (evx 3 rfl) (ev_call (ea_c (P := WebH C n ps) (ev_var 0 rfl (Mn.mn g0.bb hw)) (ea_c (P := IL (l.filter fun s => !decide (s ∈ lost))) ?_ ea_nil)) fun vs B3 s3 hvs => ?_) s2 h (by rw [rs.len, lk.len, hil]; omega) fun v3 B3 H3 g3 h3 p3 => ?_
      · refine (em_lcN (R := fun s => RX (vn s)) (R' := fun s => RX (vn s)) (ei_VT (f := vn) (ev_var (P := IT l) 4 rfl hlv)) (fun s => !decide (s ∈ lost)) id (by omega) (fun _ => rfl) fun s sv B3 H3 hm g3 hsv => ⟨?_, fun _ => ?_⟩).vals.vl.imp fun v B' _ h => by rw [List.map_id] at h; exact h
        · cases hsv
          exact et_val ((ev_inT (neg := true) (evx 5 rfl) (ev_var 2 rfl (Mn.mn (g0.bb.trans g3.bb) hlo)) rfl (flat_vn _)).eq (by rw [inV_vn]; rfl))
        · cases hsv
          exact evx 5 rfl
      · obtain ⟨v', _, rfl, hv', u', _, rfl, hu', rfl⟩ := hvs
        exact ⟨v', u', n, ps, _, rfl, hv', hu', hps, hn, fun s hs => lo'.lt s (List.mem_filter.mp hs).1, lo'.nd.filter _, rfl⟩
      · obtain ⟨pcs, hpc, hv3⟩ := p3
        have b3 := (g3.own b h mo_lst).1
        have gg := (g0.trans g3).put (o := .lst (vs ++ [v3])) nL b3
        refine ⟨B3, g3.bb, gg.sub, _, _, rows ++ [pcs], vs ++ [v3], rfl, gg, b3, upd_same, (rs.mn g3.bb).app (Rs.one hv3), ?_⟩
        have htk : told.take (i + 1) = told.take i ++ [l] := by rw [List.take_add_one, hi]; rfl
        refine ⟨by rw [htk, List.length_append, List.length_append, lk.len]; rfl, fun j l' r h1 h2 => ?_⟩
        rw [htk] at h1
        by_cases hj : j < (told.take i).length
        · rw [List.getElem?_append_left hj] at h1
          rw [List.getElem?_append_left (by rw [lk.len]; exact hj)] at h2
          exact lk.pcs j l' r h1 h2
        · rw [List.getElem?_append_right (by omega)] at h1
          rw [List.getElem?_append_right (by rw [lk.len]; omega), lk.len] at h2
          by_cases hz : j - (told.take i).length = 0
          · rw [hz] at h1 h2
            simp at h1 h2
            subst h1 h2
            exact hpc
          · rw [List.getElem?_eq_none (by simp; omega)] at h1; cases h1
    · rintro ⟨x4, x5, rows, vs, rfl, g0, b, h, rs, lk⟩
      rw [List.take_length] at lk
      have g2 := g0.settle nL b h
      refine s_ret (D := { nx := _, rt := _ }) (ev_tupOfLO (R := fun r => LO (fun p => IT p) r) (xs := rows) (ev_var (v := .ref L) (B := upd B' L (.lst vs)) 3 rfl ⟨L, vs, rfl, upd_same, rs.mn (same_new b)⟩)) g2.sub fun u2 B3 H3 g3 hu2 => ?_
      exact k _ _ _ (g2.trans g3) ⟨rows, lk, hu2⟩
/-! ### touch -/
def tchB (rows : List (List Nat)) (a b : List Nat) : Bool := (a.flatMap fun s => (rows.getD s []).map fun t => decide (t ∈ insAll b)).any id
theorem tchB_iff {rows : List (List Nat)} (hro : RowsOk n ps rows) {a b : List Nat} (ha : ∀ s ∈ a, s < n) : tchB rows a b = true ↔ Tch ps a b := by
  unfold tchB Tch
  rw [List.any_eq_true]
  constructor
  · rintro ⟨b', h, e⟩
    obtain ⟨s, hs, h⟩ := List.mem_flatMap.mp h
    obtain ⟨t, ht, rfl⟩ := List.mem_map.mp h
    obtain ⟨r, hr, _, hm, _⟩ := hro.at (ha s hs)
    rw [List.getD_eq_getElem?_getD, hr] at ht
    exact ⟨s, hs, t, mem_insAll.mp (of_decide_eq_true e), (hm t).mp ht⟩
  · rintro ⟨s, hs, t, ht, e⟩
    obtain ⟨r, hr, _, hm, _⟩ := hro.at (ha s hs)
    refine ⟨true, List.mem_flatMap.mpr ⟨s, hs, List.mem_map.mpr ⟨t, ?_, decide_eq_true (mem_insAll.mpr ht)⟩⟩, rfl⟩
    rw [List.getD_eq_getElem?_getD, hr]; exact (hm t).mpr e
abbrev spTouch (C : Addr) : Sp := Pr fun vs B P => ∃ v u t n ps a b, vs = [v, u, t] ∧ WebH C n ps v B ∧ IT a u B ∧ IT b t B ∧ PsOk n ps ∧ n ≤ 30 ∧ (∀ s ∈ a, s < n) ∧ a.length ≤ 30 ∧ b.length ≤ 30 ∧ P = fun w _ => ∃ c : Bool, w = .bl c ∧ (c = true ↔ Tch ps a b)
theorem sc_touch : FnScope ["web", "one", "other", "inside", "standing", "there"] ["web", "one", "other"] (defScope (tp 38)) := ⟨rfl, rfl, rfl, by decide +kernel, rfl, by decide +kernel, by decide +kernel⟩
theorem ok_touch (D : Dn K mg "touch" "touch" (tp 38)) (T : Tx mg) (c_beside_of : Cal P w K mg base 2 "beside_of" (spBeside C)) : Cal P w K mg base 3 "touch" (spTouch C) := by
  refine cal_of D sc_touch (fun _ _ _ _ _ _ us hl => match us, hl with | [_, _, _], _ => rfl) (fun vs H Q E h => ?_) (fun cdv A outer s f H vs Q E hr h => ?_)
  · obtain ⟨B, P, s, ⟨v, u, t, n, ps, a, b, rfl, _⟩, _⟩ := h
    rfl
  · obtain ⟨B0, P, s0, ⟨v, u, t, n, ps, a, b, rfl, hw, hu, ht, hps, hn, ha, hal, hbl, rfl⟩, k⟩ := h
    refine ⟨_, (pss_cons (ps_set (i := 3) sc_touch.nd rfl (.inr rfl) (pe_dc (own := [("standing", 4)]) rfl sc_touch.nd (piT K (pv 2)) (blkOk_by (by kernel_rfl)) (fun _ _ _ _ _ => (pg_name (i := 4) sc_touch.nd rfl (.inl rfl))) (fun _ _ _ _ _ => pts_nil) (fun _ _ _ _ _ => (pv 4)) (fun _ _ _ _ _ => pe_bl)))
      (pss_one (ps_ret (pe_callB (anyK K rfl) (by rfl) T.any (by decide +kernel) (pa_cons (pe_lc2 (vs1 := [5]) (own := [("standing", 4), ("there", 5)]) rfl sc_touch.nd (piT K (pv 1)) (blkOk_by (by kernel_rfl)) (by decide) (fun _ _ _ _ _ => (pg_name (i := 4) sc_touch.nd rfl (.inl rfl))) (fun _ _ _ _ _ => pts_nil) (fun _ _ _ _ _ => (piT K (pe_ix (ixL K) (pe_k c_beside_of hr (by decide) rfl (pa_cons (pv 0) pa_nil)) (pv 4) (fun _ _ => rfl)))) (fun _ _ _ _ _ => (pg_name (i := 5) sc_touch.nd rfl (.inl rfl))) (fun _ _ _ _ _ => pts_nil) (fun _ _ _ _ _ => (pe_cmp (pc_din (hu_of hr) (pv 5) (pv 3)) rfl))) pa_nil))))), ?_⟩
    obtain ⟨rows, hro, hwr⟩ := hw.rows
    refine s_asg (D := { nx := _, rt := _ }) (ev_dc (ei_VT (f := vn) (ev_var 2 rfl ht)) (by omega) (fun _ => rfl) (fun _ => rfl)) s0 fun di B1 H1 g1 hdi => ?_
    have hlen : (a.flatMap fun s => (rows.getD s []).map fun t => V.bl (decide (t ∈ insAll b))).length ≤ 900000 := by
      have h2 := hps.le1000 hn
      have : ∀ (l : List Nat), (∀ s ∈ l, s < n) → (l.flatMap fun s => (rows.getD s []).map fun t => V.bl (decide (t ∈ insAll b))).length ≤ l.length * (2 * ps.length) := by
        intro l
        induction l with
        | nil => intro _; simp
        | cons s l ih =>
          intro hs
          obtain ⟨r, hr, _, _, hsh⟩ := hro.at (hs s (List.mem_cons_self ..))
          rw [List.flatMap_cons, List.length_append, List.length_map, List.length_cons, List.getD_eq_getElem?_getD, hr, Nat.succ_mul]
          have := ih fun x hx => hs x (List.mem_cons_of_mem _ hx)
          simp only [Option.getD_some]
          omega
      have h3 := this a ha
      have h4 : a.length * (2 * ps.length) ≤ 30 * 2000 := Nat.mul_le_mul hal (by omega)
      omega
    refine s_ret (D := { nx := _, rt := _ }) (P := RX (.bl (tchB rows a b))) (ev_any (bs := a.flatMap fun s => (rows.getD s []).map fun t => decide (t ∈ insAll b)) (((em_lc2 (R := fun s => RX (vn s)) (R1 := fun s => RX (vn s)) (ei_VT (f := vn) (ev_var 1 rfl (Mn.mn g1.bb hu))) (fun s => rows.getD s []) (fun s t => .bl (decide (t ∈ insAll b))) hlen (fun _ => rfl) (fun _ _ => rfl) (fun s sv B' H' hm g hsv => ?_) (fun s sv t tv B' H' hm1 hm2 g hsv htv => ?_)).vl).imp fun w B' _ h => ?_)) g1.sub fun w B' H' g e => ?_
    · cases hsv
      obtain ⟨r, hr, _, _, _⟩ := hro.at (ha s hm)
      rw [List.getD_eq_getElem?_getD, hr]
      exact ei_tup ((ev_ixL (R := fun r => IT r) (ev_besideR (evx 0 rfl) (Mn.mn (g1.bb.trans g.bb) hwr) hps hn) (evx 4 rfl) hr).imp fun v B' _ h => VT.to h)
    · cases hsv; cases htv
      exact ev_inD (evx 5 rfl) (ev_var 3 rfl (Mn.mn g.bb hdi))
    · obtain ⟨aw, e, hw'⟩ := h
      refine ⟨aw, e, ?_⟩
      rw [hw', List.map_flatMap]
      simp only [List.map_map]
      rfl
    · cases e
      exact k _ _ _ (g1.trans g) ⟨_, rfl, tchB_iff hro ha⟩
end
end Lw
/-! Mc: fits_chosen, chosen_pieces. -/
namespace Lw
open PySem PySem.Spec PyProof.Rows L2
/-! ### plain: choosing one piece of each row -/
def FitP (ps ts : List (Nat × Nat)) (ch : List (List Nat)) (p : List Nat) : Prop := ∀ t ∈ ts, t.2 = ch.length → ∀ a, ch[t.1]? = some a → Tch ps a p
structure Part (ps ts : List (Nat × Nat)) (rows : List (List (List Nat))) (ch : List (List Nat)) : Prop where
  le : ch.length ≤ rows.length
  mem : ∀ (k : Nat) p, ch[k]? = some p → ∃ r, rows[k]? = some r ∧ p ∈ r
  fit : ∀ (k : Nat) p, ch[k]? = some p → FitP ps ts (ch.take k) p
def Choice (ps ts : List (Nat × Nat)) (rows : List (List (List Nat))) : Prop := ∃ ch, ch.length = rows.length ∧ Part ps ts rows ch
def wt : List (List (List Nat)) → Nat
  | [] => 1
  | r :: rs => (1 + r.length) * wt rs
theorem wt_pos : ∀ rows, 1 ≤ wt rows
  | [] => Nat.le_refl _
  | r :: rs => Nat.mul_pos (by omega) (wt_pos rs)
def wts (rows : List (List (List Nat))) (st : List (List (List Nat))) : Nat := (st.map fun ch => wt (rows.drop ch.length)).sum
theorem wts_len (rows st : List (List (List Nat))) : st.length ≤ wts rows st := by
  unfold wts
  induction st with
  | nil => exact Nat.zero_le _
  | cons c st ih =>
    rw [List.map_cons, List.sum_cons, List.length_cons]
    have := wt_pos (rows.drop c.length)
    omega
section
variable {ps ts : List (Nat × Nat)} {rows st st' : List (List (List Nat))} {ch full : List (List Nat)} {p : List Nat} {r : List (List Nat)}
theorem Part.nil : Part ps ts rows [] := ⟨Nat.zero_le _, fun k p h => by simp at h, fun k p h => by simp at h⟩
theorem Part.snoc (h : Part ps ts rows ch) (hr : rows[ch.length]? = some r) (hp : p ∈ r) (hf : FitP ps ts ch p) : Part ps ts rows (ch ++ [p]) := by
  have hlt := (List.getElem?_eq_some_iff.mp hr).1
  refine ⟨by rw [List.length_append]; simp; omega, fun k q hq => ?_, fun k q hq => ?_⟩
  · by_cases hk : k < ch.length
    · rw [List.getElem?_append_left hk] at hq; exact h.mem k q hq
    · rw [List.getElem?_append_right (by omega)] at hq
      by_cases hz : k - ch.length = 0
      · rw [hz] at hq; simp at hq; subst hq
        have : k = ch.length := by omega
        subst this
        exact ⟨r, hr, hp⟩
      · rw [List.getElem?_eq_none (by simp; omega)] at hq; cases hq
  · by_cases hk : k < ch.length
    · rw [List.getElem?_append_left hk] at hq
      rw [List.take_append_of_le_length (by omega)]
      exact h.fit k q hq
    · rw [List.getElem?_append_right (by omega)] at hq
      by_cases hz : k - ch.length = 0
      · rw [hz] at hq; simp at hq; subst hq
        have : k = ch.length := by omega
        subst this
        rw [List.take_left]
        exact hf
      · rw [List.getElem?_eq_none (by simp; omega)] at hq; cases hq
/-- a search's stack: parts of choices; any choice extends one of them -/
structure Stk (ps ts : List (Nat × Nat)) (rows st : List (List (List Nat))) : Prop where
  part : ∀ ch ∈ st, Part ps ts rows ch
  all : ∀ full, full.length = rows.length → Part ps ts rows full → ∃ ch ∈ st, full.take ch.length = ch
theorem Stk.start : Stk ps ts rows [[]] := ⟨fun ch h => by rw [List.mem_singleton.mp h]; exact Part.nil, fun full _ _ => ⟨[], by simp, by simp⟩⟩
theorem Stk.none (h : Stk ps ts rows []) : ¬ Choice ps ts rows := fun ⟨full, hl, hp⟩ => by
  obtain ⟨ch, m, _⟩ := h.all full hl hp
  simp at m
open Classical in
theorem Stk.step (h : Stk ps ts rows (st ++ [ch])) (hr : rows[ch.length]? = some r) : Stk ps ts rows (st ++ ((r.filter fun p => decide (FitP ps ts ch p)).reverse.map fun p => ch ++ [p])) := by
  have hlt := (List.getElem?_eq_some_iff.mp hr).1
  have hc := h.part ch (by simp)
  refine ⟨fun c hm => ?_, fun full hl hp => ?_⟩
  · rcases List.mem_append.mp hm with hm | hm
    · exact h.part c (by simp [hm])
    · obtain ⟨p, hp, rfl⟩ := List.mem_map.mp hm
      have hp := List.mem_filter.mp (List.mem_reverse.mp hp)
      exact hc.snoc hr hp.1 (of_decide_eq_true hp.2)
  · obtain ⟨c, hm, e⟩ := h.all full hl hp
    rcases List.mem_append.mp hm with hm | hm
    · exact ⟨c, by simp [hm], e⟩
    · rw [List.mem_singleton.mp hm] at e
      have hq : full[ch.length]? = some (full[ch.length]'(by omega)) := List.getElem?_eq_getElem _
      generalize full[ch.length]'(by omega) = q at hq
      obtain ⟨r', h1, h2⟩ := hp.mem _ _ hq
      rw [hr] at h1; cases h1
      have hf := hp.fit _ _ hq
      rw [e] at hf
      refine ⟨ch ++ [q], List.mem_append.mpr (.inr (List.mem_map.mpr ⟨q, List.mem_reverse.mpr (List.mem_filter.mpr ⟨h2, decide_eq_true hf⟩), rfl⟩)), ?_⟩
      rw [List.length_append, List.length_singleton, List.take_add_one, e, hq]; rfl
theorem wts_step {f : List (List Nat)} (hr : rows[ch.length]? = some r) (hf : f.length ≤ r.length) : wts rows (st ++ (f.map fun p => ch ++ [p])) < wts rows (st ++ [ch]) := by
  have hlt := (List.getElem?_eq_some_iff.mp hr).1
  unfold wts
  rw [List.map_append, List.sum_append, List.map_append, List.sum_append, List.map_map]
  have e1 : rows.drop ch.length = r :: rows.drop (ch.length + 1) := by
    rw [List.drop_eq_getElem_cons hlt]
    rw [List.getElem?_eq_getElem hlt] at hr
    rw [Option.some.inj hr]
  have h1 : (f.map ((fun ch => wt (rows.drop ch.length)) ∘ fun p => ch ++ [p])).sum = f.length * wt (rows.drop (ch.length + 1)) := by
    clear hf
    induction f with
    | nil => simp
    | cons p f ih =>
      rw [List.map_cons, List.sum_cons, ih, List.length_cons, Nat.succ_mul]
      show wt (rows.drop (ch ++ [p]).length) + _ = _
      rw [List.length_append, List.length_singleton]
      omega
  have h2 : ([ch].map fun ch => wt (rows.drop ch.length)).sum = (1 + r.length) * wt (rows.drop (ch.length + 1)) := by
    simp only [List.map_cons, List.map_nil, List.sum_cons, List.sum_nil, Nat.add_zero]
    rw [e1]; rfl
  rw [h1, h2]
  have := wt_pos (rows.drop (ch.length + 1))
  have h3 := Nat.mul_le_mul_right (wt (rows.drop (ch.length + 1))) hf
  rw [Nat.add_mul]
  omega
end
section
variable {P : Program} {w : World} {K : PySem.W.Frag} {mg : Str → Option Value} {base : Heap}
variable {B H B0 H0 B1 H1 B2 H2 B' H' : Hp} {σ : Slo} {te ta tb tl td tv : TE} {a C CB dx d : Addr} {b : Bool} {x v : V} {m n i j : Nat} {fs : List (Str × V)} {f kf : Str} {PV : VP} {ps : List (Nat × Nat)}
theorem Rs.front {α : Type} {R : α → VP} : ∀ {xs ys : List α} {vs us : List V}, vs.length = xs.length → Rs R (xs ++ ys) (vs ++ us) H → Rs R xs vs H
  | [], _, [], _, _, _ => True.intro
  | x :: xs, _, v :: vs, _, e, ⟨h, t⟩ => ⟨h, Rs.front (by simpa using e) t⟩
/-! ### truth by a proposition -/
def BT (T : Prop) : VP := fun v _ => ∃ c : Bool, v = .bl c ∧ (c = true ↔ T)
instance {T : Prop} : Mn (BT T) := ⟨fun _ h => h⟩
open Classical in
theorem bt_dec {T : Prop} {c : Bool} (h : c = true ↔ T) : c = decide T := by
  by_cases t : T
  · rw [decide_eq_true t]; exact h.mpr t
  · rw [decide_eq_false t]
    cases c with
    | true => exact absurd (h.mp rfl) t
    | false => rfl
open Classical in
theorem Ev.bt {T : Prop} (h : Ev te σ B H (BT T)) : Ev te σ B H (RX (.bl (decide T))) := h.imp fun v B' _ ⟨c, e, k⟩ => by rw [e, bt_dec k]; rfl
section
variable {α : Type} {R : α → VP} {xs ys : List α} [∀ x, Mn (R x)]
theorem rs_bt {T : α → Prop} : ∀ {xs : List α} {vs : List V}, Rs (fun o => BT (T o)) xs vs H → ∃ bs : List Bool, vs = bs.map V.bl ∧ (bs.all id = true ↔ ∀ o ∈ xs, T o)
  | [], [], _ => ⟨[], rfl, by simp⟩
  | x :: xs, v :: vs, ⟨⟨c, e, h⟩, t⟩ => by
    obtain ⟨bs, e2, h2⟩ := rs_bt t
    refine ⟨c :: bs, by rw [e, e2]; rfl, ?_⟩
    rw [List.all_cons, Bool.and_eq_true, h2]
    simp [h]
theorem ev_allBT {T : α → Prop} (h : Ev te σ B H (LO (fun o => BT (T o)) xs)) : Ev (tCB (rAll K) (tCons te tNil)) σ B H (BT (∀ o ∈ xs, T o)) :=
  ev_cb (ea_c h ea_nil) fun vs B' H' g ⟨v, ws, e, ⟨p, us, e1, hp, r⟩, e2⟩ Q q => by
    cases e2; subst e e1
    obtain ⟨bs, e3, h3⟩ := rs_bt r
    subst e3
    exact ⟨p, bs, rfl, SqL.of (g.sub _ _ hp), q _ B' H' (Gr.refl g.sub) ⟨_, rfl, h3⟩⟩
/-! ### tuples that grow -/
theorem ev_catT (ha : Ev ta σ B H (TO R xs)) (hb : Ev tb σ B H (TO R ys)) (hl : xs.length + ys.length ≤ 1000000) : Ev (tOp (rCatA K) ta tb) σ B H (TO R (xs ++ ys)) :=
  ev_opP ha hb fun x y B' H' g ⟨a, vs, e, ha, ra⟩ ⟨b, us, e', hb, rb⟩ Q q => by
    subst e e'
    have l1 := ra.len
    have l2 := rb.len
    refine ⟨a, b, vs, us, rfl, rfl, SqT.of (g.sub _ _ ha), SqT.of (g.sub _ _ hb), sz _ (by omega), fun h => ?_, fun h h' => ?_, fun h h' p hp => ?_⟩
    · have : xs = [] := List.eq_nil_of_length_eq_zero (by rw [← l1, h]; rfl)
      subst this
      exact q _ B' H' g.ok ⟨b, us, rfl, hb, rb⟩
    · have : ys = [] := List.eq_nil_of_length_eq_zero (by rw [← l2, h']; rfl)
      subst this
      exact q _ B' H' g.ok ⟨a, vs, rfl, ha, by rw [List.append_nil]; exact ra⟩
    · have n := none_of_same g.sub hp
      exact q _ (upd B' p (.tup (vs ++ us))) _ (Gr.new g.sub hp) ⟨p, _, rfl, upd_same, (ra.app rb).mn (same_new n)⟩
theorem ev_tup1 {x : α} (h : Ev te σ B H (R x)) : Ev (tTup (tCons te tNil)) σ B H (TO R [x]) :=
  (ev_tup (ea_c h ea_nil) (fun vs B' ⟨v, us, e, _, e2⟩ => by cases e2; subst e; show (1 : Nat) ≤ _; decide) (fun vs B B' s ⟨v, us, e, p, q⟩ => ⟨v, us, e, Mn.mn s p, q⟩)).imp fun v B' _ ⟨a, vs, e, ha, ⟨u, us, e1, p, e2⟩⟩ => by
    cases e2; subst e1
    exact ⟨a, _, e, ha, Rs.one p⟩
theorem ev_tup0 : Ev (tTup tNil) σ B H (TO R []) := (ev_tupx (xs := []) ea_nil).imp fun v B' _ ⟨a, e, h⟩ => ⟨a, [], e, h, True.intro⟩
theorem em_lst1 {x : α} (h : Ev te σ B H (R x)) : EvM (tLst (tCons te tNil)) σ B H (Rs R [x]) := fun B1 H1 g1 Q k =>
  h B1 H1 g1 _ fun v B2 H2 g p => ⟨by show (1 : Nat) ≤ _; decide, fun a n => k a [v] B2 _ (g.trans (Gr.newM g.sub n)) (g.hh.free n) (none_of_same g.sub n) upd_same (Rs.one p)⟩
end
theorem s_pop {D : Ends} {to : TE} {ws : List V} {y : V} (ho : Ev to σ B H (RX (.ref a))) (s : Same B H) (hl : H a = some (.lst (ws ++ [y]))) (k : ∀ B' H', Gr B H B' H' → H' a = some (.lst (ws ++ [y])) → D.nx (σ.set i (some y)) (upd H' a (.lst ws))) :
    tAsg (tBM0 K "list" (fun x vs H Q => ∃ l xs y, x = .ref l ∧ vs = [] ∧ H l = some (.lst xs) ∧ xs[xs.length - 1]? = some y ∧ Q y (upd H l (.lst xs.dropLast))) to) (gName i) D σ H :=
  pop_go (Q := fun v H' => D.nx (σ.set i (some v)) H') ho s hl k
/-- l.extend(e), e a list, l one's own -/
theorem s_ext {D : Ends} {to : TE} {α : Type} {R : α → VP} {xs : List α} {vs : List V} (ho : Ev to σ B H (RX (.ref a))) (he : Ev te σ B H (LO R xs)) (s : Same B H) (hl : H a = some (.lst vs)) (hz : vs.length + xs.length ≤ 1000000) (k : ∀ ws B' H', Gr B H B' H' → H' a = some (.lst vs) → Rs R xs ws B' → D.nx σ (upd H' a (.lst (vs ++ ws)))) :
    tDrop (tBM K "list" rExtend to (tCons te tNil)) D σ H :=
  ho.go s fun v1 B1 H1 g1 e1 => by
    cases e1
    refine ⟨.inl ⟨rfl, _, SqL.of (g1.hh _ _ hl)⟩, he B1 H1 g1 _ fun v2 B2 H2 g2 ⟨b, ws, e, hb, r⟩ => ?_⟩
    subst e
    exact ⟨a, b, vs, ws, rfl, rfl, g2.hh _ _ (g1.hh _ _ hl), g2.sub _ _ hb, sz _ (by rw [r.len]; exact hz), k ws B2 H2 (g1.trans g2) (g2.hh _ _ (g1.hh _ _ hl)) r⟩
/-! ### fits_chosen -/
def BkR (CB : Addr) (m : Nat) (ts : List (Nat × Nat)) : VP := fun v B => ∃ rows, RowsOk m ts rows ∧ BookV CB m ts rows v B
instance {ts : List (Nat × Nat)} : Mn (BkR CB m ts) := ⟨fun s ⟨rows, h, k⟩ => ⟨rows, h, Mn.mn s k⟩⟩
abbrev spFits (C CB : Addr) : Sp := Pr fun vs B P => ∃ v bk cu pu n ps m ts ch p, vs = [v, bk, cu, pu] ∧ WebH C n ps v B ∧ BkR CB m ts bk B ∧ TO (fun c => IT c) ch cu B ∧ IT p pu B ∧ PsOk n ps ∧ n ≤ 30 ∧ PsOk m ts ∧ m ≤ 8 ∧ ch.length < m ∧
  (∀ c ∈ ch, c.length ≤ 30 ∧ ∀ s ∈ c, s < n) ∧ p.length ≤ 30 ∧ P = BT (FitP ps ts ch p)
theorem sc_fits_chosen : FnScope ["web", "book", "chosen", "piece", "ahead", "other"] ["web", "book", "chosen", "piece"] (defScope (tp 39)) := ⟨rfl, rfl, rfl, by decide +kernel, rfl, by decide +kernel, by decide +kernel⟩
theorem ok_fits_chosen (D : Dn K mg "fits_chosen" "fits_chosen" (tp 39)) (T : Tx mg) (c_tied_of : Cal P w K mg base 1 "tied_of" (spTied CB)) (c_touch : Cal P w K mg base 3 "touch" (spTouch C)) : Cal P w K mg base 4 "fits_chosen" (spFits C CB) := by
  refine cal_of D sc_fits_chosen (fun _ _ _ _ _ _ us hl => match us, hl with | [_, _, _, _], _ => rfl) (fun vs H Q E h => ?_) (fun cdv A outer s f H vs Q E hr h => ?_)
  · obtain ⟨B, P, s, ⟨v, bk, cu, pu, n, ps, m, ts, ch, p, rfl, _⟩, _⟩ := h
    rfl
  · obtain ⟨B0, P, s0, ⟨v, bk, cu, pu, n, ps, m, ts, ch, p, rfl, hw, ⟨trows, htr, hbk⟩, hch, hp, hps, hn, hts, hm, hlt, hcs, hpl, rfl⟩, k⟩ := h
    refine ⟨_, (pss_cons (ps_setLc (i := 4) (own := [("other", 5)]) rfl sc_fits_chosen.nd rfl rfl (sw_true rfl rfl rfl (by decide +kernel)) (piT K (pe_ix (ixL K) (pe_k c_tied_of hr (by decide) rfl (pa_cons (pv 1) pa_nil)) (pe_callB (lenS K) (by rfl) T.len PySem.boot_len (pa_cons (pv 2) pa_nil)) (fun _ _ => rfl))) (blkOk_by (by kernel_rfl)) (fun _ _ _ _ _ => (pg_name (i := 5) sc_fits_chosen.nd rfl (.inl rfl))) (fun _ _ _ _ _ => (pts_one (pt_cmpR op_lt (pv 5) (pe_callB (lenS K) (by rfl) T.len PySem.boot_len (pa_cons (pv 2) pa_nil)) (nomark _)))) (fun _ _ _ _ _ => (pv 5)))
      (pss_one (ps_ret (pe_callB (allK K rfl) (by rfl) T.all (by decide +kernel) (pa_cons (pe_lc (own := [("other", 5)]) rfl sc_fits_chosen.nd (piL K (pv 4)) (blkOk_by (by kernel_rfl)) (fun _ _ _ _ _ => (pg_name (i := 5) sc_fits_chosen.nd rfl (.inl rfl))) (fun _ _ _ _ _ => pts_nil) (fun _ _ _ _ _ => (pe_k c_touch hr (by decide) rfl (pa_cons (pv 0) (pa_cons (pe_ix (ixT K) (pv 2) (pv 5) (fun _ _ => rfl)) (pa_cons (pv 3) pa_nil)))))) pa_nil))))), ?_⟩
    obtain ⟨tr, etr, _, htr', hsh⟩ := htr.at hlt
    have htl := hts.le28 hm
    refine s_asg (D := { nx := _, rt := _ }) (P := IL (tr.filter fun o => decide (o < ch.length))) ((em_lcN (R := fun s => RX (vn s)) (R' := fun s => RX (vn s)) (ei_tup ((ev_ixL (R := fun r => IT r) (ev_call (P := LO (fun r => IT r) trows) (ea_c (P := BookV CB m ts trows) (ev_var 1 rfl hbk) ea_nil) fun vs B' s' hvs => ?_) (ev_len (ev_var 2 rfl hch) (pn_TO rfl)) etr).imp fun v B' _ h => VT.to h)) (fun o => decide (o < ch.length)) id (by omega) (fun _ => rfl) fun o ov B' H' hm g hov => ⟨?_, fun _ => ?_⟩).vals.vl.imp fun v B' _ h => by rw [List.map_id] at h; exact h) s0 fun av B1 H1 g1 hav => ?_
    · obtain ⟨v', _, rfl, hv', rfl⟩ := hvs
      exact ⟨v', m, ts, trows, rfl, hv', rfl⟩
    · cases hov
      exact et_val (ev_ltN (evx 5 rfl) (ev_len (ev_var 2 rfl (Mn.mn g.bb hch)) (pn_TO rfl)))
    · cases hov
      exact evx 5 rfl
    · refine s_ret (D := { nx := _, rt := _ }) ((ev_allBT (T := fun o => Tch ps (ch.getD o []) p) (em_lcM (R := fun s => RX (vn s)) (R' := fun o => BT (Tch ps (ch.getD o []) p)) (ei_VL (f := vn) (ev_var 4 rfl hav)) id ?_ (fun _ => rfl) fun o ov B' H' hm g hov => ?_).lo)) g1.sub fun w B' H' g hb => ?_
      · have := List.length_filter_le (fun o => decide (o < ch.length)) tr
        omega
      · cases hov
        have ho : o < ch.length := of_decide_eq_true (List.mem_filter.mp hm).2
        have eo : ch[o]? = some (ch.getD o []) := by rw [List.getD_eq_getElem?_getD, List.getElem?_eq_getElem ho]; rfl
        have gg := g1.trans g
        refine ev_call (ea_c (P := WebH C n ps) (ev_var 0 rfl (Mn.mn gg.bb hw)) (ea_c (P := IT (ch.getD o [])) (ev_ixT (R := fun c => IT c) (ev_var 2 rfl (Mn.mn gg.bb hch)) (evx 5 rfl) eo) (ea_c (P := IT p) (ev_var 3 rfl (Mn.mn gg.bb hp)) ea_nil))) fun vs B' s' hvs => ?_
        obtain ⟨v', _, rfl, hv', u', _, rfl, hu', t', _, rfl, ht', rfl⟩ := hvs
        obtain ⟨hl, hs⟩ := hcs _ (List.mem_of_getElem? eo)
        exact ⟨v', u', t', n, ps, ch.getD o [], p, rfl, hv', hu', ht', hps, hn, hs, hl, hpl, rfl⟩
      · refine k w B' H' (g1.trans g) ?_
        obtain ⟨c, e, hc⟩ := hb
        refine ⟨c, e, hc.trans ?_⟩
        rw [List.map_id]
        constructor
        · intro h t ht e2 a ha
          have hl := (List.getElem?_eq_some_iff.mp ha).1
          have h1 := h t.1 (List.mem_filter.mpr ⟨(htr' t.1).mpr (.inr (by rw [← e2]; exact ht)), decide_eq_true hl⟩)
          rw [List.getD_eq_getElem?_getD, ha] at h1
          exact h1
        · intro h o ho
          obtain ⟨h1, h2⟩ := List.mem_filter.mp ho
          have h2 := of_decide_eq_true h2
          have eo : ch[o]? = some (ch.getD o []) := by rw [List.getD_eq_getElem?_getD, List.getElem?_eq_getElem h2]; rfl
          rcases (htr' o).mp h1 with h3 | h3
          · have := hts.lt _ h3; simp only at this; omega
          · exact h _ h3 rfl _ eo
/-! ### chosen_pieces -/
abbrev spChosen (C CB : Addr) : Sp := Pr fun vs B P => ∃ v bk ru n ps m ts rows, vs = [v, bk, ru] ∧ WebH C n ps v B ∧ BkR CB m ts bk B ∧ TO (fun r => LO (fun p => IT p) r) rows ru B ∧ PsOk n ps ∧ n ≤ 30 ∧ PsOk m ts ∧ m ≤ 8 ∧ rows.length = m ∧
  (∀ r ∈ rows, r.length ≤ 30 ∧ ∀ p ∈ r, p.length ≤ 30 ∧ ∀ s ∈ p, s < n) ∧ wt rows ≤ 70000 ∧ P = fun w B' => ∃ b : Bool, (b = true ↔ Choice ps ts rows) ∧ if b = true then ∃ a, w = .ref a else w = .non
theorem sc_chosen_pieces : FnScope ["web", "book", "rows", "waiting", "chosen", "fitting", "piece"] ["web", "book", "rows"] (defScope (tp 40)) := ⟨rfl, rfl, rfl, by decide +kernel, rfl, by decide +kernel, by decide +kernel⟩
set_option maxHeartbeats 1000000 in
open Classical in
theorem ok_chosen_pieces (D : Dn K mg "chosen_pieces" "chosen_pieces" (tp 40)) (T : Tx mg) (c_fits_chosen : Cal P w K mg base 4 "fits_chosen" (spFits C CB)) : Cal P w K mg base 5 "chosen_pieces" (spChosen C CB) := by
  refine cal_of D sc_chosen_pieces (fun _ _ _ _ _ _ us hl => match us, hl with | [_, _, _], _ => rfl) (fun vs H Q E h => ?_) (fun cdv A outer s f H vs Q E hr h => ?_)
  · obtain ⟨B, P, s, ⟨v, bk, ru, n, ps, m, ts, rows, rfl, _⟩, _⟩ := h
    rfl
  · obtain ⟨B0, P, s0, ⟨v, bk, ru, n, ps, m, ts, rows, rfl, hw, hbk, hru, hps, hn, hts, hm, hrl, hrs, hwt, rfl⟩, k⟩ := h
    refine ⟨_, (pss_cons (ps_set (i := 3) sc_chosen_pieces.nd rfl (.inl rfl) (pe_lst (pa_cons (pe_tup pa_nil) pa_nil)))
      (pss_cons (ps_while PassesOwn.never (pt_cmpR op_gt (pe_callB (lenS K) (by rfl) T.len PySem.boot_len (pa_cons (pv 3) pa_nil)) pe_int (nomark _)) (pss_cons (ps_set (i := 4) sc_chosen_pieces.nd rfl (.inr rfl) (bmK0 K PySem.F.plainAttrs_list PySem.F.slot_list_pop PySem.F.type_list_pop mt_pop (pv 3)))
        (pss_cons (ps_if (pt_cmpR op_eq (pe_callB (lenS K) (by rfl) T.len PySem.boot_len (pa_cons (pv 4) pa_nil)) (pe_callB (lenS K) (by rfl) T.len PySem.boot_len (pa_cons (pv 2) pa_nil)) (nomark _)) (pss_one (ps_ret (pv 4))) pss_nil)
        (pss_cons (ps_setLc (i := 5) (own := [("piece", 6)]) rfl sc_chosen_pieces.nd rfl rfl (sw_true rfl rfl rfl (by decide +kernel)) (piL K (pe_ix (ixT K) (pv 2) (pe_callB (lenS K) (by rfl) T.len PySem.boot_len (pa_cons (pv 4) pa_nil)) (fun _ _ => rfl))) (blkOk_by (by kernel_rfl)) (fun _ _ _ _ _ => (pg_name (i := 6) sc_chosen_pieces.nd rfl (.inl rfl))) (fun _ _ _ _ _ => (pts_one (pt_val (pe_k c_fits_chosen hr (by decide) rfl (pa_cons (pv 0) (pa_cons (pv 1) (pa_cons (pv 4) (pa_cons (pv 6) pa_nil)))))))) (fun _ _ _ _ _ => (pv 6)))
        (pss_one (ps_expr (bmK K PySem.F.plainAttrs_list PySem.F.slot_list_extend PySem.F.type_list_extend mt_extend (pv 3) (pa_cons (pe_lc (own := [("piece", 6)]) rfl sc_chosen_pieces.nd (piRev K (by rfl) T.reversed (pa_cons (pv 5) pa_nil)) (blkOk_by (by kernel_rfl)) (fun _ _ _ _ _ => (pg_name (i := 6) sc_chosen_pieces.nd rfl (.inl rfl))) (fun _ _ _ _ _ => pts_nil) (fun _ _ _ _ _ => (pe_op (catA K) (pv 4) (pe_tup (pa_cons (pv 6) pa_nil))))) pa_nil))))))))
      (pss_one (ps_ret pe_non)))), ?_⟩
    refine s_asgM (D := { nx := _, rt := _ }) (em_lst1 (R := fun ch => TO (fun c => IT c) ch) (x := []) ev_tup0) s0 fun L vs B1 H1 g1 nL bL hL r1 => ?_
    refine s_while (D := { nx := _, rt := _ }) (fun k σ B' H' => ∃ x4 x5 x6 st vs, σ = [some v, some bk, some ru, some (.ref L), x4, x5, x6] ∧ Gr B0 H B' H' ∧ B' L = none ∧ H' L = some (.lst vs) ∧ Rs (fun ch => TO (fun c => IT c) ch) st vs B' ∧ Stk ps ts rows st ∧ k = wts rows st ∧ k ≤ 70000) (wts rows [[]]) g1.sub
      ⟨none, none, none, [[]], vs, rfl, g1, bL, hL, r1, Stk.start, rfl, by simpa [wts] using hwt⟩ fun q σ B2 H2 s2 => ?_
    rintro ⟨x4, x5, x6, st, vs, rfl, g0, bL, hL, rs, sk, rfl, hq⟩
    have hlen := rs.len
    refine ⟨decide (0 < st.length), et_val (ev_gtN (ev_lenM (n := st.length) (evx 3 rfl) hL hlen) ev_0), fun ht B3 H3 g3 => ?_, fun hf B3 H3 g3 => ?_⟩
    · have ht := of_decide_eq_true ht
      obtain ⟨st', ch, rfl⟩ : ∃ st' ch, st = st' ++ [ch] := ⟨st.dropLast, st.getLast (List.ne_nil_of_length_pos ht), (List.dropLast_concat_getLast _).symm⟩
      obtain ⟨vs', cv, rfl⟩ : ∃ vs' cv, vs = vs' ++ [cv] := ⟨vs.dropLast, vs.getLast (List.ne_nil_of_length_pos (by rw [hlen]; exact ht)), (List.dropLast_concat_getLast _).symm⟩
      have hl' : vs'.length = st'.length := by rw [List.length_append, List.length_append] at hlen; simpa using hlen
      have hrs' : Rs (fun ch => TO (fun c => IT c) ch) st' vs' B2 ∧ TO (fun c => IT c) ch cv B2 := by
        obtain ⟨u, hu, hch⟩ := rs.get (i := st'.length) (x := ch) (by rw [List.getElem?_append_right (Nat.le_refl _), Nat.sub_self]; rfl)
        rw [List.getElem?_append_right (by omega), hl', Nat.sub_self] at hu
        simp at hu; subst hu
        exact ⟨rs.front hl', hch⟩
      obtain ⟨rs', hcv⟩ := hrs'
      have g03 := g0.trans g3
      have hL3 := g3.hh _ _ hL
      have bL3 := (g3.own bL hL mo_lst).1
      refine s_pop (evx 3 rfl) g3.sub hL3 fun B4 H4 g4 hL4 => ?_
      have bL4 := (g4.own bL3 hL3 mo_lst).1
      have gP := (g03.trans g4).put (o := .lst vs') nL bL4
      have s24 := g3.bb.trans g4.bb
      have hcv4 : TO (fun c => IT c) ch cv B4 := Mn.mn s24 hcv
      have pc := sk.part ch (by simp)
      refine s_if (et_val (ev_eqN (ev_len (ev_var 4 rfl hcv4) (pn_TO rfl)) (ev_len (ev_var 2 rfl (Mn.mn gP.bb hru)) (pn_TO rfl)))) gP.sub (fun e B5 H5 g5 => ?_) (fun e B5 H5 g5 => ?_)
      · have e := of_decide_eq_true e
        obtain ⟨ac, _, rfl, _⟩ := id hcv4
        refine s_ret (evx 4 rfl) g5.sub fun w B6 H6 g6 ew => ?_
        cases ew
        exact k _ B6 H6 ((gP.trans g5).trans g6) ⟨true, ⟨fun _ => ⟨ch, e, pc⟩, fun _ => rfl⟩, ac, rfl⟩
      · have e := of_decide_eq_false e
        have hlt : ch.length < rows.length := by have := pc.le; omega
        have er : rows[ch.length]? = some rows[ch.length] := List.getElem?_eq_getElem hlt
        generalize rows[ch.length] = r at er
        obtain ⟨hrl', hrp⟩ := hrs r (List.mem_of_getElem? er)
        have gP5 := gP.trans g5
        have hcv5 : TO (fun c => IT c) ch cv B5 := Mn.mn g5.bb hcv4
        have hcs : ∀ c ∈ ch, c.length ≤ 30 ∧ ∀ s ∈ c, s < n := fun c hc => by
          obtain ⟨i, hi⟩ := List.getElem?_of_mem hc
          obtain ⟨r', h1, h2⟩ := pc.mem i c hi
          exact (hrs r' (List.mem_of_getElem? h1)).2 c h2
        refine s_asg (P := LO (fun p => IT p) (r.filter fun p => decide (FitP ps ts ch p))) ((em_lcN (R := fun p => IT p) (R' := fun p => IT p) (ei_list (ev_ixT (R := fun r => LO (fun p => IT p) r) (ev_var 2 rfl (Mn.mn gP5.bb hru)) (ev_len (ev_var 4 rfl hcv5) (pn_TO rfl)) er)) (fun p => decide (FitP ps ts ch p)) id (by omega) (fun _ => rfl) fun p pv B' H' hpm g hpv => ⟨?_, fun _ => ev_var 6 rfl hpv⟩).lo.imp fun v B' _ h => by rw [List.map_id] at h; exact h) g5.sub fun fv B6 H6 g6 hfv => ?_
        · have gg := gP5.trans g
          refine et_B (ev_call (P := BT (FitP ps ts ch p)) (ea_c (P := WebH C n ps) (ev_var 0 rfl (Mn.mn gg.bb hw)) (ea_c (P := BkR CB m ts) (ev_var 1 rfl (Mn.mn gg.bb hbk)) (ea_c (P := TO (fun c => IT c) ch) (ev_var 4 rfl (Mn.mn g.bb hcv5)) (ea_c (P := IT p) (ev_var 6 rfl hpv) ea_nil)))) fun vs B' s' hvs => ?_).bt
          obtain ⟨v', _, rfl, hv', b', _, rfl, hb', c', _, rfl, hc', p', _, rfl, hp', rfl⟩ := hvs
          exact ⟨v', b', c', p', n, ps, m, ts, ch, p, rfl, hv', hb', hc', hp', hps, hn, hts, hm, by omega, hcs, (hrp p hpm).1, rfl⟩
        · have s46 := g5.bb.trans g6.bb
          have hcv6 : TO (fun c => IT c) ch cv B6 := Mn.mn s46 hcv4
          have bL6 := (g6.own (g5.own bL4 upd_same mo_lst).1 (g5.hh _ _ upd_same) mo_lst).1
          have hL6 := g6.hh _ _ (g5.hh _ _ (upd_same (o := HO.lst vs') (H := H4) (a := L)))
          have hfl : (r.filter fun p => decide (FitP ps ts ch p)).length ≤ r.length := List.length_filter_le _ _
          refine s_ext (R := fun ch => TO (fun c => IT c) ch) (evx 3 rfl) ((em_lcM (R := fun p => IT p) (R' := fun ch => TO (fun c => IT c) ch) (ei_rev (ea_c (ev_var 5 rfl hfv) ea_nil)) (fun p => ch ++ [p]) (by rw [List.length_reverse]; omega) (fun _ => rfl) fun p pv B' H' hm g hpv => ev_catT (R := fun c => IT c) (ev_var 4 rfl (Mn.mn g.bb hcv6)) (ev_tup1 (R := fun c => IT c) (ev_var 6 rfl hpv)) ?_).lo) g6.sub hL6 ?_ fun ws B7 H7 g7 hL7 rws => ?_
          · have : rows.length ≤ 8 := by omega
            simp; omega
          · have h1 := wts_len rows (st' ++ [ch])
            rw [List.length_append] at h1
            rw [List.length_map, List.length_reverse, hl']
            omega
          · have bL7 := (g7.own bL6 hL6 mo_lst).1
            have gF := ((gP5.trans g6).trans g7).put (o := .lst (vs' ++ ws)) nL bL7
            have hd := wts_step (st := st') (f := (r.filter fun p => decide (FitP ps ts ch p)).reverse) er (by rw [List.length_reverse]; exact hfl)
            exact ⟨_, B7, hd, gF.sub, _, _, _, _, _, rfl, gF, bL7, upd_same, (rs'.mn ((s24.trans s46).trans g7.bb)).app rws, sk.step er, rfl, by omega⟩
    · have hf : st = [] := List.eq_nil_of_length_eq_zero (by have := of_decide_eq_false hf; omega)
      subst hf
      exact k .non B3 H3 (g0.trans g3) ⟨false, ⟨fun e => absurd e (by decide), fun c => absurd c sk.none⟩, rfl⟩
end
end Lw
/-! Mr: what is left of the lands, lots, plain. -/
namespace Lw
def leftS (told : List (List Nat)) (lost : List Nat) (i : Nat) : Nat → Prop := fun x => x ∈ told.getD i [] ∧ x ∉ lost
/-- one piece of each land may be chosen, the ties touching -/
def Rem (ps ts : List (Nat × Nat)) (told : List (List Nat)) (lost : List Nat) : Prop := ∃ r : Nat → Nat, (∀ i, i < told.length → leftS told lost i (r i)) ∧
  ∀ t ∈ ts, ∃ x y, Rch (Adj ps) (leftS told lost t.1) (r t.1) x ∧ Rch (Adj ps) (leftS told lost t.2) (r t.2) y ∧ Adj ps x y
structure RowsFor (ps : List (Nat × Nat)) (told : List (List Nat)) (lost : List Nat) (rows : List (List (List Nat))) : Prop where
  len : rows.length = told.length
  sub : ∀ (i : Nat) r, rows[i]? = some r → ∀ p ∈ r, ∃ s, leftS told lost i s ∧ ∀ x ∈ p, Rch (Adj ps) (leftS told lost i) s x
  sup : ∀ (i : Nat) r, rows[i]? = some r → ∀ s, leftS told lost i s → ∃ p ∈ r, ∀ x, Rch (Adj ps) (leftS told lost i) s x → x ∈ p
section
variable {n m : Nat} {ps ts : List (Nat × Nat)} {told : List (List Nat)} {lost lost' : List Nat} {rows : List (List (List Nat))}
theorem choice_rem (h : RowsFor ps told lost rows) (hts : PsOk m ts) (hm : told.length = m) : Choice ps ts rows ↔ Rem ps ts told lost := by
  constructor
  · rintro ⟨ch, hl, pt⟩
    have hr : ∀ i, i < told.length → ∃ s, leftS told lost i s ∧ ∀ x ∈ ch.getD i [], Rch (Adj ps) (leftS told lost i) s x := fun i hi => by
      have hi' : i < ch.length := by rw [hl, h.len]; exact hi
      have e : ch[i]? = some ch[i] := List.getElem?_eq_getElem hi'
      obtain ⟨r, h1, h2⟩ := pt.mem i _ e
      rw [List.getD_eq_getElem?_getD, e]
      exact h.sub i r h1 _ h2
    have hr' : ∃ f : Nat → Nat, ∀ i, i < told.length → leftS told lost i (f i) ∧ ∀ x ∈ ch.getD i [], Rch (Adj ps) (leftS told lost i) (f i) x :=
      ⟨fun i => if hi : i < told.length then (hr i hi).choose else 0, fun i hi => by simp only [dif_pos hi]; exact (hr i hi).choose_spec⟩
    obtain ⟨f, hf⟩ := hr'
    refine ⟨f, fun i hi => (hf i hi).1, fun t ht => ?_⟩
    have lt := hts.lt t ht
    have h1 : t.1 < ch.length := by rw [hl, h.len, hm]; omega
    have h2 : t.2 < ch.length := by rw [hl, h.len, hm]; omega
    have e1 : ch[t.1]? = some ch[t.1] := List.getElem?_eq_getElem h1
    have e2 : ch[t.2]? = some ch[t.2] := List.getElem?_eq_getElem h2
    have q := pt.fit t.2 _ e2 t ht (by rw [List.length_take]; omega) ch[t.1] (by rw [List.getElem?_take, if_pos lt.1]; exact e1)
    obtain ⟨x, hx, y, hy, e⟩ := q
    refine ⟨x, y, (hf t.1 (by omega)).2 x ?_, (hf t.2 (by omega)).2 y ?_, e⟩
    · rw [List.getD_eq_getElem?_getD, e1]; exact hx
    · rw [List.getD_eq_getElem?_getD, e2]; exact hy
  · rintro ⟨f, hf, ht⟩
    have hp : ∀ i, i < told.length → ∃ p, (∃ r, rows[i]? = some r ∧ p ∈ r) ∧ ∀ x, Rch (Adj ps) (leftS told lost i) (f i) x → x ∈ p := fun i hi => by
      have e : rows[i]? = some (rows[i]'(by rw [h.len]; exact hi)) := List.getElem?_eq_getElem _
      obtain ⟨p, h1, h2⟩ := h.sup i _ e (f i) (hf i hi)
      exact ⟨p, ⟨_, e, h1⟩, h2⟩
    have hp' : ∃ g : Nat → List Nat, ∀ i, i < told.length → (∃ r, rows[i]? = some r ∧ g i ∈ r) ∧ ∀ x, Rch (Adj ps) (leftS told lost i) (f i) x → x ∈ g i :=
      ⟨fun i => if hi : i < told.length then (hp i hi).choose else [], fun i hi => by simp only [dif_pos hi]; exact (hp i hi).choose_spec⟩
    obtain ⟨g, hg⟩ := hp'
    have eg : ∀ k p, ((List.range told.length).map g)[k]? = some p → k < told.length ∧ p = g k := fun k p e => by
      rw [List.getElem?_map] at e
      cases e2 : (List.range told.length)[k]? with
      | none => rw [e2] at e; cases e
      | some k' =>
        rw [e2] at e
        have := List.getElem?_eq_some_iff.mp e2
        obtain ⟨h1, h2⟩ := this
        rw [List.getElem_range] at h2
        rw [List.length_range] at h1
        subst h2
        exact ⟨h1, (Option.some.inj e).symm⟩
    refine ⟨(List.range told.length).map g, by rw [List.length_map, List.length_range, h.len], ⟨by rw [List.length_map, List.length_range, h.len]; exact Nat.le_refl _, fun k p e => ?_, fun k p e => ?_⟩⟩
    · obtain ⟨hk, rfl⟩ := eg k p e
      exact (hg k hk).1
    · obtain ⟨hk, rfl⟩ := eg k p e
      intro t htm e2 a ea
      have e2' : t.2 = k := by rw [e2, List.length_take, List.length_map, List.length_range]; omega
      have lt := hts.lt t htm
      rw [List.getElem?_take] at ea
      split at ea
      · obtain ⟨hk1, rfl⟩ := eg _ a ea
        obtain ⟨x, y, hx, hy, e3⟩ := ht t htm
        refine ⟨x, (hg _ hk1).2 x hx, y, ?_, e3⟩
        rw [e2'] at hy
        exact (hg k hk).2 y hy
      · cases ea
theorem LeftOk.rf (h : LeftOk ps told lost rows) : RowsFor ps told lost rows := by
  have key : ∀ i r, rows[i]? = some r → ∃ l, told[i]? = some l ∧ PcsOk ps (l.filter fun s => !decide (s ∈ lost)) r ∧ ∀ x, x ∈ l.filter (fun s => !decide (s ∈ lost)) ↔ leftS told lost i x := fun i r hr => by
    have hi := (List.getElem?_eq_some_iff.mp hr).1
    have e : told[i]? = some (told[i]'(by rw [← h.len]; exact hi)) := List.getElem?_eq_getElem _
    refine ⟨_, e, h.pcs i _ r e hr, fun x => ?_⟩
    unfold leftS
    rw [List.mem_filter, List.getD_eq_getElem?_getD, e]
    simp
  refine ⟨h.len, fun i r hr p hp => ?_, fun i r hr s hs => ?_⟩
  · obtain ⟨l, _, pc, hx⟩ := key i r hr
    obtain ⟨_, s, hs, hc⟩ := pc.comp p hp
    exact ⟨s, (hx s).mp hs, fun x hxp => ((hc x).mp hxp).mono fun y hy => (hx y).mp hy⟩
  · obtain ⟨l, _, pc, hx⟩ := key i r hr
    obtain ⟨p, hp, hsp⟩ := pc.all s ((hx s).mpr hs)
    obtain ⟨_, s', hs', hc⟩ := pc.comp p hp
    exact ⟨p, hp, fun x r => (hc x).mpr (((hc s).mp hsp).trans (r.mono fun y hy => (hx y).mpr hy))⟩
theorem Rem.anti (h : Rem ps ts told lost') (hs : ∀ x ∈ lost, x ∈ lost') : Rem ps ts told lost := by
  obtain ⟨r, h1, h2⟩ := h
  have mono : ∀ i x, leftS told lost' i x → leftS told lost i x := fun i x hx => ⟨hx.1, fun m => hx.2 (hs x m)⟩
  refine ⟨r, fun i hi => mono i _ (h1 i hi), fun t ht => ?_⟩
  obtain ⟨x, y, hx, hy, e⟩ := h2 t ht
  exact ⟨x, y, hx.mono (mono _), hy.mono (mono _), e⟩
theorem rem_nil (h : Told n ps told) (ht : TiesOk ps told ts) : Rem ps ts told [] := by
  have left : ∀ i l, told[i]? = some l → ∀ x, leftS told [] i x ↔ x ∈ l := fun i l e x => by
    unfold leftS
    rw [List.getD_eq_getElem?_getD, e]; simp
  have hd : ∀ (i : Nat) (l : List Nat), told[i]? = some l → l.headD 0 ∈ l := fun i l e => by
    have := (h.ok l (List.mem_of_getElem? e)).ne
    cases l with
    | nil => exact absurd rfl this
    | cons x l => exact List.mem_cons_self ..
  have eg : ∀ i l, told[i]? = some l → told.getD i [] = l := fun i l e => by rw [List.getD_eq_getElem?_getD, e]; rfl
  refine ⟨fun i => (told.getD i []).headD 0, fun i hi => ?_, fun t htm => ?_⟩
  · have e : told[i]? = some told[i] := List.getElem?_eq_getElem hi
    show leftS told [] i ((told.getD i []).headD 0)
    rw [eg i _ e]
    exact (left i _ e _).mpr (hd i _ e)
  · obtain ⟨la, lb, x, y, h1, h2, h3, h4, e⟩ := ht t htm
    refine ⟨x, y, ?_, ?_, e⟩
    · show Rch _ _ ((told.getD t.1 []).headD 0) x
      rw [eg _ _ h1]
      exact (h.con la (List.mem_of_getElem? h1) _ (hd _ _ h1) x h3).mono fun z hz => (left _ _ h1 z).mpr hz
    · show Rch _ _ ((told.getD t.2 []).headD 0) y
      rw [eg _ _ h2]
      exact (h.con lb (List.mem_of_getElem? h2) _ (hd _ _ h2) y h4).mono fun z hz => (left _ _ h2 z).mpr hz
theorem rem_all (ht : told ≠ []) (hl : ∀ x ∈ told.flatten, x ∈ lost) : ¬ Rem ps ts told lost := fun ⟨r, h1, _⟩ => by
  cases told with
  | nil => exact ht rfl
  | cons l t =>
    have := h1 0 (by simp)
    exact this.2 (hl _ (List.mem_flatten.mpr ⟨l, by simp, this.1⟩))
/-! ### lots -/
theorem sub_snoc {l xs : List Nat} {x : Nat} : l.Sublist (xs ++ [x]) ↔ l.Sublist xs ∨ ∃ l', l = l' ++ [x] ∧ l'.Sublist xs := by
  rw [List.sublist_append_iff]
  constructor
  · rintro ⟨l1, l2, rfl, h1, h2⟩
    cases h2 with
    | cons _ h2 => cases h2; simp [h1]
    | cons_cons _ h2 => cases h2; exact .inr ⟨l1, rfl, h1⟩
  · rintro (h | ⟨l', rfl, h⟩)
    · exact ⟨l, [], by simp, h, by simp⟩
    · exact ⟨l', [x], rfl, h, List.Sublist.refl _⟩
theorem sub_between : ∀ {l xs : List Nat}, l.Sublist xs → ∀ k, l.length ≤ k → k ≤ xs.length → ∃ l', l.Sublist l' ∧ l'.Sublist xs ∧ l'.length = k
  | _, _, .slnil, k, h1, h2 => ⟨[], .slnil, .slnil, by simp at h2; simp [h2]⟩
  | _, _, .cons (l₁ := l) (l₂ := xs) x h, k, h1, h2 => by
    by_cases hk : k ≤ xs.length
    · obtain ⟨l', h3, h4, h5⟩ := sub_between h k h1 hk
      exact ⟨l', h3, h4.cons x, h5⟩
    · refine ⟨x :: xs, h.cons x, List.Sublist.refl _, ?_⟩
      rw [List.length_cons] at h2 ⊢; omega
  | _, _, .cons_cons (l₁ := l) (l₂ := xs) x h, k, h1, h2 => by
    rw [List.length_cons] at h1 h2
    obtain ⟨l', h3, h4, h5⟩ := sub_between h (k - 1) (by omega) (by omega)
    exact ⟨x :: l', h3.cons_cons x, h4.cons_cons x, by rw [List.length_cons]; omega⟩
/-- .. however many are lost -/
def BearsL (ps ts : List (Nat × Nat)) (told : List (List Nat)) (k : Nat) : Prop := ∀ lot : List Nat, lot.Sublist (srt told.flatten) → lot.length ≤ k → Rem ps ts told lot
theorem bears_eq (k : Nat) (ht : told ≠ []) : (k < (srt told.flatten).length ∧ ∀ lot : List Nat, lot.Sublist (srt told.flatten) → lot.length = k → Rem ps ts told lot) ↔ BearsL ps ts told k := by
  constructor
  · rintro ⟨hk, h⟩ lot hs hl
    obtain ⟨l', h1, h2, h3⟩ := sub_between hs k hl (Nat.le_of_lt hk)
    exact (h l' h2 h3).anti fun x hx => h1.subset hx
  · intro h
    refine ⟨Nat.lt_of_not_le fun hk => ?_, fun lot hs hl => h lot hs (Nat.le_of_eq hl)⟩
    exact rem_all ht (fun x hx => mem_srt.mpr hx) (h _ (List.Sublist.refl _) hk)
theorem BearsL.mono {k k' : Nat} (h : BearsL ps ts told k) (hk : k' ≤ k) : BearsL ps ts told k' := fun lot hs hl => h lot hs (by omega)
theorem bears_zero (h : Told n ps told) (ht : TiesOk ps told ts) : BearsL ps ts told 0 := fun lot _ hl => by
  have e : lot = [] := List.eq_nil_of_length_eq_zero (by omega)
  rw [e]
  exact rem_nil h ht
theorem bears_one (h : Told n ps told) (ht : TiesOk ps told ts) : BearsL ps ts told 1 ↔ ∀ s ∈ srt told.flatten, Rem ps ts told [s] := by
  constructor
  · intro hb s hs
    exact hb [s] (List.singleton_sublist.mpr hs) (by simp)
  · intro ha lot hs hl
    match lot, hs, hl with
    | [], _, _ => exact rem_nil h ht
    | [s], hs, _ => exact ha s (hs.subset (by simp))
    | _ :: _ :: _, _, hl => simp at hl
theorem Told.flat_nodup (h : Told n ps told) : told.flatten.Nodup := by
  unfold List.Nodup
  rw [List.pairwise_flatten]
  refine ⟨fun l hl => (h.ok l hl).nd, ?_⟩
  rw [List.pairwise_iff_getElem]
  intro i j hi hj hlt x hx y hy e
  subst e
  have := h.dis i j _ _ x (List.getElem?_eq_getElem hi) (List.getElem?_eq_getElem hj) hx hy
  omega
theorem Told.flat_lt (h : Told n ps told) {s : Nat} (hs : s ∈ told.flatten) : s < n := by
  obtain ⟨l, hl, hsl⟩ := List.mem_flatten.mp hs
  exact (h.ok l hl).lt s hsl
theorem Told.flat_len (h : Told n ps told) : told.flatten.length ≤ n := by
  have := nodup_le (m := List.range n) h.flat_nodup fun x hx => List.mem_range.mpr (h.flat_lt hx)
  rw [List.length_range] at this; exact this
/-- counts -/
structure LotB (k i : Nat) (F : List (List Nat)) : Prop where
  z : (F.filter fun l => decide (l.length < 1)).length ≤ 1
  p : F.length ≤ 2 ^ i
  s : k ≤ 1 → F.length ≤ i + 1
theorem LotB.start (k : Nat) : LotB k 0 [[]] := ⟨by decide, by decide, fun _ => by decide⟩
theorem LotB.step {k i x : Nat} {F : List (List Nat)} (h : LotB k i F) : LotB k (i + 1) (F ++ (F.filter fun l => decide (l.length < k)).map fun l => l ++ [x]) := by
  have hl : (F.filter fun l => decide (l.length < k)).length ≤ F.length := List.length_filter_le _ _
  refine ⟨?_, ?_, fun hk => ?_⟩
  · rw [List.filter_append, List.length_append]
    have : (((F.filter fun l => decide (l.length < k)).map fun l => l ++ [x]).filter fun l => decide (l.length < 1)) = [] := by
      rw [List.filter_eq_nil_iff]
      intro l hl
      obtain ⟨l', _, rfl⟩ := List.mem_map.mp hl
      simp
    rw [this]
    exact h.z
  · rw [List.length_append, List.length_map, Nat.pow_succ]
    have := h.p
    omega
  · rw [List.length_append, List.length_map]
    have h1 := h.s hk
    have h2 := h.z
    have : (F.filter fun l => decide (l.length < k)).length ≤ (F.filter fun l => decide (l.length < 1)).length := by
      rw [← List.countP_eq_length_filter, ← List.countP_eq_length_filter]
      refine List.countP_mono_left fun l _ hl => ?_
      have := of_decide_eq_true hl
      exact decide_eq_true (by omega)
    omega
theorem LotB.cut {k i : Nat} {F : List (List Nat)} (h : LotB k i F) (q : List Nat → Bool) : LotB k i (F.filter q) := by
  have hl : (F.filter q).length ≤ F.length := List.length_filter_le _ _
  refine ⟨?_, Nat.le_trans hl h.p, fun hk => Nat.le_trans hl (h.s hk)⟩
  have : ((F.filter q).filter fun l => decide (l.length < 1)).length ≤ (F.filter fun l => decide (l.length < 1)).length :=
    (List.Sublist.filter _ (List.filter_sublist)).length_le
  exact Nat.le_trans this h.z
theorem LotB.le {k i : Nat} {F : List (List Nat)} (h : LotB k i F) (hk : i ≤ 10 ∨ k ≤ 1) (hi : i ≤ 30) : F.length ≤ 1024 := by
  rcases hk with h1 | h1
  · have h2 := h.p
    have h3 : 2 ^ i ≤ 2 ^ 10 := Nat.pow_le_pow_right (by decide) h1
    omega
  · have := h.s h1; omega
end
end Lw
/-! Md: lots_of, _law_lots, bears, weak. -/
namespace Lw
open PySem PySem.Spec PyProof.Rows L2
theorem cube30 : ∀ n, n < 31 → (1 + n) ^ 3 ≤ 8 * 2 ^ n := by decide
theorem wt_cube : ∀ rows : List (List (List Nat)), (∀ r ∈ rows, r.length < 31) → (wt rows) ^ 3 ≤ 8 ^ rows.length * 2 ^ (rows.map List.length).sum
  | [], _ => by decide
  | r :: rs, h => by
    have h1 := cube30 r.length (h r (List.mem_cons_self ..))
    have h2 := wt_cube rs fun x hx => h x (List.mem_cons_of_mem _ hx)
    have h3 := Nat.mul_le_mul h1 h2
    show ((1 + r.length) * wt rs) ^ 3 ≤ _
    rw [Nat.mul_pow, List.length_cons, List.map_cons, List.sum_cons]
    have e1 : 8 ^ (rs.length + 1) = 8 ^ rs.length * 8 := Nat.pow_succ ..
    have e2 : 2 ^ (r.length + (rs.map List.length).sum) = 2 ^ r.length * 2 ^ (rs.map List.length).sum := Nat.pow_add ..
    rw [e1, e2]
    refine Nat.le_trans h3 (Nat.le_of_eq ?_)
    ac_rfl
theorem wt_le {rows : List (List (List Nat))} (h : ∀ r ∈ rows, r.length < 31) (hl : rows.length ≤ 6) (hs : (rows.map List.length).sum ≤ 30) : wt rows ≤ 65536 := by
  have h1 := wt_cube rows h
  have h2 : 8 ^ rows.length ≤ 8 ^ 6 := Nat.pow_le_pow_right (by decide) hl
  have h3 : 2 ^ (rows.map List.length).sum ≤ 2 ^ 30 := Nat.pow_le_pow_right (by decide) hs
  have h4 := Nat.mul_le_mul h2 h3
  refine Nat.le_of_not_lt fun hlt => ?_
  have h5 : 65537 ^ 3 ≤ (wt rows) ^ 3 := Nat.pow_le_pow_left hlt 3
  have h6 : (8 : Nat) ^ 6 * 2 ^ 30 < 65537 ^ 3 := by decide
  omega
section
variable {n m : Nat} {ps ts : List (Nat × Nat)} {told : List (List Nat)} {lost : List Nat} {rws : List (List (List Nat))}
theorem sum_le_sum : ∀ {xs ys : List Nat}, xs.length = ys.length → (∀ (i : Nat) x y, xs[i]? = some x → ys[i]? = some y → x ≤ y) → xs.sum ≤ ys.sum
  | [], [], _, _ => Nat.le_refl _
  | x :: xs, y :: ys, h, k => by
    rw [List.sum_cons, List.sum_cons]
    have h1 := k 0 x y rfl rfl
    have h2 := sum_le_sum (xs := xs) (ys := ys) (by simpa using h) fun i a b ha hb => k (i + 1) a b (by simpa using ha) (by simpa using hb)
    omega
theorem LeftOk.sizes (h : LeftOk ps told lost rws) (ht : Told n ps told) (hn : n ≤ 30) (hl : told.length ≤ 6) : (∀ r ∈ rws, r.length ≤ 30 ∧ ∀ p ∈ r, p.length ≤ 30 ∧ ∀ s ∈ p, s < n) ∧ wt rws ≤ 65536 := by
  have key : ∀ (i : Nat) r, rws[i]? = some r → ∃ l : List Nat, told[i]? = some l ∧ PcsOk ps (l.filter fun s => !decide (s ∈ lost)) r ∧ r.length ≤ l.length := fun i r hr => by
    have hi := (List.getElem?_eq_some_iff.mp hr).1
    have e : told[i]? = some (told[i]'(by rw [← h.len]; exact hi)) := List.getElem?_eq_getElem _
    have pc := h.pcs i _ r e hr
    refine ⟨_, e, pc, Nat.le_trans pc.len (List.length_filter_le _ _)⟩
  have h1 : ∀ r ∈ rws, r.length ≤ 30 ∧ ∀ p ∈ r, p.length ≤ 30 ∧ ∀ s ∈ p, s < n := fun r hr => by
    obtain ⟨i, hi⟩ := List.getElem?_of_mem hr
    obtain ⟨l, hl, pc, hle⟩ := key i r hi
    have lo := ht.ok l (List.mem_of_getElem? hl)
    have lo2 := lo.len
    refine ⟨by omega, fun p hp => ⟨?_, fun s hs => ?_⟩⟩
    · have := pc.short hp
      have := List.length_filter_le (fun s => !decide (s ∈ lost)) l
      omega
    · obtain ⟨_, s0, hs0, hc⟩ := pc.comp p hp
      exact lo.lt s (List.mem_filter.mp (((hc s).mp hs).mem hs0)).1
  refine ⟨h1, wt_le (fun r hr => by have := (h1 r hr).1; omega) (by rw [h.len]; exact hl) ?_⟩
  refine Nat.le_trans (sum_le_sum (ys := told.map List.length) (by rw [List.length_map, List.length_map]; exact h.len) fun i x y hx hy => ?_) ?_
  · rw [List.getElem?_map] at hx hy
    cases e1 : rws[i]? with
    | none => rw [e1] at hx; cases hx
    | some r =>
      cases e2 : told[i]? with
      | none => rw [e2] at hy; cases hy
      | some l =>
        rw [e1] at hx; rw [e2] at hy
        cases hx; cases hy
        obtain ⟨l', hl', _, hle⟩ := key i r e1
        rw [e2] at hl'; cases hl'
        exact hle
  · have := ht.flat_len
    rw [List.length_flatten] at this
    omega
end
/-! ### lots, exactly -/
theorem snoc_ind {α : Type} {Q : List α → Prop} (h0 : Q []) (h1 : ∀ l x, Q l → Q (l ++ [x])) : ∀ l, Q l := by
  have : ∀ k (l : List α), l.length = k → Q l := by
    intro k
    induction k with
    | zero => intro l h; rw [List.eq_nil_of_length_eq_zero h]; exact h0
    | succ k ih =>
      intro l h
      obtain ⟨t, x, rfl⟩ : ∃ t x, l = t ++ [x] := ⟨l.dropLast, l.getLast (List.ne_nil_of_length_eq_add_one h), (List.dropLast_concat_getLast _).symm⟩
      exact h1 t x (ih t (by rw [List.length_append, List.length_singleton] at h; omega))
  exact fun l => this _ l rfl
def lotX (k s : Nat) (F : List (List Nat)) : List (List Nat) := F ++ (F.filter fun l => decide (l.length < k)).map fun l => l ++ [s]
def lotsL (k : Nat) (xs : List Nat) : List (List Nat) := xs.foldl (fun F s => lotX k s F) [[]]
def lotsP (N k : Nat) (xs : List Nat) : List (List Nat) := (xs.zipIdx).foldl (fun F p => (lotX k p.1 F).filter fun l => decide (k < l.length + (N - p.2))) [[]]
theorem lotsL_snoc (k : Nat) (xs : List Nat) (s : Nat) : lotsL k (xs ++ [s]) = lotX k s (lotsL k xs) := by unfold lotsL; rw [List.foldl_append]; rfl
theorem lotsP_snoc (N k : Nat) (xs : List Nat) (s : Nat) : lotsP N k (xs ++ [s]) = (lotX k s (lotsP N k xs)).filter fun l => decide (k < l.length + (N - xs.length)) := by
  unfold lotsP
  rw [List.zipIdx_append, List.foldl_append]
  simp
theorem lotsL_b (k : Nat) : ∀ xs, LotB k xs.length (lotsL k xs) := snoc_ind (LotB.start k) fun l x h => by
  rw [lotsL_snoc, List.length_append, List.length_singleton]
  exact h.step
theorem lotsP_b (N k : Nat) : ∀ xs, LotB k xs.length (lotsP N k xs) := snoc_ind (LotB.start k) fun l x h => by
  rw [lotsP_snoc, List.length_append, List.length_singleton]
  exact h.step.cut _
theorem lotsL_mem (k : Nat) : ∀ xs l, l ∈ lotsL k xs ↔ l.Sublist xs ∧ l.length ≤ k := snoc_ind (fun l => by
    show l ∈ [[]] ↔ _
    rw [List.mem_singleton, List.sublist_nil]
    exact ⟨fun e => by subst e; simp, fun h => h.1⟩) fun xs s ih l => by
  rw [lotsL_snoc]
  unfold lotX
  rw [List.mem_append, List.mem_map, ih, sub_snoc]
  constructor
  · rintro (h1 | ⟨l', h1, rfl⟩)
    · exact ⟨.inl h1.1, h1.2⟩
    · obtain ⟨h3, h4⟩ := List.mem_filter.mp h1
      have h3 := (ih l').mp h3
      have h4 := of_decide_eq_true h4
      refine ⟨.inr ⟨l', rfl, h3.1⟩, ?_⟩
      rw [List.length_append, List.length_singleton]; omega
  · rintro ⟨h1 | ⟨l', rfl, h1⟩, h2⟩
    · exact .inl ⟨h1, h2⟩
    · rw [List.length_append, List.length_singleton] at h2
      exact .inr ⟨l', List.mem_filter.mpr ⟨(ih l').mpr ⟨h1, by omega⟩, decide_eq_true (by omega)⟩, rfl⟩
theorem lotsP_mem (N k : Nat) (hk : k ≤ N) : ∀ xs, xs.length ≤ N → ∀ l, l ∈ lotsP N k xs ↔ l.Sublist xs ∧ l.length ≤ k ∧ k ≤ l.length + (N - xs.length) := snoc_ind (fun _ l => by
    show l ∈ [[]] ↔ _
    rw [List.mem_singleton, List.sublist_nil]
    exact ⟨fun e => by subst e; simp; omega, fun h => h.1⟩) fun xs s ih hN l => by
  rw [List.length_append, List.length_singleton] at hN
  have ih := ih (by omega)
  rw [lotsP_snoc, List.mem_filter]
  unfold lotX
  rw [List.mem_append, List.mem_map, ih, sub_snoc, List.length_append, List.length_singleton]
  constructor
  · rintro ⟨h1 | ⟨l', h1, rfl⟩, h2⟩
    · have h2 := of_decide_eq_true h2
      exact ⟨.inl h1.1, h1.2.1, by omega⟩
    · have h2 := of_decide_eq_true h2
      obtain ⟨h3, h4⟩ := List.mem_filter.mp h1
      have h3 := (ih l').mp h3
      have h4 := of_decide_eq_true h4
      refine ⟨.inr ⟨l', rfl, h3.1⟩, ?_, ?_⟩ <;> (rw [List.length_append, List.length_singleton] at *; omega)
  · rintro ⟨h1 | ⟨l', rfl, h1⟩, h2, h3⟩
    · exact ⟨.inl ⟨h1, h2, by omega⟩, decide_eq_true (by omega)⟩
    · rw [List.length_append, List.length_singleton] at h2 h3
      refine ⟨.inr ⟨l', List.mem_filter.mpr ⟨(ih l').mpr ⟨h1, by omega, by omega⟩, decide_eq_true (by omega)⟩, rfl⟩, decide_eq_true ?_⟩
      rw [List.length_append, List.length_singleton]; omega
section
variable {P : Program} {w : World} {K : PySem.W.Frag} {mg : Str → Option Value} {base : Heap}
variable {B H B0 H0 B1 H1 B2 H2 B' H' : Hp} {σ : Slo} {te ta tb tl td tv : TE} {a C CB dx d : Addr} {b : Bool} {x v : V} {m n i j : Nat} {fs : List (Str × V)} {f kf : Str} {PV : VP} {ps : List (Nat × Nat)}
theorem ev_catL {α : Type} {R : α → VP} {xs ys : List α} [∀ x, Mn (R x)] (ha : Ev ta σ B H (LO R xs)) (hb : Ev tb σ B H (LO R ys)) (hl : xs.length + ys.length ≤ 1000000) : Ev (tOp rCat ta tb) σ B H (LO R (xs ++ ys)) :=
  ev_opP ha hb fun x y B' H' g ⟨a, vs, e, ha, ra⟩ ⟨b, us, e', hb, rb⟩ Q q => by
    subst e e'
    have l1 := ra.len
    have l2 := rb.len
    refine ⟨a, b, vs, us, rfl, rfl, g.sub _ _ ha, g.sub _ _ hb, sz _ (by omega), fun p hp => ?_⟩
    have n := none_of_same g.sub hp
    exact q _ (upd B' p (.lst (vs ++ us))) _ (Gr.new g.sub hp) ⟨p, _, rfl, upd_same, (ra.app rb).mn (same_new n)⟩
theorem ev_lenT {l : List Nat} (h : Ev te σ B H (IT l)) : Ev (tCB (fun xs H Q => ∃ p ys, xs = [.ref p] ∧ (SqL K H p ys ∨ SqT K H p ys) ∧ Q (.int ys.length) H) (tCons te tNil)) σ B H (RX (vn l.length)) := ev_len h (pn_VT (List.length_map ..))
theorem ev_snocT {l : List Nat} {s : Nat} (ha : Ev ta σ B H (IT l)) (hb : Ev tb σ B H (RX (vn s))) (hl : l.length ≤ 1000) : Ev (tOp (rCatA K) ta (tTup (tCons tb tNil))) σ B H (IT (l ++ [s])) :=
  ((ev_catT (R := fun s => RX (vn s)) (xs := l) (ys := [s]) (ha.imp fun v B' _ h => VT.to h) (ev_tup1 (R := fun s => RX (vn s)) hb) (by simp; omega)).imp fun v B' _ h => TO.vt h)
theorem id_lo {α : Type} {R : α → VP} {xs : List α} {v : V} (h : LO R (xs.map id) v B) : LO R xs v B := by rw [List.map_id] at h; exact h
/-! ### lots_of -/
abbrev spLots : Sp := Pr fun vs B P => ∃ u xs k, vs = [u, vn k] ∧ IL xs u B ∧ xs.length ≤ 30 ∧ (xs.length ≤ 10 ∨ k ≤ 1) ∧ k < xs.length ∧ P = LO (fun l => IT l) (lotsP xs.length k xs)
theorem sc_lots_of : FnScope ["standings", "many", "found", "at", "standing", "left", "lot"] ["standings", "many"] (defScope (tp 41)) := ⟨rfl, rfl, rfl, by decide +kernel, rfl, by decide +kernel, by decide +kernel⟩
theorem ok_lots_of (D : Dn K mg "lots_of" "lots_of" (tp 41)) (T : Tx mg) : Cal P w K mg base 1 "lots_of" spLots := by
  refine cal_of D sc_lots_of (fun _ _ _ _ _ _ us hl => match us, hl with | [_, _], _ => rfl) (fun vs H Q E h => ?_) (fun cdv A outer s f H vs Q E hr h => ?_)
  · obtain ⟨B, P, s, ⟨u, xs, k, rfl, _⟩, _⟩ := h
    rfl
  · obtain ⟨B0, P, s0, ⟨u, xs, k, rfl, hu, hx, hxk, hk, rfl⟩, kk⟩ := h
    refine ⟨_, (pss_cons (ps_set (i := 2) sc_lots_of.nd rfl (.inl rfl) (pe_lst (pa_cons (pe_tup pa_nil) pa_nil)))
      (pss_cons (ps_for PassesOwn.never rfl (piEn K (by rfl) T.enumerate (pa_cons (pv 0) pa_nil)) (pgT K rfl (pgs_cons (pg_name (i := 3) sc_lots_of.nd rfl (.inl rfl)) (pgs_cons (pg_name (i := 4) sc_lots_of.nd rfl (.inr rfl)) pgs_nil)) (n := 2))
        (pss_cons (ps_set (i := 5) sc_lots_of.nd rfl (.inr rfl) (pe_op op_sub (pe_callB (lenS K) (by rfl) T.len PySem.boot_len (pa_cons (pv 0) pa_nil)) (pv 3)))
        (pss_cons (ps_set (i := 2) sc_lots_of.nd rfl (.inl rfl) (pe_op op_cat (pv 2) (pe_lc (own := [("lot", 6)]) rfl sc_lots_of.nd (piL K (pv 2)) (blkOk_by (by kernel_rfl)) (fun _ _ _ _ _ => (pg_name (i := 6) sc_lots_of.nd rfl (.inl rfl))) (fun _ _ _ _ _ => (pts_one (pt_cmpR op_lt (pe_callB (lenS K) (by rfl) T.len PySem.boot_len (pa_cons (pv 6) pa_nil)) (pv 1) (nomark _)))) (fun _ _ _ _ _ => (pe_op (catA K) (pv 6) (pe_tup (pa_cons (pv 4) pa_nil)))))))
        (pss_one (ps_setLc (i := 2) (own := [("lot", 6)]) rfl sc_lots_of.nd rfl rfl (sw_true rfl rfl rfl (by decide +kernel)) (piL K (pv 2)) (blkOk_by (by kernel_rfl)) (fun _ _ _ _ _ => (pg_name (i := 6) sc_lots_of.nd rfl (.inl rfl))) (fun _ _ _ _ _ => (pts_one (pt_cmpR op_gt (pe_op op_add (pe_callB (lenS K) (by rfl) T.len PySem.boot_len (pa_cons (pv 6) pa_nil)) (pv 5)) (pv 1) (nomark _)))) (fun _ _ _ _ _ => (pv 6)))))))
      (pss_one (ps_ret (pv 2))))), ?_⟩
    have hlo : LO (fun s => RX (vn s)) xs u B0 := VL.lo (f := vn) hu
    refine s_asg (D := { nx := _, rt := _ }) (em_lst1 (R := fun l => IT l) (x := []) (ev_tupx (xs := []) ea_nil)).lo s0 fun fv B1 H1 g1 hf => ?_
    refine s_forEn (D := { nx := _, rt := _ }) (een_list (R := fun s => RX (vn s)) (ea_c (ev_var 0 rfl (Mn.mn g1.bb hlo)) ea_nil)) g1.sub (fun i σ B' H' => ∃ x3 x4 x5 x6 fv, σ = [some u, some (vn k), some fv, x3, x4, x5, x6] ∧ Gr B0 H B' H' ∧ LO (fun l => IT l) (lotsP xs.length k (xs.take i)) fv B')
      (fun B' H' g => ?_) (fun i σ B' H' B2 H2 g => ?_) (fun i s sv T σ Bp B' H' hi sp s2 => ?_) (fun σ B' H' s2 => ?_)
    · exact ⟨_, _, _, _, fv, rfl, g1.trans g, Mn.mn g.bb hf⟩
    · rintro ⟨x3, x4, x5, x6, fv, rfl, g0, hf⟩
      exact ⟨_, _, _, _, fv, rfl, g0.trans g, Mn.mn g.bb hf⟩
    · rintro ⟨x3, x4, x5, x6, fv, rfl, g0, hf⟩ hsv hT
      cases hsv
      refine ⟨T, _, rfl, SqT.of (s2 _ _ hT), rfl, _, _, rfl, _, _, rfl, rfl, ?_⟩
      have hilt := (List.getElem?_eq_some_iff.mp hi).1
      have hil : (xs.take i).length = i := by rw [List.length_take]; omega
      have hb := lotsP_b xs.length k (xs.take i)
      have hF := lotsP_mem xs.length k (by omega) (xs.take i) (by omega)
      have hsn := lotsP_snoc xs.length k (xs.take i) s
      rw [hil] at hb hsn
      generalize hFe : lotsP xs.length k (xs.take i) = F at hf hb hF hsn
      have hFl := hb.le (by omega) (by omega)
      have hFl1 := (hb.step (x := s)).le (by omega) (by omega)
      have htk : xs.take (i + 1) = xs.take i ++ [s] := by rw [List.take_add_one, hi]; rfl
      refine s_asg (P := RX (vn (xs.length - i))) (ev_subN (ev_len (ev_var 0 rfl (Mn.mn g0.bb hu)) (pn_VL (List.length_map ..))) (evx 3 rfl) (by omega)) s2 fun lv B2 H2 g2 el => ?_
      cases el
      have hf2 : LO (fun l => IT l) F fv B2 := Mn.mn g2.bb hf
      refine s_asg (P := LO (fun l => IT l) (lotX k s F)) (ev_catL (ev_var 2 rfl hf2) (em_lcN (R := fun l => IT l) (R' := fun l => IT l) (ei_list (ev_var 2 rfl hf2)) (fun l => decide (l.length < k)) (fun l => l ++ [s]) (by omega) (fun _ => rfl) fun l lv B3 H3 hm g3 hlv => ⟨et_val (ev_ltN (ev_lenT (ev_var 6 rfl hlv)) (evx 1 rfl)), fun hp => ev_snocT (ev_var 6 rfl hlv) (evx 4 rfl) ?_⟩).lo ?_) g2.sub fun fv2 B3 H3 g3 hf3 => ?_
      · have := ((hF l).mp hm).1.length_le
        rw [List.length_take] at this; omega
      · have : (F.filter fun l => decide (l.length < k)).length ≤ F.length := List.length_filter_le _ _
        rw [List.length_map]; omega
      · have hXl : (lotX k s F).length ≤ 1024 := hFl1
        refine s_asg (P := LO (fun l => IT l) ((lotX k s F).filter fun l => decide (k < l.length + (xs.length - i)))) ((em_lcN (R := fun l => IT l) (R' := fun l => IT l) (ei_list (ev_var 2 rfl hf3)) (fun l => decide (k < l.length + (xs.length - i))) id (by omega) (fun _ => rfl) fun l lv B4 H4 hm g4 hlv => ⟨et_val (ev_gtN (ev_addN (ev_lenT (ev_var 6 rfl hlv)) (evx 5 rfl)) (evx 1 rfl)), fun _ => ev_var 6 rfl hlv⟩).lo.imp fun v B' _ h => id_lo h) g3.sub fun fv3 B4 H4 g4 hf4 => ?_
        exact ⟨B4, ((sp.trans g2.bb).trans g3.bb).trans g4.bb, g4.sub, _, _, _, _, fv3, rfl, ((g0.trans g2).trans g3).trans g4, by rw [htk, hsn]; exact hf4⟩
    · rintro ⟨x3, x4, x5, x6, fv, rfl, g0, hf⟩
      rw [List.take_length] at hf
      exact s_ret (D := { nx := _, rt := _ }) (ev_var 2 rfl hf) s2 fun w B3 H3 g3 hw => kk w B3 H3 (g0.trans g3) hw
/-! ### _law_lots -/
abbrev spLawLots : Sp := Pr fun vs B P => ∃ u xs k, vs = [u, vn k] ∧ IL xs u B ∧ xs.length ≤ 30 ∧ (xs.length ≤ 10 ∨ k ≤ 1) ∧ P = LO (fun l => IT l) (lotsL k xs)
theorem sc__law_lots : FnScope ["_law_standings", "_law_many", "_law_found", "_law_standing", "_law_lot"] ["_law_standings", "_law_many"] (defScope (tp 60)) := ⟨rfl, rfl, rfl, by decide +kernel, rfl, by decide +kernel, by decide +kernel⟩
theorem ok_law_lots (D : Dn K mg "_law_lots" "_law_lots" (tp 60)) (T : Tx mg) : Cal P w K mg base 1 "_law_lots" spLawLots := by
  refine cal_of D sc__law_lots (fun _ _ _ _ _ _ us hl => match us, hl with | [_, _], _ => rfl) (fun vs H Q E h => ?_) (fun cdv A outer s f H vs Q E hr h => ?_)
  · obtain ⟨B, P, s, ⟨u, xs, k, rfl, _⟩, _⟩ := h
    rfl
  · obtain ⟨B0, P, s0, ⟨u, xs, k, rfl, hu, hx, hxk, rfl⟩, kk⟩ := h
    refine ⟨_, (pss_cons (ps_set (i := 2) sc__law_lots.nd rfl (.inl rfl) (pe_lst (pa_cons (pe_tup pa_nil) pa_nil)))
      (pss_cons (ps_for PassesOwn.never rfl (piL K (pv 0)) (pg_name (i := 3) sc__law_lots.nd rfl (.inr rfl))
        (pss_one (ps_set (i := 2) sc__law_lots.nd rfl (.inl rfl) (pe_op op_cat (pv 2) (pe_lc (own := [("_law_lot", 4)]) rfl sc__law_lots.nd (piL K (pv 2)) (blkOk_by (by kernel_rfl)) (fun _ _ _ _ _ => (pg_name (i := 4) sc__law_lots.nd rfl (.inl rfl))) (fun _ _ _ _ _ => (pts_one (pt_cmpR op_lt (pe_callB (lenS K) (by rfl) T.len PySem.boot_len (pa_cons (pv 4) pa_nil)) (pv 1) (nomark _)))) (fun _ _ _ _ _ => (pe_op (catA K) (pv 4) (pe_tup (pa_cons (pv 3) pa_nil)))))))))
      (pss_one (ps_ret (pv 2))))), ?_⟩
    refine s_asg (D := { nx := _, rt := _ }) (em_lst1 (R := fun l => IT l) (x := []) (ev_tupx (xs := []) ea_nil)).lo s0 fun fv B1 H1 g1 hf => ?_
    refine s_for (D := { nx := _, rt := _ }) (ei_VL (f := vn) (ev_var 0 rfl (Mn.mn g1.bb hu))) g1.sub (fun i σ B' H' => ∃ x3 x4 fv, σ = [some u, some (vn k), some fv, x3, x4] ∧ Gr B0 H B' H' ∧ LO (fun l => IT l) (lotsL k (xs.take i)) fv B')
      (fun B' H' g => ?_) (fun i s sv σ B2 H2 hi s2 => ?_) (fun σ B' H' s2 => ?_)
    · exact ⟨_, _, fv, rfl, g1.trans g, Mn.mn g.bb hf⟩
    · rintro ⟨x3, x4, fv, rfl, g0, hf2⟩ hsv
      cases hsv
      have hilt := (List.getElem?_eq_some_iff.mp hi).1
      have hil : (xs.take i).length = i := by rw [List.length_take]; omega
      have hb := lotsL_b k (xs.take i)
      have hF := lotsL_mem k (xs.take i)
      have hsn := lotsL_snoc k (xs.take i) s
      rw [hil] at hb
      generalize hFe : lotsL k (xs.take i) = F at hf2 hb hF hsn
      have hFl := hb.le (by omega) (by omega)
      have htk : xs.take (i + 1) = xs.take i ++ [s] := by rw [List.take_add_one, hi]; rfl
      refine s_asg (P := LO (fun l => IT l) (lotX k s F)) (ev_catL (ev_var 2 rfl hf2) (em_lcN (R := fun l => IT l) (R' := fun l => IT l) (ei_list (ev_var 2 rfl hf2)) (fun l => decide (l.length < k)) (fun l => l ++ [s]) (by omega) (fun _ => rfl) fun l lv B3 H3 hm g3 hlv => ⟨et_val (ev_ltN (ev_lenT (ev_var 4 rfl hlv)) (evx 1 rfl)), fun hp => ev_snocT (ev_var 4 rfl hlv) (evx 3 rfl) ?_⟩).lo ?_) s2 fun fv2 B3 H3 g3 hf3 => ?_
      · have := ((hF l).mp hm).1.length_le
        rw [List.length_take] at this; omega
      · have : (F.filter fun l => decide (l.length < k)).length ≤ F.length := List.length_filter_le _ _
        rw [List.length_map]; omega
      · exact ⟨B3, g3.bb, g3.sub, _, _, fv2, rfl, g0.trans g3, by rw [htk, hsn]; exact hf3⟩
    · rintro ⟨x3, x4, fv, rfl, g0, hf⟩
      rw [List.take_length] at hf
      exact s_ret (D := { nx := _, rt := _ }) (ev_var 2 rfl hf) s2 fun w B3 H3 g3 hw => kk w B3 H3 (g0.trans g3) hw
end
end Lw
/-! Me: bears, weak. -/
namespace Lw
open PySem PySem.Spec PyProof.Rows L2
section
variable {P : Program} {w : World} {K : PySem.W.Frag} {mg : Str → Option Value} {base : Heap}
variable {B H B0 H0 B1 H1 B2 H2 B' H' : Hp} {σ : Slo} {te ta tb tl td tv : TE} {a C CB dx d : Addr} {b : Bool} {x v : V} {m n i j : Nat} {fs : List (Str × V)} {f kf : Str} {PV : VP} {ps ts : List (Nat × Nat)} {told : List (List Nat)}
theorem dec_not {T : Prop} (i : Decidable (¬ T)) (j : Decidable T) : @decide (¬ T) i = !(@decide T j) := by
  cases j with
  | isTrue t => rw [decide_eq_false fun h : ¬ T => h t]; rfl
  | isFalse t => rw [decide_eq_true t]; rfl
def ChV (T : Prop) : VP := fun w _ => ∃ b : Bool, (b = true ↔ T) ∧ if b = true then ∃ a, w = .ref a else w = .non
instance {T : Prop} : Mn (ChV T) := ⟨fun _ h => h⟩
theorem ev_notNC {T : Prop} (h : Ev te σ B H (ChV T)) : Ev (tOp (fun x y H Q => y = .non ∧ Q (.bl (!decide (x = .non))) H) te (tC .non)) σ B H (BT T) :=
  ev_opP h ev_c fun x y B' H' g ⟨b, hb, e⟩ p' Q q => by
    cases p'
    refine ⟨rfl, q _ B' H' g.ok ⟨_, rfl, ?_⟩⟩
    cases b with
    | true =>
      obtain ⟨a, rfl⟩ : ∃ a, x = .ref a := e
      exact ⟨fun _ => hb.mp rfl, fun _ => rfl⟩
    | false =>
      have e' : x = .non := e
      subst e'
      exact ⟨fun h => by simp at h, fun t => absurd (hb.mpr t) (by decide)⟩
theorem ev_isNC {T : Prop} (h : Ev te σ B H (ChV T)) : Ev (tOp (fun x y H Q => y = .non ∧ Q (.bl (decide (x = .non))) H) te (tC .non)) σ B H (BT (¬ T)) :=
  ev_opP h ev_c fun x y B' H' g ⟨b, hb, e⟩ p' Q q => by
    cases p'
    refine ⟨rfl, q _ B' H' g.ok ⟨_, rfl, ?_⟩⟩
    cases b with
    | true =>
      obtain ⟨a, rfl⟩ : ∃ a, x = .ref a := e
      exact ⟨fun h => by simp at h, fun t => absurd (hb.mp rfl) t⟩
    | false =>
      have e' : x = .non := e
      subst e'
      exact ⟨fun _ t => absurd (hb.mpr t) (by decide), fun _ => by simp⟩
/-- the hot arguments -/
structure HArgs (C CB : Addr) (n m : Nat) (ps ts : List (Nat × Nat)) (told : List (List Nat)) (v bk u : V) (B : Hp) : Prop where
  web : WebH C n ps v B
  book : BkR CB m ts bk B
  val : TO (fun l => IT l) told u B
  ok : CaseOk n ps m ts told
theorem HArgs.mn {v bk u : V} (h : HArgs C CB n m ps ts told v bk u B) (s : Same B B') : HArgs C CB n m ps ts told v bk u B' := ⟨Mn.mn s h.web, Mn.mn s h.book, Mn.mn s h.val, h.ok⟩
theorem LArgs.hot {v bk u : V} (h : LArgs C CB n m ps ts told d v bk u B) (hot : WHot d n ps B) : HArgs C CB n m ps ts told v bk u B := ⟨⟨d, h.web, hot⟩, h.book, h.val, h.ok⟩
def LeftV (ps : List (Nat × Nat)) (told : List (List Nat)) (lost : List Nat) : VP := fun r B' => ∃ rows, LeftOk ps told lost rows ∧ TO (fun r => LO (fun p => IT p) r) rows r B'
instance {lost : List Nat} : Mn (LeftV ps told lost) := ⟨fun s ⟨rows, h, k⟩ => ⟨rows, h, Mn.mn s k⟩⟩
/-- chosen_pieces(web, book, pieces_left(web, told, lot)) -/
theorem ev_chosen {v bk u : V} {lost : List Nat} {E E' : XK} {tw tb tu : TE} (ar : HArgs C CB n m ps ts told v bk u B) (hw : Ev tw σ B H (RX v)) (hb : Ev tb σ B H (RX bk)) (hw' : Ev tv σ B H (RX v)) (hu : Ev tu σ B H (RX u)) (hl : Ev tl σ B H (IT lost)) :
    Ev (tCall (spChosen C CB) [] E (tCons tw (tCons tb (tCons (tCall (spLeft C) [] E' (tCons tv (tCons tu (tCons tl tNil)))) tNil)))) σ B H (ChV (Rem ps ts told lost)) := by
  have ok := ar.ok
  have hm : told.length ≤ 6 := by rw [ok.len]; exact ok.m2
  refine ev_call (ea_c (P := WebH C n ps) (hw.imp fun v' B' s e => by cases e; exact Mn.mn s ar.web) (ea_c (P := BkR CB m ts) (hb.imp fun v' B' s e => by cases e; exact Mn.mn s ar.book) (ea_c (P := LeftV ps told lost)
    (ev_call (ea_c (P := WebH C n ps) (hw'.imp fun v' B' s e => by cases e; exact Mn.mn s ar.web) (ea_c (P := TO (fun l => IT l) told) (hu.imp fun v' B' s e => by cases e; exact Mn.mn s ar.val) (ea_c (P := IT lost) hl ea_nil))) fun vs B' s' hvs => ?_) ea_nil))) fun vs B' s' hvs => ?_
  · obtain ⟨v', _, rfl, hv', u', _, rfl, hu', l', _, rfl, hl', rfl⟩ := hvs
    exact ⟨v', u', l', n, ps, told, lost, rfl, hv', hu', hl', ok.pok, ok.n2, ok.tld.ok, by omega, rfl⟩
  · obtain ⟨v', _, rfl, hv', b', _, rfl, hb', r', _, rfl, ⟨rows, lk, hr⟩, rfl⟩ := hvs
    obtain ⟨h1, h2⟩ := lk.sizes ok.tld ok.n2 hm
    refine ⟨v', b', r', n, ps, m, ts, rows, rfl, hv', hb', hr, ok.pok, ok.n2, ok.tok, by have := ok.m2; omega, by rw [lk.len, ok.len], h1, by omega, ?_⟩
    rw [propext (choice_rem lk.rf ok.tok ok.len)]
    rfl
theorem s_dropW {D : Ends} (h : EvW d n ps te σ B H PV) (k : ∀ B' H', GW d n ps B H B' H' → WHot d n ps B' → D.nx σ H') : tDrop te D σ H :=
  h (fun _ H1 => D.nx σ H1) fun v B' H' g hot _ => k B' H' g hot
abbrev spBears (C CB : Addr) : Sp := fun vs H Q _ => ∃ B n m ps ts told d v bk u k, vs = [v, bk, u, vn k] ∧ LArgs C CB n m ps ts told d v bk u B ∧ Same B H ∧ WSt d n ps B H ∧ k ≤ 3 ∧ (told.flatten.length ≤ 10 ∨ k ≤ 1) ∧
  ∀ w B' H', Gr B (offd d B H) B' H' → WHot d n ps B' → BT (BearsL ps ts told k) w B' → Q w H'
theorem sc_bears : FnScope ["web", "book", "told", "many", "standings", "lot"] ["web", "book", "told", "many"] (defScope (tp 44)) := ⟨rfl, rfl, rfl, by decide +kernel, rfl, by decide +kernel, by decide +kernel⟩
theorem ok_bears (D : Dn K mg "bears" "bears" (tp 44)) (T : Tx mg) (c_is_within : Cal P w K mg base 2 "is_within" spWithin) (c_check_lands : Cal P w K mg base 6 "check_lands" (spLands C CB .non)) (c_all_standings : Cal P w K mg base 1 "all_standings" spAll)
    (c_lots_of : Cal P w K mg base 1 "lots_of" spLots) (c_chosen_pieces : Cal P w K mg base 5 "chosen_pieces" (spChosen C CB)) (c_pieces_left : Cal P w K mg base 4 "pieces_left" (spLeft C)) : Cal P w K mg base 7 "bears" (spBears C CB) := by
  refine cal_of D sc_bears (fun _ _ _ _ _ _ us hl => match us, hl with | [_, _, _, _], _ => rfl) (fun vs H Q E h => ?_) (fun cdv A outer s f H vs Q E hr h => ?_)
  · obtain ⟨B, n, m, ps, ts, told, d, v, bk, u, k, rfl, _⟩ := h
    rfl
  · obtain ⟨B0, n, m, ps, ts, told, d, v, bk, u, k, rfl, ar, s0, st, hk3, hk, kk⟩ := h
    refine ⟨_, (pss_cons (ps_expr (pe_k c_check_lands hr (by decide) rfl (pa_cons (pv 0) (pa_cons (pv 1) (pa_cons (pv 2) pa_nil)))))
      (pss_cons (ps_if (pt_not (pt_val (pe_k c_is_within hr (by decide) rfl (pa_cons (pv 3) (pa_cons pe_int (pa_cons (pe_glob (v := .int 3) rfl T.MOST_BROKEN.choose_spec ⟨_, rfl⟩) pa_nil)))))) (pss_one ps_never) pss_nil)
      (pss_cons (ps_set (i := 4) sc_bears.nd rfl (.inl rfl) (pe_k c_all_standings hr (by decide) rfl (pa_cons (pv 2) pa_nil)))
      (pss_cons (ps_if (PW.pt (pw_and (pt_cmpR op_gt (pv 3) pe_int (nomark _)) (pw_and1 (pt_cmpR op_gt (pe_callB (lenS K) (by rfl) T.len PySem.boot_len (pa_cons (pv 4) pa_nil)) (pe_glob (v := .int 40) rfl T.MOST_TOGETHER.choose_spec ⟨_, rfl⟩) (nomark _))))) (pss_one ps_never) pss_nil)
      (pss_cons (ps_if (pt_cmpR op_ge (pv 3) (pe_callB (lenS K) (by rfl) T.len PySem.boot_len (pa_cons (pv 4) pa_nil)) (nomark _)) (pss_one (ps_ret pe_bl)) pss_nil)
      (pss_one (ps_ret (pe_callB (allK K rfl) (by rfl) T.all (by decide +kernel) (pa_cons (pe_lc (own := [("lot", 5)]) rfl sc_bears.nd (piL K (pe_k c_lots_of hr (by decide) rfl (pa_cons (pv 4) (pa_cons (pv 3) pa_nil)))) (blkOk_by (by kernel_rfl)) (fun _ _ _ _ _ => (pg_name (i := 5) sc_bears.nd rfl (.inl rfl))) (fun _ _ _ _ _ => pts_nil) (fun _ _ _ _ _ => (pe_cmpR op_notN (pe_k c_chosen_pieces hr (by decide) rfl (pa_cons (pv 0) (pa_cons (pv 1) (pa_cons (pe_k c_pieces_left hr (by decide) rfl (pa_cons (pv 0) (pa_cons (pv 2) (pa_cons (pv 5) pa_nil)))) pa_nil)))) pe_non (nomark _)))) pa_nil))))))))), ?_⟩
    have ok := ar.ok
    refine s_dropW (D := { nx := _, rt := _ }) (d := d) (n := n) (ps := ps) (B := B0) (evw_lands (ea_x (evx 0 rfl) (ea_x (evx 1 rfl) (ea_x (evx 2 rfl) ea_nil))) ar s0 st) fun B1 H1 gw hot => ?_
    have hr1 := (ar.mn gw.bb).hot hot
    have fin : ∀ B' H', Gr B1 H1 B' H' → Gr B0 (offd d B0 H) B' H' := fun B' H' g => by
      have g1 := gw.gr
      obtain ⟨l, rows, hd, _⟩ := id hot
      rw [offd_hot gw.sub hd] at g1
      exact g1.trans g
    have hfl : told.flatten.length ≤ 30 := Nat.le_trans ok.tld.flat_len ok.n2
    have hsl := srt_len told.flatten
    have htn : told ≠ [] := fun e => by have := ok.len; have := ok.m1; subst e; simp at *; omega
    refine s_if (D := { nx := _, rt := _ }) (b := false) (et_not (b := true) (et_B ((ev_call (P := RX (.bl (decide ((0 : Int) ≤ (k : Int)) && decide ((k : Int) ≤ 3)))) (ea_x (evx 3 rfl) (ea_x ev_c (ea_x ev_c ea_nil))) fun vs B' _ e => ⟨k, 0, 3, by cases e; rfl, rfl⟩).eq (by rw [decide_eq_true (by omega), decide_eq_true (by omega)]; rfl)))) gw.sub (fun e => nomatch e) fun _ B2 H2 g2 => ?_
    refine s_asg (D := { nx := _, rt := _ }) (ev_call (P := IL (srt told.flatten)) (ea_c (P := TO (fun l => IT l) told) (ev_var 2 rfl (hr1.mn g2.bb).val) ea_nil) fun vs B' s' hvs => ?_) g2.sub fun sv B3 H3 g3 hsv => ?_
    · obtain ⟨u', _, rfl, hu', rfl⟩ := hvs
      exact ⟨u', told, rfl, hu', by omega, rfl⟩
    refine s_if (D := { nx := _, rt := _ }) (b := decide (1 < k) && false) (et_and (et_B (ev_gtN (evx 3 rfl) ev_1)) fun _ => (et_B (ev_gtN (n := 40) (ev_len (ev_var 4 rfl hsv) (pn_VL (n := (srt told.flatten).length) (List.length_map ..))) ev_c)).eq (decide_eq_false (by omega))) g3.sub (fun e => by simp at e) fun _ B4 H4 g4 => ?_
    have hsv4 : IL (srt told.flatten) sv B4 := Mn.mn g4.bb hsv
    refine s_if (D := { nx := _, rt := _ }) (et_val (ev_geN (evx 3 rfl) (ev_len (ev_var 4 rfl hsv4) (pn_VL (n := (srt told.flatten).length) (List.length_map ..))))) g4.sub (fun e B5 H5 g5 => ?_) (fun e B5 H5 g5 => ?_)
    · have e := of_decide_eq_true e
      have gg := ((g2.trans g3).trans g4).trans g5
      refine kk (.bl false) B5 H5 (fin _ _ gg) (hot.mn gg.bb) ⟨false, rfl, fun h => absurd h (by decide), fun h => ?_⟩
      have := ((bears_eq (ps := ps) (ts := ts) k htn).mpr h).1
      omega
    · have e := of_decide_eq_false e
      have g25 := ((g2.trans g3).trans g4).trans g5
      have hsv5 : IL (srt told.flatten) sv B5 := Mn.mn g5.bb hsv4
      have hb := (lotsP_b (srt told.flatten).length k (srt told.flatten)).le (by omega) (by omega)
      have hmem := lotsP_mem (srt told.flatten).length k (by omega) (srt told.flatten) (Nat.le_refl _)
      refine s_ret (D := { nx := _, rt := _ }) (ev_allBT (T := fun lot => Rem ps ts told lot) (em_lcM (R := fun l => IT l) (R' := fun lot => BT (Rem ps ts told lot)) (ei_list (ev_call (P := LO (fun l => IT l) (lotsP (srt told.flatten).length k (srt told.flatten))) (ea_c (P := IL (srt told.flatten)) (ev_var 4 rfl hsv5) (ea_x (evx 3 rfl) ea_nil)) fun vs B' s' hvs => ?_)) id (by omega) (fun _ => rfl) fun lot lv B' H' hm g hlv => ?_).lo) g5.sub fun w B' H' g hb => ?_
      · obtain ⟨u', _, rfl, hu', rfl⟩ := hvs
        exact ⟨u', _, k, rfl, hu', by omega, by omega, by omega, rfl⟩
      · exact ev_notNC (ev_chosen (hr1.mn (g25.trans g).bb) (evx 0 rfl) (evx 1 rfl) (evx 0 rfl) (evx 2 rfl) (ev_var 5 rfl hlv))
      · have gg := g25.trans g
        obtain ⟨c, ec, hc⟩ := hb
        refine kk w B' H' (fin _ _ gg) (hot.mn gg.bb) ⟨c, ec, hc.trans ?_⟩
        rw [List.map_id, ← bears_eq k htn]
        constructor
        · intro h
          refine ⟨by omega, fun lot hs hl => h lot ((hmem lot).mpr ⟨hs, by omega, by omega⟩)⟩
        · rintro ⟨_, h⟩ lot hlot
          have := (hmem lot).mp hlot
          exact h lot this.1 (by omega)
/-! ### weak -/
open Classical in
noncomputable def weakL (ps ts : List (Nat × Nat)) (told : List (List Nat)) : List Nat := (srt told.flatten).filter fun s => !decide (Rem ps ts told [s])
abbrev spWeak (C CB : Addr) : Sp := fun vs H Q _ => ∃ B n m ps ts told d v bk u, vs = [v, bk, u] ∧ LArgs C CB n m ps ts told d v bk u B ∧ Same B H ∧ WSt d n ps B H ∧
  ∀ L B' H', Gr B (offd d B H) B' H' → WHot d n ps B' → offd d B H L = none → B' L = none → H' L = some (.lst ((weakL ps ts told).map vn)) → Q (.ref L) H'
theorem sc_weak : FnScope ["web", "book", "told", "found", "standing"] ["web", "book", "told"] (defScope (tp 45)) := ⟨rfl, rfl, rfl, by decide +kernel, rfl, by decide +kernel, by decide +kernel⟩
open Classical in
theorem ok_weak (D : Dn K mg "weak" "weak" (tp 45)) (T : Tx mg) (c_check_lands : Cal P w K mg base 6 "check_lands" (spLands C CB .non)) (c_all_standings : Cal P w K mg base 1 "all_standings" spAll)
    (c_chosen_pieces : Cal P w K mg base 5 "chosen_pieces" (spChosen C CB)) (c_pieces_left : Cal P w K mg base 4 "pieces_left" (spLeft C)) : Cal P w K mg base 7 "weak" (spWeak C CB) := by
  refine cal_of D sc_weak (fun _ _ _ _ _ _ us hl => match us, hl with | [_, _, _], _ => rfl) (fun vs H Q E h => ?_) (fun cdv A outer s f H vs Q E hr h => ?_)
  · obtain ⟨B, n, m, ps, ts, told, d, v, bk, u, rfl, _⟩ := h
    rfl
  · obtain ⟨B0, n, m, ps, ts, told, d, v, bk, u, rfl, ar, s0, st, kk⟩ := h
    refine ⟨_, (pss_cons (ps_expr (pe_k c_check_lands hr (by decide) rfl (pa_cons (pv 0) (pa_cons (pv 1) (pa_cons (pv 2) pa_nil)))))
      (pss_cons (ps_set (i := 3) sc_weak.nd rfl (.inl rfl) (pe_lst pa_nil))
      (pss_cons (ps_for PassesOwn.never rfl (piL K (pe_k c_all_standings hr (by decide) rfl (pa_cons (pv 2) pa_nil))) (pg_name (i := 4) sc_weak.nd rfl (.inl rfl))
        (pss_one (ps_if (pt_cmpR op_isN (pe_k c_chosen_pieces hr (by decide) rfl (pa_cons (pv 0) (pa_cons (pv 1) (pa_cons (pe_k c_pieces_left hr (by decide) rfl (pa_cons (pv 0) (pa_cons (pv 2) (pa_cons (pe_tup (pa_cons (pv 4) pa_nil)) pa_nil)))) pa_nil)))) pe_non (nomark _)) (pss_one (ps_expr (bmK K PySem.F.plainAttrs_list PySem.F.slot_list_append PySem.F.type_list_append mt_append (pv 3) (pa_cons (pv 4) pa_nil)))) pss_nil)))
      (pss_one (ps_ret (pv 3)))))), ?_⟩
    have ok := ar.ok
    refine s_dropW (D := { nx := _, rt := _ }) (d := d) (n := n) (ps := ps) (B := B0) (evw_lands (ea_x (evx 0 rfl) (ea_x (evx 1 rfl) (ea_x (evx 2 rfl) ea_nil))) ar s0 st) fun B1 H1 gw hot => ?_
    have hr1 := (ar.mn gw.bb).hot hot
    have gw1 : Gr B0 (offd d B0 H) B1 H1 := by
      have g1 := gw.gr
      obtain ⟨l, rows, hd, _⟩ := id hot
      rw [offd_hot gw.sub hd] at g1
      exact g1
    have hfl : told.flatten.length ≤ 30 := Nat.le_trans ok.tld.flat_len ok.n2
    have hsl := srt_len told.flatten
    refine s_asgM (D := { nx := _, rt := _ }) (em_lst (xs := []) ea_nil) gw.sub fun L vs B2 H2 g2 nL bL hL e => ?_
    cases e
    have nL0 : offd d B0 H L = none := gw1.hh.free nL
    refine s_for (D := { nx := _, rt := _ }) (ei_VL (f := vn) (ev_call (P := IL (srt told.flatten)) (ea_c (P := TO (fun l => IT l) told) (ev_var 2 rfl (hr1.mn g2.bb).val) ea_nil) fun vs B' s' hvs => ?_)) g2.sub (fun i σ B' H' => ∃ x4, σ = [some v, some bk, some u, some (.ref L), x4] ∧ Gr B0 (offd d B0 H) B' H' ∧ Same B1 B' ∧ B' L = none ∧ H' L = some (.lst ((((srt told.flatten).take i).filter fun s => !decide (Rem ps ts told [s])).map vn)))
      (fun B' H' g => ?_) (fun i s sv σ B' H' hi s2 => ?_) (fun σ B' H' s2 => ?_)
    · obtain ⟨u', _, rfl, hu', rfl⟩ := hvs
      exact ⟨u', told, rfl, hu', by omega, rfl⟩
    · exact ⟨_, rfl, (gw1.trans g2).trans g, g2.bb.trans g.bb, (g.own bL hL mo_lst).1, by rw [List.take_zero]; exact g.hh _ _ hL⟩
    · rintro ⟨x4, rfl, g0, sb, bL, hL⟩ e
      cases e
      have hr' := hr1.mn sb
      have htk : (srt told.flatten).take (i + 1) = (srt told.flatten).take i ++ [s] := by rw [List.take_add_one, hi]; rfl
      have hfi := filter_take_succ (p := fun s => !decide (Rem ps ts told [s])) hi
      show tIfS _ _ _ _ _ _
      refine s_if (b := !decide (Rem ps ts told [s])) (et_val ((ev_isNC (ev_chosen (lost := [s]) hr' (evx 0 rfl) (evx 1 rfl) (evx 0 rfl) (evx 2 rfl) (ev_tupx (ea_x (evx 4 rfl) ea_nil)))).bt.eq (congrArg V.bl (dec_not _ _)))) s2 (fun e B3 H3 g3 => ?_) (fun e B3 H3 g3 => ?_)
      · have b3 := (g3.own bL hL mo_lst).1
        refine s_app (evx 3 rfl) (evx 4 rfl) g3.sub (g3.hh _ _ hL) ?_ fun v4 B4 H4 g4 h4 e4 => ?_
        · have h1 := List.length_filter_le (fun s => !decide (Rem ps ts told [s])) ((srt told.flatten).take i)
          rw [List.length_map]
          rw [List.length_take] at h1
          omega
        · cases e4
          have b4 := (g4.own b3 (g3.hh _ _ hL) mo_lst).1
          have gg := ((g0.trans g3).trans g4).put (o := .lst ((((srt told.flatten).take i).filter fun s => !decide (Rem ps ts told [s])).map vn ++ [vn s])) nL0 b4
          refine ⟨B4, g3.bb.trans g4.bb, gg.sub, _, rfl, gg, (sb.trans g3.bb).trans g4.bb, b4, ?_⟩
          rw [upd_same, hfi, if_pos e, List.map_append]; rfl
      · refine ⟨B3, g3.bb, g3.sub, _, rfl, g0.trans g3, sb.trans g3.bb, (g3.own bL hL mo_lst).1, ?_⟩
        rw [g3.hh _ _ hL, hfi, if_neg (by rw [e]; decide), List.append_nil]
    · rintro ⟨x4, rfl, g0, sb, bL, hL⟩
      rw [List.take_length] at hL
      refine s_ret (D := { nx := _, rt := _ }) (evx 3 rfl) s2 fun w B3 H3 g3 e => ?_
      cases e
      have b3 := (g3.own bL hL mo_lst).1
      exact kk L B3 H3 (g0.trans g3) (hot.mn (sb.trans g3.bb)) nL0 b3 (g3.hh _ _ hL)
end
end Lw
/-! Mf: _law_piece, _law_pieces, _law_touch, _law_left. -/
namespace Lw
open PySem PySem.Spec PyProof.Rows L2
/-! ### plain -/
open Classical in
/-- the component of c within S, ascending -/
noncomputable def compL (n : Nat) (ps : List (Nat × Nat)) (S : List Nat) (c : Nat) : List Nat := (List.range n).filter fun x => decide (Rch (Adj ps) (· ∈ S) c x)
section
variable {n c : Nat} {ps : List (Nat × Nat)} {S ks row t' : List Nat} {q : Nat}
open Classical in
theorem mem_compL (h : PsOk n ps) (hc : c < n) {x : Nat} : x ∈ compL n ps S c ↔ Rch (Adj ps) (· ∈ S) c x := by
  unfold compL
  rw [List.mem_filter, List.mem_range]
  exact ⟨fun z => of_decide_eq_true z.2, fun r => ⟨rch_lt h hc r, decide_eq_true r⟩⟩
theorem compL_asc (n : Nat) (ps : List (Nat × Nat)) (S : List Nat) (c : Nat) : (compL n ps S c).Pairwise (· < ·) := List.Pairwise.filter _ List.pairwise_lt_range
theorem asc_eq {a b : List Nat} (ha : a.Pairwise (· < ·)) (hb : b.Pairwise (· < ·)) (h : ∀ x, x ∈ a ↔ x ∈ b) : a = b := by
  have na : a.Nodup := ha.imp fun h => Nat.ne_of_lt h
  have nb : b.Nodup := hb.imp fun h => Nat.ne_of_lt h
  exact List.Perm.eq_of_pairwise (le := fun a b : Nat => a < b) (fun a b _ _ h1 h2 => absurd h1 (by omega)) ha hb ((List.perm_ext_iff_of_nodup na nb).mpr h)
theorem srt_lt {l : List Nat} (h : l.Nodup) : (srt l).Pairwise (· < ·) := by
  have h1 := srt_asc l
  have h2 := srt_nodup h
  exact (h1.and h2).imp fun ⟨h, k⟩ => Nat.lt_of_le_of_ne h k
/-- a whole row at once -/
def fresh (S ks row : List Nat) : List Nat := row.filter fun x => decide (x ∈ S) && !decide (x ∈ ks)
theorem mem_fresh {x : Nat} : x ∈ fresh S ks row ↔ x ∈ row ∧ x ∈ S ∧ x ∉ ks := by
  unfold fresh
  rw [List.mem_filter]
  simp
theorem Sr.batch {a : Nat} (h : Sr (Adj ps) (· ∈ S) a ks (t' ++ [q])) (nd : row.Nodup) (hr : ∀ x, x ∈ row ↔ Adj ps q x) : Sr (Adj ps) (· ∈ S) a (ks ++ fresh S ks row) (t' ++ fresh S ks row) := by
  refine ⟨?_, fun k hk => ?_, by simp [h.st], fun t ht => ?_, fun k hk hn c e s => ?_⟩
  · rw [List.nodup_append]
    refine ⟨h.nd, nd.filter _, fun x hx y hy e => ?_⟩
    subst e
    exact (mem_fresh.mp hy).2.2 hx
  · rcases List.mem_append.mp hk with hk | hk
    · exact h.rch k hk
    · obtain ⟨h1, h2, _⟩ := mem_fresh.mp hk
      exact .step (h.rch q (h.sub q (by simp))) ((hr k).mp h1) h2
  · rcases List.mem_append.mp ht with ht | ht
    · exact List.mem_append.mpr (.inl (h.sub t (by simp [ht])))
    · exact List.mem_append.mpr (.inr ht)
  · have hk' : k ∈ ks := by
      rcases List.mem_append.mp hk with hk | hk
      · exact hk
      · exact absurd (List.mem_append.mpr (.inr hk)) hn
    have hn' : k ∉ t' := fun m => hn (List.mem_append.mpr (.inl m))
    by_cases hq : k = q
    · subst hq
      by_cases hc : c ∈ ks
      · exact List.mem_append.mpr (.inl hc)
      · exact List.mem_append.mpr (.inr (mem_fresh.mpr ⟨(hr c).mpr e, s, hc⟩))
    · exact List.mem_append.mpr (.inl (h.cl k hk' (by simp [hn', hq]) c e s))
end
section
variable {P : Program} {w : World} {K : PySem.W.Frag} {mg : Str → Option Value} {base : Heap}
variable {B H B0 H0 B1 H1 B2 H2 B' H' : Hp} {σ : Slo} {te ta tb tl td tv : TE} {a C CB dx d : Addr} {b : Bool} {x v : V} {m n i j : Nat} {fs : List (Str × V)} {f kf : Str} {PV : VP} {ps ts : List (Nat × Nat)} {told : List (List Nat)}
/-- numbers in a list or a tuple -/
def IS (S : List Nat) : VP := fun v B => IL S v B ∨ IT S v B
instance {S : List Nat} : Mn (IS S) := ⟨fun s h => h.elim (fun h => .inl (Mn.mn s h)) (fun h => .inr (Mn.mn s h))⟩
theorem ev_inS {neg : Bool} {S : List Nat} {s : Nat} (ha : Ev ta σ B H (RX (vn s))) (hb : Ev tb σ B H (IS S)) : Ev (tOp (rIn K neg) ta tb) σ B H (RX (.bl (if neg then !decide (s ∈ S) else decide (s ∈ S)))) :=
  ev_opx ha hb fun _ _ B' H' g p h Q q => by
    cases p
    rcases h with ⟨a, rfl, hv⟩ | ⟨a, rfl, hv⟩
    · exact ⟨a, _, rfl, .inl (SqL.of (g.sub _ _ hv)), rfl, flat_vn S, by rw [inV_vn]; exact q⟩
    · exact ⟨a, _, rfl, .inr (SqT.of (g.sub _ _ hv)), rfl, flat_vn S, by rw [inV_vn]; exact q⟩
theorem ev_cP [Mn PV] (h : PV v B) : Ev (tC v) σ B H PV := fun B1 H1 g1 Q k => k v B1 H1 g1.ok (Mn.mn g1.bb h)
theorem s_src {tl : TE} {g : TG} {tt : TT} {ws : List Nat} {D : Ends} (h : tl σ H fun v H1 => tAsg (tLc (iList K (tC v)) g tt te ws) (gName i) D σ H1) : tAsg (tLc (iList K tl) g tt te ws) (gName i) D σ H := h
theorem go_ixpop {to : TE} {ws : List V} {q : Nat} {rows : List (List Nat)} {row : List Nat} {rv : V} {Q : VK} (hv : σ[j]? = some (some rv)) (ho : Ev to σ B H (RX (.ref a))) (s : Same B H) (hl : H a = some (.lst (ws ++ [vn q]))) (hb : B a = none) (hr : LO (fun r => IL r) rows rv B) (er : rows[q]? = some row)
    (k : ∀ u B' H', Gr B H B' H' → H' a = some (.lst (ws ++ [vn q])) → B' a = none → IL row u B' → Q u (upd H' a (.lst ws))) :
    tOp (rIxL K) (tVar j) (tBM0 K "list" (fun x vs H Q => ∃ l xs y, x = .ref l ∧ vs = [] ∧ H l = some (.lst xs) ∧ xs[xs.length - 1]? = some y ∧ Q y (upd H l (.lst xs.dropLast))) to) σ H Q :=
  ⟨rv, hv, pop_go ho s hl fun B4 H4 g4 h4 => by
    have b4 := (g4.own hb hl mo_lst).1
    obtain ⟨av, vs, rfl, hav, rrs⟩ := (Mn.mn g4.bb hr : LO (fun r => IL r) rows rv B4)
    obtain ⟨u, hu, hrow⟩ := rrs.get er
    have ne : av ≠ a := fun e => by rw [e, b4] at hav; cases hav
    exact ⟨av, vs, (q : Nat), u, rfl, rfl, SqL.of (by rw [upd_ne ne]; exact g4.sub _ _ hav), atI_nat hu, k u B4 H4 g4 h4 b4 hrow⟩⟩
/-! ### _law_piece -/
abbrev spLPiece : Sp := Pr fun vs B P => ∃ r u n ps rows S c, vs = [r, u, vn c] ∧ LO (fun r => IL r) rows r B ∧ RowsOk n ps rows ∧ IS S u B ∧ PsOk n ps ∧ n ≤ 30 ∧ c < n ∧ P = IT (compL n ps S c)
theorem sc__law_piece : FnScope ["_law_rows_here", "_law_inside", "_law_start", "_law_found", "_law_waiting", "_law_fresh", "_law_there"] ["_law_rows_here", "_law_inside", "_law_start"] (defScope (tp 50)) := ⟨rfl, rfl, rfl, by decide +kernel, rfl, by decide +kernel, by decide +kernel⟩
set_option maxHeartbeats 1000000 in
theorem ok_law_piece (D : Dn K mg "_law_piece" "_law_piece" (tp 50)) (T : Tx mg) : Cal P w K mg base 1 "_law_piece" spLPiece := by
  refine cal_of D sc__law_piece (fun _ _ _ _ _ _ us hl => match us, hl with | [_, _, _], _ => rfl) (fun vs H Q E h => ?_) (fun cdv A outer s f H vs Q E hr h => ?_)
  · obtain ⟨B, P, s, ⟨r, u, n, ps, rows, S, c, rfl, _⟩, _⟩ := h
    rfl
  · obtain ⟨B0, P, s0, ⟨r, u, n, ps, rows, S, c, rfl, hrv, hro, hu, hps, hn, hc, rfl⟩, kk⟩ := h
    refine ⟨_, (pss_cons (ps_set (i := 3) sc__law_piece.nd rfl (.inr rfl) (pe_lst (pa_cons (pv 2) pa_nil)))
      (pss_cons (ps_set (i := 4) sc__law_piece.nd rfl (.inl rfl) (pe_lst (pa_cons (pv 2) pa_nil)))
      (pss_cons (ps_while PassesOwn.never (pt_cmpR op_gt (pe_callB (lenS K) (by rfl) T.len PySem.boot_len (pa_cons (pv 4) pa_nil)) pe_int (nomark _)) (pss_cons (ps_setLc (i := 5) (own := [("_law_there", 6)]) rfl sc__law_piece.nd rfl rfl (sw_true rfl rfl rfl (by decide +kernel)) (piL K (pe_ix (ixL K) (pv 0) (bmK0 K PySem.F.plainAttrs_list PySem.F.slot_list_pop PySem.F.type_list_pop mt_pop (pv 4)) (fun _ _ => rfl))) (blkOk_by (by kernel_rfl)) (fun _ _ _ _ _ => (pg_name (i := 6) sc__law_piece.nd rfl (.inl rfl))) (fun _ _ _ _ _ => (pts_one (PW.pt (pw_and (pt_cmpR (inS K) (pv 6) (pv 1) rfl) (pw_and1 (pt_cmpR (notInS K) (pv 6) (pv 3) rfl)))))) (fun _ _ _ _ _ => (pv 6)))
        (pss_cons (ps_expr (bmK K PySem.F.plainAttrs_list PySem.F.slot_list_extend PySem.F.type_list_extend mt_extend (pv 3) (pa_cons (pv 5) pa_nil)))
        (pss_one (ps_expr (bmK K PySem.F.plainAttrs_list PySem.F.slot_list_extend PySem.F.type_list_extend mt_extend (pv 4) (pa_cons (pv 5) pa_nil)))))))
      (pss_one (ps_ret (pe_callTy (tupOf K) (by rfl) T.tuple (by decide +kernel) (pa_cons (pe_callB (srtI K) (by rfl) T.sorted (by decide +kernel) (pa_cons (pv 3) pa_nil)) pa_nil))))))), ?_⟩
    have hpl := hps.le1000 hn
    refine s_asgM (D := { nx := _, rt := _ }) (em_lst (xs := [vn c]) (ea_x (evx 2 rfl) ea_nil)) s0 fun L vs B1 H1 g1 nL bL hL e => ?_
    cases e
    refine s_asgM (D := { nx := _, rt := _ }) (em_lst (xs := [vn c]) (ea_x (evx 2 rfl) ea_nil)) g1.sub fun M vs B2 H2 g2 nM bM hM e => ?_
    cases e
    have nM0 : H M = none := g1.hh.free nM
    obtain ⟨bL2, hL2⟩ := g2.own bL hL mo_lst
    have neLM : L ≠ M := ne_of_none hL nM
    have hlt : ∀ ks : List Nat, ks.Nodup → (∀ x ∈ ks, Rch (Adj ps) (· ∈ S) c x) → ks.length ≤ n := fun ks nd h => by
      have := nodup_le (m := List.range n) nd fun x hx => List.mem_range.mpr (rch_lt hps hc (h x hx))
      rw [List.length_range] at this; exact this
    refine s_while (D := { nx := _, rt := _ }) (fun m σ B' H' => ∃ ks todo x5 x6, σ = [some r, some u, some (vn c), some (.ref L), some (.ref M), x5, x6] ∧ Gr B0 H B' H' ∧ B' L = none ∧ H' L = some (.lst (ks.map vn)) ∧ B' M = none ∧ H' M = some (.lst (todo.map vn)) ∧ Sr (Adj ps) (· ∈ S) c ks todo ∧ m = 2 * (n - ks.length) + todo.length ∧ 2 * (n - ks.length) + todo.length ≤ 61) _ g2.sub
      ⟨[c], [c], none, none, rfl, g1.trans g2, bL2, hL2, bM, hM, Sr.start, rfl, by simp; omega⟩ fun m σ B3 H3 s3 => ?_
    rintro ⟨ks, todo, x5, x6, rfl, g0, bL, hL, bM, hM, sr, rfl, htl⟩
    refine ⟨decide (0 < todo.length), et_val (ev_gtN (ev_lenM (n := todo.length) (evx 4 rfl) hM (List.length_map ..)) ev_0), fun ht B4 H4 g4 => ?_, fun hf B4 H4 g4 => ?_⟩
    · have ht := of_decide_eq_true ht
      obtain ⟨t', q, rfl⟩ : ∃ t' q, todo = t' ++ [q] := ⟨todo.dropLast, todo.getLast (List.ne_nil_of_length_pos ht), (List.dropLast_concat_getLast _).symm⟩
      have g04 := g0.trans g4
      obtain ⟨bL4, hL4⟩ := g4.own bL hL mo_lst
      obtain ⟨bM4, hM4⟩ := g4.own bM hM mo_lst
      have hqn : q < n := rch_lt hps hc (sr.rch q (sr.sub q (by simp)))
      obtain ⟨row, erow, hrm, hrow, hsh⟩ := hro.at hqn
      have ndr := hro.nd hps row hrm
      have sr' := sr.batch ndr hrow
      have hfl : (fresh S ks row).length + ks.length ≤ n := by
        have := hlt _ sr'.nd sr'.rch
        rw [List.length_append] at this; omega
      refine s_src (go_ixpop (ws := t'.map vn) (q := q) rfl (evx 4 rfl) g4.sub (by rw [hM4, List.map_append]; rfl) bM4 (Mn.mn g04.bb hrv) erow fun rv B5 H5 g5 h5 b5 hrow5 => ?_)
      have gp := (g04.trans g5).put (o := .lst (t'.map vn)) nM0 b5
      have sp : Same B5 (upd H5 M (.lst (t'.map vn))) := gp.sub
      have hL5 : upd H5 M (.lst (t'.map vn)) L = some (.lst (ks.map vn)) := by rw [upd_ne neLM]; exact g5.hh _ _ hL4
      have bL5 := (g5.own bL4 hL4 mo_lst).1
      refine s_asg (P := IL (fresh S ks row)) ((em_lcN (R := fun s => RX (vn s)) (R' := fun s => RX (vn s)) (ei_VL (f := vn) (ev_cP (PV := IL row) hrow5)) (fun x => decide (x ∈ S) && !decide (x ∈ ks)) id (by omega) (fun _ => rfl) fun x xv B6 H6 hm g6 hxv => ⟨?_, fun _ => ?_⟩).vals.vl.imp fun v B' _ h => by rw [List.map_id] at h; exact h) sp fun fv B6 H6 g6 hfv => ?_
      · cases hxv
        refine et_and (et_B (ev_inS (neg := false) (evx 6 rfl) (ev_var 1 rfl (Mn.mn (gp.trans g6).bb hu)))) fun _ => et_B ((ev_inM (neg := true) (evx 6 rfl) (evx 3 rfl) (g6.hh _ _ hL5) rfl (flat_vn ks)).eq (by rw [inV_vn]; rfl))
      · cases hxv
        exact evx 6 rfl
      · have g06 := gp.trans g6
        obtain ⟨bL6, hL6⟩ := g6.own bL5 hL5 mo_lst
        obtain ⟨bM6, hM6⟩ := g6.own b5 upd_same mo_lst
        have hfv' : LO (fun s => RX (vn s)) (fresh S ks row) fv B6 := VL.lo (f := vn) hfv
        refine s_ext (R := fun s => RX (vn s)) (evx 3 rfl) (ev_var 5 rfl hfv') g6.sub hL6 (by rw [List.length_map]; omega) fun ws7 B7 H7 g7 hL7 r7 => ?_
        have e7 := Rs.vals (f := vn) r7
        subst e7
        have bL7 := (g7.own bL6 hL6 mo_lst).1
        obtain ⟨bM7, hM7⟩ := g7.own bM6 hM6 mo_lst
        have g07 := (g06.trans g7).put (o := .lst (ks.map vn ++ (fresh S ks row).map vn)) nL bL7
        refine s_ext (R := fun s => RX (vn s)) (evx 4 rfl) (ev_var 5 rfl (Mn.mn g7.bb hfv')) g07.sub (by rw [upd_ne neLM.symm]; exact hM7) (by rw [List.length_map]; rw [List.length_append] at htl; omega) fun ws8 B8 H8 g8 hM8 r8 => ?_
        have e8 := Rs.vals (f := vn) r8
        subst e8
        obtain ⟨bM8, _⟩ := g8.own bM7 (by rw [upd_ne neLM.symm]; exact hM7) mo_lst
        obtain ⟨bL8, hL8⟩ := g8.own bL7 upd_same mo_lst
        have g08 := (g07.trans g8).put (o := .lst (t'.map vn ++ (fresh S ks row).map vn)) nM0 bM8
        refine ⟨_, B8, ?_, g08.sub, ks ++ fresh S ks row, t' ++ fresh S ks row, _, _, rfl, g08, bL8, ?_, bM8, ?_, sr', rfl, ?_⟩
        · rw [List.length_append, List.length_append, List.length_append, List.length_singleton]; omega
        · rw [upd_ne neLM, hL8, List.map_append]
        · rw [upd_same, List.map_append]
        · rw [List.length_append, List.length_singleton] at htl
          rw [List.length_append, List.length_append]; omega
    · have hf : todo = [] := List.eq_nil_of_length_eq_zero (by have := of_decide_eq_false hf; omega)
      subst hf
      obtain ⟨bL4, hL4⟩ := g4.own bL hL mo_lst
      have gs := (g0.trans g4).settle nL bL4 hL4
      refine s_ret (D := { nx := _, rt := _ }) (ev_tupOfL (em_sorted (ns := ks) (ev_var (v := .ref L) (B := upd B4 L (.lst (ks.map vn))) (P := IL ks) 3 rfl ⟨L, rfl, upd_same⟩)).vl) gs.sub fun w B5 H5 g5 hw => ?_
      refine kk w B5 H5 (gs.trans g5) ?_
      have e : compL n ps S c = srt ks := asc_eq (compL_asc n ps S c) (srt_lt sr.nd) fun x => by rw [mem_compL hps hc, mem_srt, sr.all]
      rw [e]; exact hw
end
end Lw
/-! Mg: _law_pieces, _law_touch, _law_left. -/
namespace Lw
open PySem PySem.Spec PyProof.Rows L2
section
variable {P : Program} {w : World} {K : PySem.W.Frag} {mg : Str → Option Value} {base : Heap}
variable {B H B0 H0 B1 H1 B2 H2 B' H' : Hp} {σ : Slo} {te ta tb tl td tv : TE} {a C CB dx d : Addr} {b : Bool} {x v : V} {m n i j : Nat} {fs : List (Str × V)} {f kf : Str} {PV : VP} {ps ts : List (Nat × Nat)} {told : List (List Nat)}
abbrev ci (l : List Nat) : List Int := l.map fun n : Nat => (n : Int)
theorem ci_back (l : List Nat) : (ci l).map Int.toNat = l := by
  rw [List.map_map]
  refine (List.map_congr_left fun n _ => ?_).trans (List.map_id _)
  rfl
theorem rs_it : ∀ {xs : List (List Nat)} {vs : List V}, Rs (fun l => IT l) xs vs B → ∃ ks : List (Addr × List Int), vs = ks.map (fun p => V.ref p.1) ∧ ks.length = xs.length ∧ (∀ p ∈ ks, ∃ l ∈ xs, p.2 = ci l ∧ B p.1 = some (.tup (l.map vn))) ∧ ∀ l ∈ xs, ∃ p ∈ ks, p.2 = ci l
  | [], [], _ => ⟨[], rfl, rfl, fun p h => absurd h (by simp), fun l h => absurd h (by simp)⟩
  | l :: xs, v :: vs, ⟨⟨a, e, h⟩, t⟩ => by
    obtain ⟨ks, h1, h2, h3, h4⟩ := rs_it t
    refine ⟨(a, ci l) :: ks, by rw [List.map_cons, ← h1, e], by rw [List.length_cons, List.length_cons, h2], fun p hp => ?_, fun k hk => ?_⟩
    · rcases List.mem_cons.mp hp with rfl | hp
      · exact ⟨l, by simp, rfl, h⟩
      · obtain ⟨k, hk, q⟩ := h3 p hp
        exact ⟨k, by simp [hk], q⟩
    · rcases List.mem_cons.mp hk with rfl | hk
      · exact ⟨(a, ci k), List.mem_cons_self .., rfl⟩
      · obtain ⟨p, hp, q⟩ := h4 k hk
        exact ⟨p, by simp [hp], q⟩
theorem rs_back : ∀ (L : List (Addr × List Int)), (∀ p ∈ L, ∃ l : List Nat, p.2 = ci l ∧ B p.1 = some (.tup (l.map vn))) → Rs (fun l => IT l) (L.map fun q => q.2.map Int.toNat) (L.map fun q => V.ref q.1) B
  | [], _ => True.intro
  | r :: L, h => by
    obtain ⟨l, e, hb⟩ := h r (by simp)
    refine ⟨⟨r.1, rfl, ?_⟩, rs_back L fun p hp => h p (by simp [hp])⟩
    show B r.1 = some (.tup ((r.2.map Int.toNat).map vn))
    rw [e, ci_back]; exact hb
/-- a set of these tuples -/
def SV (P : Program) (w : World) (xs : List (List Nat)) : VP := fun v B' => ∃ (a : Addr) (L : List (Addr × List Int)), v = .ref a ∧ B' a = some (SetTO P w a L) ∧ (∀ p ∈ L, ∃ l ∈ xs, p.2 = ci l ∧ B' p.1 = some (.tup (l.map vn))) ∧ ∀ l ∈ xs, ci l ∈ L.map (·.2)
instance {xs : List (List Nat)} : Mn (SV P w xs) := ⟨fun s ⟨a, L, e, h, k, q⟩ => ⟨a, L, e, s _ _ h, fun p hp => let ⟨l, hl, e, hb⟩ := k p hp; ⟨l, hl, e, s _ _ hb⟩, q⟩⟩
theorem ev_setT {xs : List (List Nat)} (h : Ev te σ B H (LO (fun l => IT l) xs)) (hl : xs.length < 64) : Ev (tCB (rSetOfT K P w) (tCons te tNil)) σ B H (SV P w xs) :=
  ev_cb (ea_c h ea_nil) fun vs B' H' g ⟨v, ws, e, ⟨p, us, e1, hp, r⟩, e2⟩ Q q => by
    cases e2; subst e e1
    obtain ⟨ks, h1, h2, h3, h4⟩ := rs_it r
    subst h1
    refine ⟨p, ks, rfl, SqL.of (g.sub _ _ hp), fun k hk => ?_, by omega, fun a L na hL hK => ?_⟩
    · obtain ⟨l, _, e, hb⟩ := h3 k hk
      rw [e, ← map_cast]
      exact SqT.of (g.sub _ _ hb)
    · have nb := none_of_same g.sub na
      refine q _ (upd B' a (SetTO P w a L)) _ (Gr.new g.sub na) ⟨a, L, rfl, upd_same, fun k hk => ?_, fun l hl => ?_⟩
      · obtain ⟨l, hl, e, hb⟩ := h3 k (hL k hk)
        exact ⟨l, hl, e, same_new nb _ _ hb⟩
      · obtain ⟨k, hk, e⟩ := h4 l hl
        rw [← e]; exact hK k hk
theorem ev_sortST {xs : List (List Nat)} (h : Ev te σ B H (SV P w xs)) (hne : ∀ l ∈ xs, l ≠ []) : Ev (tCB (rSortST K P w) (tCons te tNil)) σ B H (fun u B' => ∃ pcs : List (List Nat), (∀ p, p ∈ pcs ↔ p ∈ xs) ∧ pcs.Nodup ∧ LO (fun l => IT l) pcs u B') :=
  ev_cb (ea_c h ea_nil) fun vs B' H' g ⟨v, ws, e, ⟨a, L, e1, ha, hk, hx⟩, e2⟩ Q q => by
    cases e2; subst e e1
    refine ⟨a, L, rfl, g.sub _ _ ha, fun p hp => ?_, fun p hp e => ?_, fun L' p pm nd np => ?_⟩
    · obtain ⟨l, _, e, hb⟩ := hk p hp
      rw [e, ← map_cast]
      exact SqT.of (g.sub _ _ hb)
    · obtain ⟨l, hl, e', _⟩ := hk p hp
      rw [e'] at e
      exact hne l hl (List.map_eq_nil_iff.mp e)
    · have nb := none_of_same g.sub np
      have hk' : ∀ p ∈ L', ∃ l ∈ xs, p.2 = ci l ∧ B' p.1 = some (.tup (l.map vn)) := fun p hp => hk p (pm.mem_iff.mp hp)
      refine q _ (upd B' p (.lst (L'.map fun q => V.ref q.1))) _ (Gr.new g.sub np) ⟨L'.map fun q => q.2.map Int.toNat, fun l => ?_, ?_, p, _, rfl, upd_same, ?_⟩
      · rw [List.mem_map]
        constructor
        · rintro ⟨r, hr, rfl⟩
          obtain ⟨l, hl, e, _⟩ := hk' r hr
          rw [e, ci_back]; exact hl
        · intro hl
          obtain ⟨r, hr, e⟩ := List.mem_map.mp (hx l hl)
          exact ⟨r, pm.mem_iff.mpr hr, by rw [e, ci_back]⟩
      · have e : L'.map (fun q => q.2.map Int.toNat) = (L'.map (·.2)).map (fun k => k.map Int.toNat) := by rw [List.map_map]; rfl
        rw [e]
        refine List.pairwise_map.mpr (List.Pairwise.imp_of_mem (fun {x y} hx hy hne e => hne ?_) nd)
        obtain ⟨p, hp, rfl⟩ := List.mem_map.mp hx
        obtain ⟨q, hq, rfl⟩ := List.mem_map.mp hy
        obtain ⟨l, _, e1, _⟩ := hk' p hp
        obtain ⟨l', _, e2, _⟩ := hk' q hq
        rw [e1, e2, ci_back, ci_back] at e
        rw [e1, e2, e]
      · exact (rs_back L' fun p hp => let ⟨l, _, e, hb⟩ := hk' p hp; ⟨l, e, hb⟩).mn (same_new nb)
/-! ### _law_pieces -/
abbrev spLPieces : Sp := Pr fun vs B P => ∃ r u n ps rows S, vs = [r, u] ∧ LO (fun r => IL r) rows r B ∧ RowsOk n ps rows ∧ IL S u B ∧ PsOk n ps ∧ n ≤ 30 ∧ (∀ s ∈ S, s < n) ∧ S.Nodup ∧ P = fun w B' => ∃ pcs, PcsOk ps S pcs ∧ LO (fun p => IT p) pcs w B'
theorem sc__law_pieces : FnScope ["_law_rows_here", "_law_standings", "_law_standing"] ["_law_rows_here", "_law_standings"] (defScope (tp 51)) := ⟨rfl, rfl, rfl, by decide +kernel, rfl, by decide +kernel, by decide +kernel⟩
theorem ok_law_pieces (D : Dn K mg "_law_pieces" "_law_pieces" (tp 51)) (T : Tx mg) (c__law_piece : Cal P w K mg base 1 "_law_piece" spLPiece) : Cal P w K mg base 2 "_law_pieces" spLPieces := by
  refine cal_of D sc__law_pieces (fun _ _ _ _ _ _ us hl => match us, hl with | [_, _], _ => rfl) (fun vs H Q E h => ?_) (fun cdv A outer s f H vs Q E hr h => ?_)
  · obtain ⟨B, P, s, ⟨r, u, n, ps, rows, S, rfl, _⟩, _⟩ := h
    rfl
  · obtain ⟨B0, P', s0, ⟨r, u, n, ps, rows, S, rfl, hrv, hro, hu, hps, hn, hS, nd, rfl⟩, kk⟩ := h
    refine ⟨_, (pss_one (ps_ret (pe_callB (cr_sortedST rfl hr.units) (by rfl) T.sorted (by decide +kernel) (pa_cons (pe_callTy (cr_setOfT rfl hr.units) (by rfl) T.set (by decide +kernel) (pa_cons (pe_lc (own := [("_law_standing", 2)]) rfl sc__law_pieces.nd (piL K (pv 1)) (blkOk_by (by kernel_rfl)) (fun _ _ _ _ _ => (pg_name (i := 2) sc__law_pieces.nd rfl (.inl rfl))) (fun _ _ _ _ _ => pts_nil) (fun _ _ _ _ _ => (pe_k c__law_piece hr (by decide) rfl (pa_cons (pv 0) (pa_cons (pv 1) (pa_cons (pv 2) pa_nil)))))) pa_nil)) pa_nil)))), ?_⟩
    have hSl : S.length ≤ 30 := by
      have := nodup_le (m := List.range n) nd fun x hx => List.mem_range.mpr (hS x hx)
      rw [List.length_range] at this; omega
    refine s_ret (D := { nx := _, rt := _ }) (ev_sortST (xs := S.map fun s => compL n ps S s) (ev_setT (em_lcM (R := fun s => RX (vn s)) (R' := fun l => IT l) (ei_VL (f := vn) (ev_var 1 rfl hu)) (fun s => compL n ps S s) (by omega) (fun _ => rfl) fun s sv B' H' hm g hsv => ?_).lo (by rw [List.length_map]; omega)) fun l hl e => ?_) s0 fun w B' H' g ⟨pcs, hp, ndp, hw⟩ => kk w B' H' g ⟨pcs, ?_, hw⟩
    · cases hsv
      refine ev_call (ea_c (P := LO (fun r => IL r) rows) (ev_var 0 rfl (Mn.mn g.bb hrv)) (ea_c (P := IL S) (ev_var 1 rfl (Mn.mn g.bb hu)) (ea_x (evx 2 rfl) ea_nil))) fun vs B2 s2 hvs => ?_
      obtain ⟨r', _, rfl, hr', u', _, rfl, hu', rfl⟩ := hvs
      exact ⟨r', u', n, ps, rows, S, s, rfl, hr', hro, .inl hu', hps, hn, hS s hm, rfl⟩
    · obtain ⟨s, hs, rfl⟩ := List.mem_map.mp hl
      have : s ∈ compL n ps S s := (mem_compL hps (hS s hs)).mpr .refl
      rw [e] at this
      exact absurd this (by simp)
    · refine ⟨fun p hp' => ?_, fun s hs => ?_, ?_⟩
      · obtain ⟨s, hs, rfl⟩ := List.mem_map.mp ((hp p).mp hp')
        exact ⟨(compL_asc n ps S s).imp fun h => Nat.ne_of_lt h, s, hs, fun x => mem_compL hps (hS s hs)⟩
      · exact ⟨compL n ps S s, (hp _).mpr (List.mem_map.mpr ⟨s, hs, rfl⟩), (mem_compL hps (hS s hs)).mpr .refl⟩
      · have := nodup_leA ndp fun x hx => (hp x).mp hx
        rw [List.length_map] at this; exact this
/-! ### _law_touch -/
abbrev spLTouch : Sp := Pr fun vs B P => ∃ r u t n ps rows a b, vs = [r, u, t] ∧ LO (fun r => IL r) rows r B ∧ RowsOk n ps rows ∧ IT a u B ∧ IT b t B ∧ PsOk n ps ∧ n ≤ 30 ∧ (∀ s ∈ a, s < n) ∧ a.length ≤ 30 ∧ P = BT (Tch ps a b)
theorem sc__law_touch : FnScope ["_law_rows_here", "_law_one", "_law_other", "_law_standing", "_law_there"] ["_law_rows_here", "_law_one", "_law_other"] (defScope (tp 52)) := ⟨rfl, rfl, rfl, by decide +kernel, rfl, by decide +kernel, by decide +kernel⟩
theorem ok_law_touch (D : Dn K mg "_law_touch" "_law_touch" (tp 52)) (T : Tx mg) : Cal P w K mg base 1 "_law_touch" spLTouch := by
  refine cal_of D sc__law_touch (fun _ _ _ _ _ _ us hl => match us, hl with | [_, _, _], _ => rfl) (fun vs H Q E h => ?_) (fun cdv A outer s f H vs Q E hr h => ?_)
  · obtain ⟨B, P, s, ⟨r, u, t, n, ps, rows, a, b, rfl, _⟩, _⟩ := h
    rfl
  · obtain ⟨B0, P', s0, ⟨r, u, t, n, ps, rows, a, b, rfl, hrv, hro, hu, ht, hps, hn, ha, hal, rfl⟩, kk⟩ := h
    refine ⟨_, (pss_one (ps_ret (pe_cmpR op_gt (pe_callB (lenS K) (by rfl) T.len PySem.boot_len (pa_cons (pe_lc (own := [("_law_standing", 3)]) rfl sc__law_touch.nd (piT K (pv 1)) (blkOk_by (by kernel_rfl)) (fun _ _ _ _ _ => (pg_name (i := 3) sc__law_touch.nd rfl (.inl rfl))) (fun _ _ _ _ _ => (pts_one (pt_cmpR op_gt (pe_callB (lenS K) (by rfl) T.len PySem.boot_len (pa_cons (pe_lc (own := [("_law_there", 4)]) rfl sc__law_touch.nd (piL K (pe_ix (ixL K) (pv 0) (pv 3) (fun _ _ => rfl))) (blkOk_by (by kernel_rfl)) (fun _ _ _ _ _ => (pg_name (i := 4) sc__law_touch.nd rfl (.inl rfl))) (fun _ _ _ _ _ => (pts_one (pt_cmpR (inS K) (pv 4) (pv 2) rfl))) (fun _ _ _ _ _ => (pv 4))) pa_nil)) pe_int (nomark _)))) (fun _ _ _ _ _ => (pv 3))) pa_nil)) pe_int (nomark _)))), ?_⟩
    have hpl := hps.le1000 hn
    refine s_ret (D := { nx := _, rt := _ }) (ev_gtN (m := (a.filter fun s => decide (0 < ((rows.getD s []).filter fun t => decide (t ∈ b)).length)).length) (n := 0) (ev_len (em_lcN (R := fun s => RX (vn s)) (R' := fun s => RX (vn s)) (ei_VT (f := vn) (ev_var 1 rfl hu)) (fun s => decide (0 < ((rows.getD s []).filter fun t => decide (t ∈ b)).length)) id (by omega) (fun _ => rfl) fun s sv B' H' hm g hsv => ⟨?_, fun _ => ?_⟩).lo (pn_LO (List.length_map ..))) ev_0) s0 fun w B' H' g e => ?_
    · cases hsv
      obtain ⟨row, hr', hrm, _, hsh⟩ := hro.at (ha s hm)
      have er : rows.getD s [] = row := by rw [List.getD_eq_getElem?_getD, hr']; rfl
      rw [er]
      refine et_val (ev_gtN (ev_len (em_lcN (R := fun s => RX (vn s)) (R' := fun s => RX (vn s)) (ei_list (((ev_ixL (R := fun r => IL r) (ev_var 0 rfl (Mn.mn g.bb hrv)) (evx 3 rfl) hr').imp fun v B' _ h => VL.lo h))) (fun t => decide (t ∈ b)) id (by omega) (fun _ => rfl) fun t tv B2 H2 hm2 g2 htv => ⟨?_, fun _ => ?_⟩).lo (pn_LO (List.length_map ..))) ev_0)
      · cases htv
        exact et_val (ev_inS (neg := false) (evx 4 rfl) (ev_var (P := IS b) 2 rfl (.inr (Mn.mn (g.trans g2).bb ht))))
      · cases htv
        exact evx 4 rfl
    · cases hsv
      exact evx 3 rfl
    · refine kk w B' H' g ⟨_, e, ?_⟩
      rw [decide_eq_true_iff, List.length_pos_iff, Ne, List.filter_eq_nil_iff]
      constructor
      · intro h
        obtain ⟨s, hs, h2⟩ : ∃ s ∈ a, decide (0 < ((rows.getD s []).filter fun t => decide (t ∈ b)).length) = true := by
          refine Classical.byContradiction fun hc => h fun s hs h2 => hc ⟨s, hs, h2⟩
        obtain ⟨row, hr', hrm, hmem, _⟩ := hro.at (ha s hs)
        have h3 := of_decide_eq_true h2
        obtain ⟨t, ht2⟩ := List.exists_mem_of_length_pos h3
        obtain ⟨h4, h5⟩ := List.mem_filter.mp ht2
        rw [List.getD_eq_getElem?_getD, hr'] at h4
        exact ⟨s, hs, t, of_decide_eq_true h5, (hmem t).mp h4⟩
      · rintro ⟨s, hs, t, ht2, e2⟩ h
        obtain ⟨row, hr', hrm, hmem, _⟩ := hro.at (ha s hs)
        refine h s hs (decide_eq_true (List.length_pos_of_mem (a := t) (List.mem_filter.mpr ⟨?_, decide_eq_true ht2⟩)))
        rw [List.getD_eq_getElem?_getD, hr']
        exact (hmem t).mpr e2
/-! ### _law_left -/
abbrev spLLeft : Sp := Pr fun vs B P => ∃ r u lo n ps rows told lost, vs = [r, u, lo] ∧ LO (fun r => IL r) rows r B ∧ RowsOk n ps rows ∧ TO (fun l => IT l) told u B ∧ IS lost lo B ∧ PsOk n ps ∧ n ≤ 30 ∧ (∀ l ∈ told, LandOk n l) ∧ told.length ≤ 1000 ∧ P = fun w B' => ∃ rws, LeftOk ps told lost rws ∧ LO (fun r => LO (fun p => IT p) r) rws w B'
theorem sc__law_left : FnScope ["_law_rows_here", "_law_told", "_law_lost", "_law_found", "_law_land", "_law_standing"] ["_law_rows_here", "_law_told", "_law_lost"] (defScope (tp 58)) := ⟨rfl, rfl, rfl, by decide +kernel, rfl, by decide +kernel, by decide +kernel⟩
theorem ok_law_left (D : Dn K mg "_law_left" "_law_left" (tp 58)) (T : Tx mg) (c__law_pieces : Cal P w K mg base 2 "_law_pieces" spLPieces) : Cal P w K mg base 3 "_law_left" spLLeft := by
  refine cal_of D sc__law_left (fun _ _ _ _ _ _ us hl => match us, hl with | [_, _, _], _ => rfl) (fun vs H Q E h => ?_) (fun cdv A outer s f H vs Q E hr h => ?_)
  · obtain ⟨B, P, s, ⟨r, u, lo, n, ps, rows, told, lost, rfl, _⟩, _⟩ := h
    rfl
  · obtain ⟨B0, P', s0, ⟨r, u, lo, n, ps, rows0, told, lost, rfl, hrv, hro, hu, hlo, hps, hn, hok, htl, rfl⟩, k⟩ := h
    refine ⟨_, (pss_cons (ps_set (i := 3) sc__law_left.nd rfl (.inl rfl) (pe_lst pa_nil))
      (pss_cons (ps_for PassesOwn.never rfl (piT K (pv 1)) (pg_name (i := 4) sc__law_left.nd rfl (.inl rfl))
        (pss_one (ps_expr (bmK K PySem.F.plainAttrs_list PySem.F.slot_list_append PySem.F.type_list_append mt_append (pv 3) (pa_cons (pe_k c__law_pieces hr (by decide) rfl (pa_cons (pv 0) (pa_cons (pe_lc (own := [("_law_standing", 5)]) rfl sc__law_left.nd (piT K (pv 4)) (blkOk_by (by kernel_rfl)) (fun _ _ _ _ _ => (pg_name (i := 5) sc__law_left.nd rfl (.inl rfl))) (fun _ _ _ _ _ => (pts_one (pt_cmpR (notInS K) (pv 5) (pv 2) rfl))) (fun _ _ _ _ _ => (pv 5))) pa_nil))) pa_nil)))))
      (pss_one (ps_ret (pv 3))))), ?_⟩
    refine s_asgM (D := { nx := _, rt := _ }) (em_lst (xs := []) ea_nil) s0 fun L vs B1 H1 g1 nL bL hL e => ?_
    cases e
    refine s_for (D := { nx := _, rt := _ }) (ei_tup (ev_var 1 rfl (Mn.mn g1.bb hu))) g1.sub (fun i σ B' H' => ∃ x4 x5 rows vs, σ = [some r, some u, some lo, some (.ref L), x4, x5] ∧ Gr B0 H B' H' ∧ B' L = none ∧ H' L = some (.lst vs) ∧ Rs (fun r => LO (fun p => IT p) r) rows vs B' ∧ LeftOk ps (told.take i) lost rows)
      (fun B' H' g => ?_) (fun i l lv σ B' H' hi s2 => ?_) (fun σ B' H' s2 => ?_)
    · refine ⟨_, _, [], [], rfl, g1.trans g, (g.own bL hL mo_lst).1, g.hh _ _ hL, True.intro, ⟨by simp, fun i l r h => ?_⟩⟩
      rw [List.take_zero] at h; simp at h
    · rintro ⟨x4, x5, rows, vs, rfl, g0, b, h, rs, lk⟩ hlv
      have lo' := hok l (List.mem_of_getElem? hi)
      have hll := lo'.len
      have hilt := (List.getElem?_eq_some_iff.mp hi).1
      have hil : (told.take i).length = i := by
        rw [List.length_take]; omega
      refine s_app (P := fun w B' => ∃ pcs, PcsOk ps (l.filter fun s => !decide (s ∈ lost)) pcs ∧ LO (fun p => IT p) pcs w B') (evx 3 rfl) (ev_call (ea_c (P := LO (fun r => IL r) rows0) (ev_var 0 rfl (Mn.mn g0.bb hrv)) (ea_c (P := IL (l.filter fun s => !decide (s ∈ lost))) ?_ ea_nil)) fun vs B3 s3 hvs => ?_) s2 h (by rw [rs.len, lk.len, hil]; omega) fun v3 B3 H3 g3 h3 p3 => ?_
      · refine (em_lcN (R := fun s => RX (vn s)) (R' := fun s => RX (vn s)) (ei_VT (f := vn) (ev_var (P := IT l) 4 rfl hlv)) (fun s => !decide (s ∈ lost)) id (by omega) (fun _ => rfl) fun s sv B3 H3 hm g3 hsv => ⟨?_, fun _ => ?_⟩).vals.vl.imp fun v B' _ h => by rw [List.map_id] at h; exact h
        · cases hsv
          exact et_val (ev_inS (neg := true) (evx 5 rfl) (ev_var 2 rfl (Mn.mn (g0.bb.trans g3.bb) hlo)))
        · cases hsv
          exact evx 5 rfl
      · obtain ⟨v', _, rfl, hv', u', _, rfl, hu', rfl⟩ := hvs
        exact ⟨v', u', n, ps, rows0, _, rfl, hv', hro, hu', hps, hn, fun s hs => lo'.lt s (List.mem_filter.mp hs).1, lo'.nd.filter _, rfl⟩
      · obtain ⟨pcs, hpc, hv3⟩ := p3
        have b3 := (g3.own b h mo_lst).1
        have gg := (g0.trans g3).put (o := .lst (vs ++ [v3])) nL b3
        refine ⟨B3, g3.bb, gg.sub, _, _, rows ++ [pcs], vs ++ [v3], rfl, gg, b3, upd_same, (rs.mn g3.bb).app (Rs.one hv3), ?_⟩
        have htk : told.take (i + 1) = told.take i ++ [l] := by rw [List.take_add_one, hi]; rfl
        refine ⟨by rw [htk, List.length_append, List.length_append, lk.len]; rfl, fun j l' r h1 h2 => ?_⟩
        rw [htk] at h1
        by_cases hj : j < (told.take i).length
        · rw [List.getElem?_append_left hj] at h1
          rw [List.getElem?_append_left (by rw [lk.len]; exact hj)] at h2
          exact lk.pcs j l' r h1 h2
        · rw [List.getElem?_append_right (by omega)] at h1
          rw [List.getElem?_append_right (by rw [lk.len]; omega), lk.len] at h2
          by_cases hz : j - (told.take i).length = 0
          · rw [hz] at h1 h2
            simp at h1 h2
            subst h1 h2
            exact hpc
          · rw [List.getElem?_eq_none (by simp; omega)] at h1; cases h1
    · rintro ⟨x4, x5, rows, vs, rfl, g0, b, h, rs, lk⟩
      rw [List.take_length] at lk
      refine s_ret (D := { nx := _, rt := _ }) (evx 3 rfl) s2 fun u2 B3 H3 g3 e => ?_
      cases e
      have b3 := (g3.own b h mo_lst).1
      exact k _ _ _ ((g0.trans g3).settle nL b3 (g3.hh _ _ h)) ⟨rows, lk, L, vs, rfl, upd_same, rs.mn (g3.bb.trans (same_new b3))⟩
end
end Lw
/-! Mh: _law_remain. -/
namespace Lw
open PySem PySem.Spec PyProof.Rows L2
open Classical in
noncomputable def nextC (ps ts : List (Nat × Nat)) (r : List (List Nat)) (F : List (List (List Nat))) : List (List (List Nat)) := F.flatMap fun a => (r.filter fun p => decide (FitP ps ts a p)).map fun p => a ++ [p]
noncomputable def chs (ps ts : List (Nat × Nat)) (rws : List (List (List Nat))) : List (List (List Nat)) := rws.foldl (fun F r => nextC ps ts r F) [[]]
section
variable {ps ts : List (Nat × Nat)} {rws F : List (List (List Nat))} {r : List (List Nat)} {ch a : List (List Nat)}
theorem chs_snoc : chs ps ts (rws ++ [r]) = nextC ps ts r (chs ps ts rws) := by unfold chs; rw [List.foldl_append]; rfl
theorem nextC_snoc : nextC ps ts r (F ++ [a]) = nextC ps ts r F ++ nextC ps ts r [a] := by unfold nextC; rw [List.flatMap_append]
theorem nextC_len : (nextC ps ts r F).length ≤ F.length * r.length := by
  unfold nextC
  induction F with
  | nil => simp
  | cons a F ih =>
    rw [List.flatMap_cons, List.length_append, List.length_map, List.length_cons, Nat.succ_mul]
    have := List.length_filter_le (fun p => @decide (FitP ps ts a p) (Classical.propDecidable _)) r
    omega
theorem wt_snoc : ∀ rws : List (List (List Nat)), wt (rws ++ [r]) = wt rws * (1 + r.length)
  | [] => by simp [wt]
  | x :: rws => by
    show (1 + x.length) * wt (rws ++ [r]) = (1 + x.length) * wt rws * (1 + r.length)
    rw [wt_snoc rws, Nat.mul_assoc]
theorem chs_len : ∀ rws, (chs ps ts rws).length ≤ wt rws := snoc_ind (Nat.le_refl _) fun rws r ih => by
  rw [chs_snoc, wt_snoc]
  refine Nat.le_trans nextC_len (Nat.mul_le_mul ih (by omega))
theorem wt_take (rws : List (List (List Nat))) (i : Nat) : wt (rws.take i) ≤ wt rws := by
  have : ∀ (a b : List (List (List Nat))), wt a ≤ wt (a ++ b) := by
    intro a b
    induction a with
    | nil => exact wt_pos b
    | cons x a ih => exact Nat.mul_le_mul_left _ ih
  have h := this (rws.take i) (rws.drop i)
  rw [List.take_append_drop] at h; exact h
theorem Part.lift (h : Part ps ts rws ch) : Part ps ts (rws ++ [r]) ch := ⟨by have := h.le; rw [List.length_append]; omega, fun k p hp => by
  obtain ⟨r', h1, h2⟩ := h.mem k p hp
  exact ⟨r', by rw [List.getElem?_append_left (List.getElem?_eq_some_iff.mp h1).1]; exact h1, h2⟩, h.fit⟩
open Classical in
theorem chs_mem : ∀ (rws : List (List (List Nat))) ch, ch ∈ chs ps ts rws ↔ ch.length = rws.length ∧ Part ps ts rws ch := snoc_ind (fun ch => by
    show ch ∈ [[]] ↔ _
    rw [List.mem_singleton]
    exact ⟨fun e => by subst e; exact ⟨rfl, Part.nil⟩, fun h => List.eq_nil_of_length_eq_zero h.1⟩) fun rws r ih ch => by
  rw [chs_snoc]
  unfold nextC
  rw [List.mem_flatMap, List.length_append, List.length_singleton]
  have er : ∀ k, k = rws.length → (rws ++ [r])[k]? = some r := fun k e => by rw [e, List.getElem?_append_right (Nat.le_refl _), Nat.sub_self]; rfl
  constructor
  · rintro ⟨a, ha, h⟩
    obtain ⟨p, hp, rfl⟩ := List.mem_map.mp h
    obtain ⟨hp, hf⟩ := List.mem_filter.mp hp
    obtain ⟨hl, pa⟩ := (ih a).mp ha
    exact ⟨by rw [List.length_append, hl]; rfl, pa.lift.snoc (er _ hl) hp (of_decide_eq_true hf)⟩
  · rintro ⟨hl, pt⟩
    obtain ⟨a, p, rfl⟩ : ∃ a p, ch = a ++ [p] := ⟨ch.dropLast, ch.getLast (List.ne_nil_of_length_eq_add_one hl), (List.dropLast_concat_getLast _).symm⟩
    have hal : a.length = rws.length := by rw [List.length_append, List.length_singleton] at hl; omega
    have gl : ∀ k q, a[k]? = some q → k < a.length ∧ (a ++ [p])[k]? = some q := fun k q h => by
      have := (List.getElem?_eq_some_iff.mp h).1
      exact ⟨this, by rw [List.getElem?_append_left this]; exact h⟩
    have pa : Part ps ts rws a := ⟨Nat.le_of_eq hal, fun k q hq => by
      obtain ⟨h1, h2⟩ := gl k q hq
      obtain ⟨r', h3, h4⟩ := pt.mem k q h2
      rw [List.getElem?_append_left (by omega)] at h3
      exact ⟨r', h3, h4⟩, fun k q hq => by
      obtain ⟨h1, h2⟩ := gl k q hq
      have := pt.fit k q h2
      rw [List.take_append_of_le_length (by omega)] at this
      exact this⟩
    have ep : (a ++ [p])[a.length]? = some p := by rw [List.getElem?_append_right (Nat.le_refl _), Nat.sub_self]; rfl
    obtain ⟨r', h3, h4⟩ := pt.mem _ p ep
    rw [er _ hal] at h3; cases h3
    have hf := pt.fit _ p ep
    rw [List.take_left] at hf
    exact ⟨a, (ih a).mpr ⟨hal, pa⟩, List.mem_map.mpr ⟨p, List.mem_filter.mpr ⟨h4, decide_eq_true hf⟩, rfl⟩⟩
theorem chs_choice : 0 < (chs ps ts rws).length ↔ Choice ps ts rws := by
  constructor
  · intro h
    obtain ⟨ch, hc⟩ := List.exists_mem_of_length_pos h
    exact ⟨ch, (chs_mem rws ch).mp hc⟩
  · rintro ⟨ch, hc⟩
    exact List.length_pos_of_mem ((chs_mem rws ch).mpr hc)
def othersOf (ts : List (Nat × Nat)) (c : Nat) : List Nat := (ts.filter fun t => decide (t.2 = c)).map (·.1)
open Classical in
theorem others_fit {m : Nat} (hts : PsOk m ts) {p : List Nat} : (((othersOf ts ch.length).filter fun o => !decide (Tch ps (ch.getD o []) p)).length = 0) ↔ FitP ps ts ch p := by
  rw [List.length_eq_zero_iff, List.filter_eq_nil_iff]
  constructor
  · intro h t ht e a ha
    have h1 := h t.1 (List.mem_map.mpr ⟨t, List.mem_filter.mpr ⟨ht, decide_eq_true e⟩, rfl⟩)
    rw [List.getD_eq_getElem?_getD, ha] at h1
    simpa using h1
  · intro h o ho
    obtain ⟨t, ht, rfl⟩ := List.mem_map.mp ho
    obtain ⟨h1, h2⟩ := List.mem_filter.mp ht
    have h2 := of_decide_eq_true h2
    have lt := (hts.lt t h1).1
    have e : ch[t.1]? = some (ch.getD t.1 []) := by
      rw [List.getD_eq_getElem?_getD, List.getElem?_eq_getElem (by omega)]; rfl
    have h5 := h t h1 h2 _ e
    have h6 : decide (Tch ps (ch.getD t.1 []) p) = true := decide_eq_true h5
    rw [h6]; decide
end
section
variable {P : Program} {w : World} {K : PySem.W.Frag} {mg : Str → Option Value} {base : Heap}
variable {B H B0 H0 B1 H1 B2 H2 B' H' : Hp} {σ : Slo} {te ta tb tl td tv : TE} {a C CB dx d : Addr} {b : Bool} {x v : V} {m n i j : Nat} {fs : List (Str × V)} {f kf : Str} {PV : VP} {ps ts : List (Nat × Nat)} {told : List (List Nat)}
abbrev TC (ch : List (List Nat)) : VP := TO (fun c => IT c) ch
abbrev spRemain : Sp := Pr fun vs B P => ∃ r t pu n ps m ts rows rws, vs = [r, t, pu] ∧ LO (fun r => IL r) rows r B ∧ RowsOk n ps rows ∧ TO I2 ts t B ∧ LO (fun r => LO (fun p => IT p) r) rws pu B ∧ PsOk n ps ∧ n ≤ 30 ∧ PsOk m ts ∧ rws.length = m ∧ m ≤ 8 ∧
  (∀ r ∈ rws, r.length ≤ 100 ∧ ∀ p ∈ r, p.length ≤ 30 ∧ ∀ s ∈ p, s < n) ∧ wt rws ≤ 70000 ∧ P = BT (Choice ps ts rws)
theorem sc__law_remain : FnScope ["_law_rows_here", "_law_ties", "_law_pieces_here", "_law_chosen", "_law_content", "_law_later", "_law_ahead", "_law_piece_here", "_law_others", "_law_one", "_law_two", "_law_other"] ["_law_rows_here", "_law_ties", "_law_pieces_here"] (defScope (tp 59)) := ⟨rfl, rfl, rfl, by decide +kernel, rfl, by decide +kernel, by decide +kernel⟩
set_option maxHeartbeats 1000000 in
open Classical in
theorem ok_law_remain (D : Dn K mg "_law_remain" "_law_remain" (tp 59)) (T : Tx mg) (c__law_touch : Cal P w K mg base 1 "_law_touch" spLTouch) : Cal P w K mg base 2 "_law_remain" spRemain := by
  refine cal_of D sc__law_remain (fun _ _ _ _ _ _ us hl => match us, hl with | [_, _, _], _ => rfl) (fun vs H Q E h => ?_) (fun cdv A outer s f H vs Q E hr h => ?_)
  · obtain ⟨B, P, s, ⟨r, t, pu, n, ps, m, ts, rows, rws, rfl, _⟩, _⟩ := h
    rfl
  · obtain ⟨B0, P', s0, ⟨r, t, pu, n, ps, m, ts, rows, rws, rfl, hrv, hro, ht, hpv, hps, hn, hts, hm, hm8, hsz, hwt, rfl⟩, kk⟩ := h
    refine ⟨_, (pss_cons (ps_set (i := 3) sc__law_remain.nd rfl (.inl rfl) (pe_lst (pa_cons (pe_tup pa_nil) pa_nil)))
      (pss_cons (ps_for PassesOwn.never rfl (pi_range1 rfl T.range (pa_cons (pe_callB (lenS K) (by rfl) T.len PySem.boot_len (pa_cons (pv 2) pa_nil)) pa_nil)) (pg_name (i := 4) sc__law_remain.nd rfl (.inr rfl))
        (pss_cons (ps_set (i := 5) sc__law_remain.nd rfl (.inl rfl) (pe_lst pa_nil))
        (pss_cons (ps_for PassesOwn.never rfl (piL K (pv 3)) (pg_name (i := 6) sc__law_remain.nd rfl (.inr rfl))
          (pss_one (ps_for PassesOwn.never rfl (piL K (pe_ix (ixL K) (pv 2) (pv 4) (fun _ _ => rfl))) (pg_name (i := 7) sc__law_remain.nd rfl (.inr rfl))
            (pss_cons (ps_setLc (i := 8) (own := [("_law_one", 9), ("_law_two", 10)]) rfl sc__law_remain.nd rfl rfl (sw_true rfl rfl rfl (by decide +kernel)) (piT K (pv 1)) (blkOk_by (by kernel_rfl)) (fun _ _ _ _ _ => (pgT K rfl (pgs_cons (pg_name (i := 9) sc__law_remain.nd rfl (.inl rfl)) (pgs_cons (pg_name (i := 10) sc__law_remain.nd rfl (.inl rfl)) pgs_nil)) (n := 2))) (fun _ _ _ _ _ => (pts_one (pt_cmpR op_eq (pv 10) (pv 4) (nomark _)))) (fun _ _ _ _ _ => (pv 9)))
            (pss_one (ps_if (pt_cmpR op_eq (pe_callB (lenS K) (by rfl) T.len PySem.boot_len (pa_cons (pe_lc (own := [("_law_other", 11)]) rfl sc__law_remain.nd (piL K (pv 8)) (blkOk_by (by kernel_rfl)) (fun _ _ _ _ _ => (pg_name (i := 11) sc__law_remain.nd rfl (.inl rfl))) (fun _ _ _ _ _ => (pts_one (pt_not (pt_val (pe_k c__law_touch hr (by decide) rfl (pa_cons (pv 0) (pa_cons (pe_ix (ixT K) (pv 6) (pv 11) (fun _ _ => rfl)) (pa_cons (pv 7) pa_nil)))))))) (fun _ _ _ _ _ => (pv 11))) pa_nil)) pe_int (nomark _)) (pss_one (ps_expr (bmK K PySem.F.plainAttrs_list PySem.F.slot_list_append PySem.F.type_list_append mt_append (pv 5) (pa_cons (pe_op (catA K) (pv 6) (pe_tup (pa_cons (pv 7) pa_nil))) pa_nil)))) pss_nil))))))
        (pss_one (ps_set (i := 3) sc__law_remain.nd rfl (.inl rfl) (pv 5))))))
      (pss_one (ps_ret (pe_cmpR op_gt (pe_callB (lenS K) (by rfl) T.len PySem.boot_len (pa_cons (pv 3) pa_nil)) pe_int (nomark _)))))), ?_⟩
    have htl := hts.le28 hm8
    refine s_asg (D := { nx := _, rt := _ }) (em_lst1 (R := TC) (x := []) ev_tup0).lo s0 fun cv B1 H1 g1 hcv => ?_
    refine s_for (D := { nx := _, rt := _ }) (ei_rng1 (n := rws.length) (ea_x (ev_len (ev_var 2 rfl (Mn.mn g1.bb hpv)) (pn_LO rfl)) ea_nil) (by omega)) g1.sub (fun c σ B' H' => ∃ cv x4 x5 x6 x7 x8, σ = [some r, some t, some pu, some cv, x4, x5, x6, x7, x8, none, none, none] ∧ Gr B0 H B' H' ∧ LO TC (chs ps ts (rws.take c)) cv B')
      (fun B' H' g => ?_) (fun c c' c'v σ B2 H2 hc s2 => ?_) (fun σ B' H' s2 => ?_)
    · exact ⟨cv, _, _, _, _, _, rfl, g1.trans g, by rw [List.take_zero]; exact Mn.mn g.bb hcv⟩
    · rintro ⟨cv, x4, x5, x6, x7, x8, rfl, g0, hcv⟩ e
      cases e
      have hc2 : c = c' ∧ c < rws.length := by
        obtain ⟨h1, h2⟩ := List.getElem?_eq_some_iff.mp hc
        rw [List.getElem_range] at h2
        rw [List.length_range] at h1
        exact ⟨h2, h1⟩
      obtain ⟨rfl, hcl⟩ := hc2
      have er : rws[c]? = some rws[c] := List.getElem?_eq_getElem hcl
      generalize rws[c] = rr at er
      obtain ⟨hrl, hrp⟩ := hsz rr (List.mem_of_getElem? er)
      have htk : rws.take (c + 1) = rws.take c ++ [rr] := by rw [List.take_add_one, er]; rfl
      have hctl : (rws.take c).length = c := by rw [List.length_take]; omega
      have hFl : (chs ps ts (rws.take c)).length ≤ 70000 := Nat.le_trans (Nat.le_trans (chs_len _) (wt_take rws c)) hwt
      have hnl : (nextC ps ts rr (chs ps ts (rws.take c))).length ≤ 70000 := by
        have h1 := chs_len (ps := ps) (ts := ts) (rws.take (c + 1))
        rw [htk, chs_snoc, ← htk] at h1
        exact Nat.le_trans (Nat.le_trans h1 (wt_take rws (c + 1))) hwt
      have hFm := fun a (ha : a ∈ chs ps ts (rws.take c)) => (chs_mem (rws.take c) a).mp ha
      rw [htk, chs_snoc]
      generalize chs ps ts (rws.take c) = F at hcv hFl hnl hFm
      have hpre : ∀ i, (nextC ps ts rr (F.take i)).length ≤ (nextC ps ts rr F).length := fun i => by
        have e : F = F.take i ++ F.drop i := (List.take_append_drop i F).symm
        have : nextC ps ts rr F = nextC ps ts rr (F.take i) ++ nextC ps ts rr (F.drop i) := by
          conv => lhs; rw [e]
          unfold nextC
          rw [List.flatMap_append]
        rw [this, List.length_append]; omega
      refine s_asgM (em_lst (xs := []) ea_nil) s2 fun L vs B3 H3 g3 nL bL hL e => ?_
      cases e
      have nL0 : H L = none := g0.hh.free nL
      have g03 := g0.trans g3
      refine s_for (R := TC) (ei_list (ev_var 3 rfl (Mn.mn g3.bb hcv))) g3.sub (fun i σ B' H' => ∃ x6 x7 x8 vs, σ = [some r, some t, some pu, some cv, some (vn c), some (.ref L), x6, x7, x8, none, none, none] ∧ Gr B0 H B' H' ∧ Same B2 B' ∧ B' L = none ∧ H' L = some (.lst vs) ∧ Rs TC (nextC ps ts rr (F.take i)) vs B')
        (fun B4 H4 g4 => ?_) (fun i ch chv σ B4 H4 hi s4 => ?_) (fun σ B4 H4 s4 => ?_)
      · exact ⟨_, _, _, [], rfl, g03.trans g4, g3.bb.trans g4.bb, (g4.own bL hL mo_lst).1, g4.hh _ _ hL, True.intro⟩
      · rintro ⟨x6, x7, x8, vs, rfl, g0, sb, bL, hL, rs⟩ hchv
        have hch := hFm ch (List.mem_of_getElem? hi)
        have hchl : ch.length = c := by rw [hch.1, hctl]
        have htk4 : F.take (i + 1) = F.take i ++ [ch] := by rw [List.take_add_one, hi]; rfl
        have hpl : (nextC ps ts rr (F.take i)).length + (rr.filter fun p => decide (FitP ps ts ch p)).length ≤ 70000 := by
          have h1 := hpre (i + 1)
          rw [htk4, nextC_snoc, List.length_append] at h1
          have h2 : (nextC ps ts rr [ch]).length = (rr.filter fun p => decide (FitP ps ts ch p)).length := by unfold nextC; simp
          omega
        have hcs : ∀ o, o < ch.length → (ch.getD o []).length ≤ 30 ∧ ∀ s ∈ ch.getD o [], s < n := fun o ho => by
          have eo : ch[o]? = some (ch.getD o []) := by rw [List.getD_eq_getElem?_getD, List.getElem?_eq_getElem ho]; rfl
          obtain ⟨r', h1, h2⟩ := hch.2.mem o _ eo
          exact (hsz r' (List.mem_of_mem_take (List.mem_of_getElem? h1))).2 _ h2
        refine s_for (R := fun p => IT p) (ei_list (ev_ixL (R := fun r => LO (fun p => IT p) r) (ev_var 2 rfl (Mn.mn g0.bb hpv)) (evx 4 rfl) er)) s4 (fun j σ B' H' => ∃ x7 x8 vs, σ = [some r, some t, some pu, some cv, some (vn c), some (.ref L), some chv, x7, x8, none, none, none] ∧ Gr B0 H B' H' ∧ Same B4 B' ∧ B' L = none ∧ H' L = some (.lst vs) ∧ Rs TC (nextC ps ts rr (F.take i) ++ ((rr.take j).filter fun p => decide (FitP ps ts ch p)).map fun p => ch ++ [p]) vs B')
          (fun B5 H5 g5 => ?_) (fun j p pvv σ B5 H5 hj s5 => ?_) (fun σ B5 H5 s5 => ?_)
        · exact ⟨_, _, vs, rfl, g0.trans g5, g5.bb, (g5.own bL hL mo_lst).1, g5.hh _ _ hL, by simpa using rs.mn g5.bb⟩
        · rintro ⟨x7, x8, vs, rfl, g0, sb5, bL, hL, rs⟩ hpvv
          have hp := hrp p (List.mem_of_getElem? hj)
          have hch5 : TC ch chv B5 := Mn.mn sb5 hchv
          refine s_asg (P := IL (othersOf ts c)) ((em_lc (R := I2) (R' := fun s => RX (vn s)) (ei_tup (ev_var 1 rfl (Mn.mn g0.bb ht))) (fun t => decide (t.2 = c)) (·.1) (by omega) fun q qv B6 H6 hm g6 hq => ?_).vals.vl) s5 fun ov B6 H6 g6 hov => ?_
          · obtain ⟨aq, rfl, hq⟩ := hq
            exact ⟨_, fun B7 H7 k g7 hk => ⟨aq, _, rfl, SqT.of (g7.sub _ _ (g7.bb _ _ hq)), rfl, _, _, rfl, _, _, rfl, rfl, hk⟩, rfl, et_val (ev_eqN (evx 10 rfl) (evx 4 rfl)), fun _ => evx 9 rfl⟩
          · have hov' : LO (fun s => RX (vn s)) (othersOf ts c) ov B6 := VL.lo (f := vn) hov
            have hol : (othersOf ts c).length ≤ 28 := by
              unfold othersOf
              rw [List.length_map]
              exact Nat.le_trans (List.length_filter_le _ _) htl
            have g06 := g0.trans g6
            have bL6 := (g6.own bL hL mo_lst).1
            have hL6 := g6.hh _ _ hL
            have hfe := filter_take_succ (p := fun p => decide (FitP ps ts ch p)) hj
            refine s_if (b := decide (((othersOf ts c).filter fun o => !decide (Tch ps (ch.getD o []) p)).length = 0)) (et_val (ev_eqN (ev_len (em_lcN (R := fun s => RX (vn s)) (R' := fun s => RX (vn s)) (ei_list (ev_var 8 rfl hov')) (fun o => !decide (Tch ps (ch.getD o []) p)) id (by omega) (fun _ => rfl) fun o ov7 B7 H7 hm g7 ho => ⟨?_, fun _ => ?_⟩).lo (pn_LO (List.length_map ..))) ev_0)) g6.sub (fun e B7 H7 g7 => ?_) (fun e B7 H7 g7 => ?_)
            · cases ho
              have hoc : o < ch.length := by
                obtain ⟨t, ht, rfl⟩ := List.mem_map.mp hm
                obtain ⟨h1, h2⟩ := List.mem_filter.mp ht
                have := hts.lt t h1
                have := of_decide_eq_true h2
                omega
              have eo : ch[o]? = some (ch.getD o []) := by rw [List.getD_eq_getElem?_getD, List.getElem?_eq_getElem hoc]; rfl
              refine et_not (et_B (ev_call (P := BT (Tch ps (ch.getD o []) p)) (ea_c (P := LO (fun r => IL r) rows) (ev_var 0 rfl (Mn.mn (g06.trans g7).bb hrv)) (ea_c (P := IT (ch.getD o [])) (ev_ixT (R := fun c => IT c) (ev_var 6 rfl (Mn.mn (g6.bb.trans g7.bb) hch5)) (evx 11 rfl) eo) (ea_c (P := IT p) (ev_var 7 rfl (Mn.mn (g6.bb.trans g7.bb) hpvv)) ea_nil))) fun vs B8 s8 hvs => ?_).bt)
              obtain ⟨r', _, rfl, hr', a', _, rfl, ha', b', _, rfl, hb', rfl⟩ := hvs
              exact ⟨r', a', b', n, ps, rows, _, p, rfl, hr', hro, ha', hb', hps, hn, (hcs o hoc).2, (hcs o hoc).1, rfl⟩
            · cases ho
              exact evx 11 rfl
            · have hf : FitP ps ts ch p := (others_fit hts).mp (by rw [hchl]; exact of_decide_eq_true e)
              rw [if_pos (decide_eq_true hf)] at hfe
              have s57 := g6.bb.trans g7.bb
              refine s_app (P := TC (ch ++ [p])) (evx 5 rfl) (ev_catT (R := fun c => IT c) (ev_var 6 rfl (Mn.mn s57 hch5)) (ev_tup1 (R := fun c => IT c) (ev_var 7 rfl (Mn.mn s57 hpvv))) (by rw [hchl]; simp; omega)) g7.sub (g7.hh _ _ hL6) ?_ fun v8 B8 H8 g8 h8 p8 => ?_
              · rw [rs.len, List.length_append, List.length_map]
                have h1 : ((rr.take j).filter fun p => decide (FitP ps ts ch p)).length ≤ (rr.take j).length := List.length_filter_le _ _
                rw [List.length_take] at h1
                omega
              · have b8 := (g8.own (g7.own bL6 hL6 mo_lst).1 (g7.hh _ _ hL6) mo_lst).1
                have gg := ((g06.trans g7).trans g8).put (o := .lst (vs ++ [v8])) nL0 b8
                have s58 := s57.trans g8.bb
                refine ⟨B8, s58, gg.sub, _, _, vs ++ [v8], rfl, gg, sb5.trans s58, b8, upd_same, ?_⟩
                rw [hfe, List.map_append, ← List.append_assoc]
                exact (rs.mn s58).app (Rs.one p8)
            · have hf : ¬ FitP ps ts ch p := fun hf => by
                have := (others_fit (ps := ps) (ch := ch) hts).mpr hf
                rw [hchl] at this
                exact of_decide_eq_false e this
              rw [if_neg (by rw [decide_eq_false hf]; decide), List.append_nil] at hfe
              have s57 := g6.bb.trans g7.bb
              exact ⟨B7, s57, g7.sub, _, _, vs, rfl, g06.trans g7, sb5.trans s57, (g7.own bL6 hL6 mo_lst).1, g7.hh _ _ hL6, by rw [hfe]; exact rs.mn s57⟩
        · rintro ⟨x7, x8, vs, rfl, g0, sb5, bL, hL, rs⟩
          rw [List.take_length] at rs
          refine ⟨B5, sb5, s5, _, _, _, vs, rfl, g0, sb.trans sb5, bL, hL, ?_⟩
          rw [htk4, nextC_snoc]
          have : nextC ps ts rr [ch] = (rr.filter fun p => decide (FitP ps ts ch p)).map fun p => ch ++ [p] := by unfold nextC; simp
          rw [this]; exact rs
      · rintro ⟨x6, x7, x8, vs, rfl, g0, sb, bL, hL, rs⟩
        rw [List.take_length] at rs
        have gs := g0.settle nL0 bL hL
        have sn := same_new (o := .lst vs) bL
        refine s_asgx (evx 5 rfl) gs.sub fun B5 H5 g5 => ?_
        exact ⟨B5, (sb.trans sn).trans g5.bb, g5.sub, .ref L, _, _, _, _, _, rfl, gs.trans g5, L, vs, rfl, g5.bb _ _ upd_same, rs.mn (sn.trans g5.bb)⟩
    · rintro ⟨cv, x4, x5, x6, x7, x8, rfl, g0, hcv⟩
      rw [List.length_range, List.take_length] at hcv
      refine s_ret (D := { nx := _, rt := _ }) (ev_gtN (m := (chs ps ts rws).length) (n := 0) (ev_len (ev_var 3 rfl hcv) (pn_LO rfl)) ev_0) s2 fun w B3 H3 g3 e => ?_
      exact kk w B3 H3 (g0.trans g3) ⟨_, e, by rw [decide_eq_true_iff]; exact chs_choice⟩
end
end Lw
/-! Mi: _law_flag, _law_all_parts, _law_by_parts, _law_bears. -/
namespace Lw
open PySem PySem.Spec PyProof.Rows L2
/-! ### == of tuples of numbers -/
theorem eqvAll_ints : ∀ a b : List Nat, PyData.eqvAll (a.map fun n : Nat => .int n) (b.map fun n : Nat => .int n) = decide (a = b)
  | [], [] => by simp [PyData.eqvAll]
  | [], _ :: _ => by simp [PyData.eqvAll]
  | _ :: _, [] => by simp [PyData.eqvAll]
  | x :: a, y :: b => by
    rw [List.map_cons, List.map_cons, PyData.eqvAll, eqvAll_ints a b]
    have e : PyData.eqv (.int (x : Int)) (.int (y : Int)) = decide (x = y) := by
      rw [PyData.eqv]
      by_cases h : x = y
      · subst h; simp
      · rw [decide_eq_false h]; simp; omega
    rw [e]
    by_cases h : x = y <;> by_cases k : a = b <;> simp [h, k]
theorem canLay_ints : ∀ a : List Nat, PyData.canLayAll0 (a.map fun n : Nat => .int n) = true
  | [] => by simp [PyData.canLayAll0]
  | x :: a => by
    rw [List.map_cons, PyData.canLayAll0, canLay_ints a]
    simp [PyData.canLay0]
theorem depth_nats (a : List Nat) : PyData.depthAll (a.map fun n : Nat => .int n) = 0 := by
  have := PySem.W.depth_ints (ci a)
  rw [List.map_map] at this
  exact this
theorem shaped_ints (a : List Nat) : SeqAt.shaped (.tuple (a.map fun n : Nat => .int n)) = true := by
  unfold SeqAt.shaped
  rw [PyData.canLay0, canLay_ints, PyData.depth, depth_nats]; decide
/-! ### parts -/
def subsL (xs : List Nat) : List (List Nat) := xs.foldl (fun F s => F ++ F.map fun l => l ++ [s]) [[]]
theorem subsL_snoc (xs : List Nat) (s : Nat) : subsL (xs ++ [s]) = subsL xs ++ (subsL xs).map fun l => l ++ [s] := by unfold subsL; rw [List.foldl_append]; rfl
theorem subsL_len : ∀ xs, (subsL xs).length = 2 ^ xs.length := snoc_ind rfl fun xs s ih => by
  rw [subsL_snoc, List.length_append, List.length_map, ih, List.length_append, List.length_singleton, Nat.pow_succ]; omega
theorem subsL_mem : ∀ xs l, l ∈ subsL xs ↔ l.Sublist xs := snoc_ind (fun l => by
  show l ∈ [[]] ↔ _
  rw [List.mem_singleton, List.sublist_nil]) fun xs s ih l => by
  rw [subsL_snoc, List.mem_append, List.mem_map, ih, sub_snoc]
  constructor
  · rintro (h | ⟨l', h, rfl⟩)
    · exact .inl h
    · exact .inr ⟨l', rfl, (ih l').mp h⟩
  · rintro (h | ⟨l', rfl, h⟩)
    · exact .inl h
    · exact .inr ⟨l', (ih l').mpr h, rfl⟩
noncomputable def partsOf (n : Nat) (ps : List (Nat × Nat)) (S : List Nat) : List (List Nat) := (subsL S).filter fun p => decide (0 < p.length) && decide (compL n ps p (p.headD 0) = p)
theorem Rch.within {adj : Rel} {S S' : Nat → Prop} {a b : Nat} (h : Rch adj S a b) (k : ∀ y, Rch adj S a y → S' y) : Rch adj S' a b := by
  induction h with
  | refl => exact .refl
  | step h e s ih => exact .step ih e (k _ (.step h e s))
section
variable {n : Nat} {ps : List (Nat × Nat)} {S p : List Nat}
theorem headD_mem (h : 0 < p.length) : p.headD 0 ∈ p := by
  cases p with
  | nil => exact absurd h (by decide)
  | cons x p => exact List.mem_cons_self ..
theorem partsOf_sub (hp : p ∈ partsOf n ps S) (h : PsOk n ps) (hS : ∀ s ∈ S, s < n) : (∀ x ∈ p, x ∈ S) ∧ p.length ≤ S.length ∧ ∃ s, s ∈ S ∧ ∀ x ∈ p, Rch (Adj ps) (· ∈ S) s x := by
  unfold partsOf at hp
  obtain ⟨h1, h2⟩ := List.mem_filter.mp hp
  rw [Bool.and_eq_true, decide_eq_true_iff, decide_eq_true_iff] at h2
  have hs := (subsL_mem S p).mp h1
  have h0 := headD_mem h2.1
  refine ⟨fun x hx => hs.subset hx, hs.length_le, p.headD 0, hs.subset h0, fun x hx => ?_⟩
  rw [← h2.2] at hx
  exact ((mem_compL h (hS _ (hs.subset h0))).mp hx).mono fun y hy => hs.subset hy
open Classical in
theorem partsOf_sup (h : PsOk n ps) (hS : ∀ s ∈ S, s < n) (asc : S.Pairwise (· < ·)) {s : Nat} (hs : s ∈ S) : ∃ p ∈ partsOf n ps S, ∀ x, Rch (Adj ps) (· ∈ S) s x → x ∈ p := by
  let c := S.filter fun x => decide (Rch (Adj ps) (· ∈ S) s x)
  have mc : ∀ x, x ∈ c ↔ Rch (Adj ps) (· ∈ S) s x := fun x => by
    show x ∈ S.filter _ ↔ _
    rw [List.mem_filter, decide_eq_true_iff]
    exact ⟨fun z => z.2, fun r => ⟨r.mem hs, r⟩⟩
  have hsc : s ∈ c := (mc s).mpr .refl
  have h0 : 0 < c.length := List.length_pos_of_mem hsc
  have hc0 := headD_mem h0
  have r0 := (mc _).mp hc0
  refine ⟨c, ?_, fun x r => (mc x).mpr r⟩
  unfold partsOf
  refine List.mem_filter.mpr ⟨(subsL_mem S c).mpr List.filter_sublist, ?_⟩
  rw [Bool.and_eq_true, decide_eq_true_iff, decide_eq_true_iff]
  refine ⟨h0, asc_eq (compL_asc ..) (asc.filter _) fun x => ?_⟩
  rw [mem_compL h (hS _ (r0.mem hs))]
  constructor
  · intro r; exact r.mem hc0
  · intro hx
    have rx := (r0.symm Adj.symm hs).trans ((mc x).mp hx)
    exact rx.within fun y hy => (mc y).mpr (r0.trans hy)
theorem partsOf_len : 1 + (partsOf n ps S).length ≤ 2 ^ (S.length + 1) := by
  unfold partsOf
  have h1 := List.length_filter_le (fun p => decide (0 < p.length) && decide (compL n ps p (p.headD 0) = p)) (subsL S)
  rw [subsL_len] at h1
  have : 1 ≤ 2 ^ S.length := Nat.one_le_two_pow
  rw [Nat.pow_succ]; omega
end
theorem wt_pow : ∀ (rws : List (List (List Nat))) (Ss : List (List Nat)), rws.length = Ss.length → (∀ (i : Nat) r S, rws[i]? = some r → Ss[i]? = some S → 1 + r.length ≤ 2 ^ (S.length + 1)) → wt rws ≤ 2 ^ (Ss.flatten.length + Ss.length)
  | [], [], _, _ => by decide
  | r :: rws, S :: Ss, h, k => by
    have h1 := k 0 r S rfl rfl
    have h2 := wt_pow rws Ss (by simpa using h) fun i r S hr hS => k (i + 1) r S (by simpa using hr) (by simpa using hS)
    have h3 := Nat.mul_le_mul h1 h2
    refine Nat.le_trans h3 (Nat.le_of_eq ?_)
    rw [← Nat.pow_add, List.flatten_cons, List.length_append, List.length_cons]
    congr 1; omega
section
variable {P : Program} {w : World} {K : PySem.W.Frag} {mg : Str → Option Value} {base : Heap}
variable {B H B0 H0 B1 H1 B2 H2 B' H' : Hp} {σ : Slo} {te ta tb tl td tv : TE} {a C CB dx d : Addr} {b : Bool} {x v : V} {m n i j : Nat} {fs : List (Str × V)} {f kf : Str} {PV : VP} {ps ts : List (Nat × Nat)} {told : List (List Nat)}
theorem dpAll_ints (K : PySem.W.Frag) (H : Hp) : ∀ l : List Nat, DpAll K H (l.map vn) (l.map fun n : Nat => .int n)
  | [] => .nil
  | _ :: l => .cons (.int _) (dpAll_ints K H l)
theorem dp_it {l : List Nat} (h : IT l v B) (s : Same B H) : Dp K H v (.tuple (l.map fun n : Nat => .int n)) := by
  obtain ⟨a, rfl, ha⟩ := h
  exact .tup (SqT.of (s _ _ ha)) (dpAll_ints K H l)
theorem ev_eqIT {l l' : List Nat} (ha : Ev ta σ B H (IT l)) (hb : Ev tb σ B H (IT l')) : Ev (tOp (rEqD K) ta tb) σ B H (RX (.bl (decide (l = l')))) :=
  ev_opx ha hb fun x y B' H' g hx hy Q q => ⟨_, _, dp_it hx g.sub, dp_it hy g.sub, shaped_ints l, shaped_ints l', by
    rw [PyData.eqv, eqvAll_ints]; exact q⟩
/-! ### _law_flag -/
abbrev spFlag : Sp := Pr fun vs _ P => ∃ a b : Bool, vs = [.bl a, .bl b] ∧ P = RX (.bl (decide (a = b)))
theorem sc__law_flag : FnScope ["_law_told", "_law_due"] ["_law_told", "_law_due"] (defScope (tp 61)) := ⟨rfl, rfl, rfl, by decide +kernel, rfl, by decide +kernel, by decide +kernel⟩
theorem ok_law_flag (D : Dn K mg "_law_flag" "_law_flag" (tp 61)) (T : Tx mg) : Cal P w K mg base 1 "_law_flag" spFlag := by
  refine cal_of D sc__law_flag (fun _ _ _ _ _ _ us hl => match us, hl with | [_, _], _ => rfl) (fun vs H Q E h => ?_) (fun cdv A outer s f H vs Q E hr h => ?_)
  · obtain ⟨B, P, s, ⟨a, b, rfl, _⟩, _⟩ := h
    rfl
  · obtain ⟨B0, P', s0, ⟨a, b, rfl, rfl⟩, k⟩ := h
    refine ⟨_, (pss_one (ps_ret (pe_and (pe_callB (isiK K) (by rfl) T.isinstance (by decide +kernel) (pa_cons (pv 0) (pa_cons (pe_bltn (v := .ty "bool") (u := .type "bool") (by rfl) T.bool (by decide +kernel) rfl) pa_nil))) (pe_one (pe_cmpR op_eq (pv 0) (pv 1) (nomark _)))))), ?_⟩
    refine s_ret (D := { nx := _, rt := _ }) (ev_and (b := true) (ev_isi (evx 0 rfl) (fun _ _ g => .base (.bl _)) (kit_ty (by decide +kernel))) fun _ => ev_eq (evx 0 rfl) (evx 1 rfl) rfl) s0 fun v B' H' g e => k v B' H' g ?_
    cases e
    show V.bl _ = V.bl _
    congr 1
    cases a <;> cases b <;> rfl
/-! ### _law_all_parts -/
abbrev spAllParts : Sp := Pr fun vs B P => ∃ r u n ps rows S, vs = [r, u] ∧ LO (fun r => IL r) rows r B ∧ RowsOk n ps rows ∧ IL S u B ∧ PsOk n ps ∧ n ≤ 30 ∧ (∀ s ∈ S, s < n) ∧ S.length ≤ 6 ∧ P = LO (fun p => IT p) (partsOf n ps S)
theorem sc__law_all_parts : FnScope ["_law_rows_here", "_law_land", "_law_found", "_law_standing", "_law_part"] ["_law_rows_here", "_law_land"] (defScope (tp 62)) := ⟨rfl, rfl, rfl, by decide +kernel, rfl, by decide +kernel, by decide +kernel⟩
theorem ok_law_all_parts (D : Dn K mg "_law_all_parts" "_law_all_parts" (tp 62)) (T : Tx mg) (c__law_piece : Cal P w K mg base 1 "_law_piece" spLPiece) : Cal P w K mg base 2 "_law_all_parts" spAllParts := by
  refine cal_of D sc__law_all_parts (fun _ _ _ _ _ _ us hl => match us, hl with | [_, _], _ => rfl) (fun vs H Q E h => ?_) (fun cdv A outer s f H vs Q E hr h => ?_)
  · obtain ⟨B, P, s, ⟨r, u, n, ps, rows, S, rfl, _⟩, _⟩ := h
    rfl
  · obtain ⟨B0, P', s0, ⟨r, u, n, ps, rows, S, rfl, hrv, hro, hu, hps, hn, hS, hSl, rfl⟩, kk⟩ := h
    refine ⟨_, (pss_cons (ps_set (i := 2) sc__law_all_parts.nd rfl (.inl rfl) (pe_lst (pa_cons (pe_tup pa_nil) pa_nil)))
      (pss_cons (ps_for PassesOwn.never rfl (piL K (pv 1)) (pg_name (i := 3) sc__law_all_parts.nd rfl (.inr rfl))
        (pss_one (ps_set (i := 2) sc__law_all_parts.nd rfl (.inl rfl) (pe_op op_cat (pv 2) (pe_lc (own := [("_law_part", 4)]) rfl sc__law_all_parts.nd (piL K (pv 2)) (blkOk_by (by kernel_rfl)) (fun _ _ _ _ _ => (pg_name (i := 4) sc__law_all_parts.nd rfl (.inl rfl))) (fun _ _ _ _ _ => pts_nil) (fun _ _ _ _ _ => (pe_op (catA K) (pv 4) (pe_tup (pa_cons (pv 3) pa_nil)))))))))
      (pss_one (ps_ret (pe_lc (own := [("_law_part", 4)]) rfl sc__law_all_parts.nd (piL K (pv 2)) (blkOk_by (by kernel_rfl)) (fun _ _ _ _ _ => (pg_name (i := 4) sc__law_all_parts.nd rfl (.inl rfl))) (fun _ _ _ _ _ => (pts_one (PW.pt (pw_and (pt_cmpR op_gt (pe_callB (lenS K) (by rfl) T.len PySem.boot_len (pa_cons (pv 4) pa_nil)) pe_int (nomark _)) (pw_and1 (pt_cmpR (eqD K hr.units) (pe_k c__law_piece hr (by decide) rfl (pa_cons (pv 0) (pa_cons (pv 4) (pa_cons (pe_ix (ixT K) (pv 4) pe_int (fun _ _ => rfl)) pa_nil)))) (pv 4) (nomark _))))))) (fun _ _ _ _ _ => (pv 4))))))), ?_⟩
    have h64 : ∀ i, i ≤ 6 → 2 ^ i ≤ 64 := by decide
    refine s_asg (D := { nx := _, rt := _ }) (em_lst1 (R := fun l => IT l) (x := []) (ev_tupx (xs := []) ea_nil)).lo s0 fun fv B1 H1 g1 hf => ?_
    refine s_for (D := { nx := _, rt := _ }) (ei_VL (f := vn) (ev_var 1 rfl (Mn.mn g1.bb hu))) g1.sub (fun i σ B' H' => ∃ x3 x4 fv, σ = [some r, some u, some fv, x3, x4] ∧ Gr B0 H B' H' ∧ LO (fun l => IT l) (subsL (S.take i)) fv B')
      (fun B' H' g => ?_) (fun i s sv σ B2 H2 hi s2 => ?_) (fun σ B' H' s2 => ?_)
    · exact ⟨_, _, fv, rfl, g1.trans g, Mn.mn g.bb hf⟩
    · rintro ⟨x3, x4, fv, rfl, g0, hf2⟩ hsv
      cases hsv
      have hilt := (List.getElem?_eq_some_iff.mp hi).1
      have hil : (S.take i).length = i := by rw [List.length_take]; omega
      have hFl := subsL_len (S.take i)
      have hF := subsL_mem (S.take i)
      rw [hil] at hFl
      have h6 := h64 i (by omega)
      have htk : S.take (i + 1) = S.take i ++ [s] := by rw [List.take_add_one, hi]; rfl
      refine s_asg (P := LO (fun l => IT l) (subsL (S.take i) ++ (subsL (S.take i)).map fun l => l ++ [s])) (ev_catL (ev_var 2 rfl hf2) (em_lcM (R := fun l => IT l) (R' := fun l => IT l) (ei_list (ev_var 2 rfl hf2)) (fun l => l ++ [s]) (by omega) (fun _ => rfl) fun l lv B3 H3 hm g3 hlv => ev_snocT (ev_var 4 rfl hlv) (evx 3 rfl) ?_).lo ?_) s2 fun fv2 B3 H3 g3 hf3 => ?_
      · have := ((hF l).mp hm).length_le
        omega
      · rw [List.length_map]; omega
      · exact ⟨B3, g3.bb, g3.sub, _, _, fv2, rfl, g0.trans g3, by rw [htk, subsL_snoc]; exact hf3⟩
    · rintro ⟨x3, x4, fv, rfl, g0, hf⟩
      rw [List.take_length] at hf
      have hFl := subsL_len S
      have h6 := h64 S.length hSl
      refine s_ret (D := { nx := _, rt := _ }) (P := LO (fun p => IT p) (partsOf n ps S)) ((em_lcN (R := fun l => IT l) (R' := fun l => IT l) (ei_list (ev_var 2 rfl hf)) (fun p => decide (0 < p.length) && decide (compL n ps p (p.headD 0) = p)) id (by omega) (fun _ => rfl) fun p pv' B3 H3 hm g3 hp => ⟨et_and (et_B (ev_gtN (ev_lenT (ev_var 4 rfl hp)) ev_0)) fun h0 => et_B (ev_eqIT (ev_call (P := IT (compL n ps p (p.headD 0))) (ea_c (P := LO (fun r => IL r) rows) (ev_var 0 rfl (Mn.mn (g0.trans g3).bb hrv)) (ea_c (P := IT p) (ev_var 4 rfl hp) (ea_x (ev_ixVT (i := 0) (v := vn (p.headD 0)) (ev_var 4 rfl hp) ev_0 ?_) ea_nil))) fun vs B4 s4 hvs => ?_) (ev_var 4 rfl hp)), fun _ => ev_var 4 rfl hp⟩).lo.imp fun v B' _ h => id_lo h) s2 fun w B3 H3 g3 hw => kk w B3 H3 (g0.trans g3) hw
      · have h0 := of_decide_eq_true h0
        cases p with
        | nil => exact absurd h0 (by decide)
        | cons x p => rfl
      · have h0 := of_decide_eq_true h0
        obtain ⟨r', _, rfl, hr', u', _, rfl, hu', rfl⟩ := hvs
        exact ⟨r', u', n, ps, rows, p, _, rfl, hr', hro, .inr hu', hps, hn, hS _ (((subsL_mem S p).mp hm).subset (headD_mem h0)), rfl⟩
end
end Lw
/-! Mj: _law_by_parts, _law_bears. -/
namespace Lw
open PySem PySem.Spec PyProof.Rows L2
def leftL (lost l : List Nat) : List Nat := l.filter fun s => !decide (s ∈ lost)
theorem mem_leftL {lost l : List Nat} {s : Nat} : s ∈ leftL lost l ↔ s ∈ l ∧ s ∉ lost := by unfold leftL; rw [List.mem_filter]; simp
section
variable {n m : Nat} {ps ts : List (Nat × Nat)} {told : List (List Nat)} {lost : List Nat}
noncomputable def byParts (n : Nat) (ps : List (Nat × Nat)) (told : List (List Nat)) (lost : List Nat) : List (List (List Nat)) := told.map fun l => partsOf n ps (leftL lost l)
theorem byParts_for (ht : Told n ps told) (h : PsOk n ps) : RowsFor ps told lost (byParts n ps told lost) := by
  have key : ∀ (i : Nat) r, (byParts n ps told lost)[i]? = some r → ∃ l, l ∈ told ∧ r = partsOf n ps (leftL lost l) ∧ ∀ x, x ∈ leftL lost l ↔ leftS told lost i x := fun i r hr => by
    unfold byParts at hr
    rw [List.getElem?_map] at hr
    cases e : told[i]? with
    | none => rw [e] at hr; cases hr
    | some l =>
      rw [e] at hr
      refine ⟨l, List.mem_of_getElem? e, (Option.some.inj hr).symm, fun x => ?_⟩
      unfold leftS
      rw [mem_leftL, List.getD_eq_getElem?_getD, e]; rfl
  refine ⟨by unfold byParts; rw [List.length_map], fun i r hr p hp => ?_, fun i r hr s hs => ?_⟩
  · obtain ⟨l, hl, rfl, hx⟩ := key i r hr
    have lo := ht.ok l hl
    obtain ⟨_, _, s, h1, h2⟩ := partsOf_sub hp h fun s hs => lo.lt s (mem_leftL.mp hs).1
    exact ⟨s, (hx s).mp h1, fun x hxp => (h2 x hxp).mono fun y hy => (hx y).mp hy⟩
  · obtain ⟨l, hl, rfl, hx⟩ := key i r hr
    have lo := ht.ok l hl
    obtain ⟨p, hp, h2⟩ := partsOf_sup h (S := leftL lost l) (fun s hs => lo.lt s (mem_leftL.mp hs).1) (lo.asc.filter _) ((hx s).mpr hs)
    exact ⟨p, hp, fun x r => h2 x (r.mono fun y hy => (hx y).mpr hy)⟩
theorem flatten_mem_le {l : List Nat} (hl : l ∈ told) : l.length ≤ told.flatten.length := by
  induction told with
  | nil => simp at hl
  | cons x t ih =>
    rw [List.flatten_cons, List.length_append]
    rcases List.mem_cons.mp hl with rfl | hl
    · omega
    · have := ih hl; omega
theorem byParts_sizes (ht : Told n ps told) (h : PsOk n ps) (hf : told.flatten.length ≤ 6) (hl : told.length ≤ 6) : (∀ r ∈ byParts n ps told lost, r.length ≤ 100 ∧ ∀ p ∈ r, p.length ≤ 30 ∧ ∀ s ∈ p, s < n) ∧ wt (byParts n ps told lost) ≤ 70000 := by
  have hlen : ∀ l ∈ told, (leftL lost l).length ≤ 6 := fun l hl => by
    have h1 := flatten_mem_le hl
    have h2 : (leftL lost l).length ≤ l.length := List.length_filter_le _ _
    omega
  refine ⟨fun r hr => ?_, ?_⟩
  · unfold byParts at hr
    obtain ⟨l, hl, rfl⟩ := List.mem_map.mp hr
    have lo := ht.ok l hl
    have h6 := hlen l hl
    refine ⟨?_, fun p hp => ?_⟩
    · have h1 : (partsOf n ps (leftL lost l)).length ≤ (subsL (leftL lost l)).length := List.length_filter_le _ _
      rw [subsL_len] at h1
      have : 2 ^ (leftL lost l).length ≤ 2 ^ 6 := Nat.pow_le_pow_right (by decide) h6
      omega
    · obtain ⟨h1, h2, _⟩ := partsOf_sub hp h fun s hs => lo.lt s (mem_leftL.mp hs).1
      exact ⟨by omega, fun s hs => lo.lt s (mem_leftL.mp (h1 s hs)).1⟩
  · have h1 := wt_pow (byParts n ps told lost) (told.map (leftL lost)) (by unfold byParts; rw [List.length_map, List.length_map]) fun i r S hr hS => by
      unfold byParts at hr
      rw [List.getElem?_map] at hr hS
      cases e : told[i]? with
      | none => rw [e] at hr; cases hr
      | some l =>
        rw [e] at hr hS
        cases hr; cases hS
        exact partsOf_len
    have h2 : (told.map (leftL lost)).flatten.length ≤ told.flatten.length := by
      clear h1 hlen hf hl ht
      induction told with
      | nil => exact Nat.le_refl _
      | cons x t ih =>
        rw [List.map_cons, List.flatten_cons, List.flatten_cons, List.length_append, List.length_append]
        have : (leftL lost x).length ≤ x.length := List.length_filter_le _ _
        omega
    rw [List.length_map] at h1
    have h3 : 2 ^ ((told.map (leftL lost)).flatten.length + told.length) ≤ 2 ^ 12 := Nat.pow_le_pow_right (by decide) (by omega)
    omega
end
section
variable {P : Program} {w : World} {K : PySem.W.Frag} {mg : Str → Option Value} {base : Heap}
variable {B H B0 H0 B1 H1 B2 H2 B' H' : Hp} {σ : Slo} {te ta tb tl td tv : TE} {a C CB dx d : Addr} {b : Bool} {x v : V} {m n i j : Nat} {fs : List (Str × V)} {f kf : Str} {PV : VP} {ps ts : List (Nat × Nat)} {told : List (List Nat)}
/-! ### _law_by_parts -/
abbrev spByParts : Sp := Pr fun vs B P => ∃ r t u lo n ps m ts rows told lost, vs = [r, t, u, lo] ∧ LO (fun r => IL r) rows r B ∧ RowsOk n ps rows ∧ TO I2 ts t B ∧ TO (fun l => IT l) told u B ∧ IS lost lo B ∧ CaseOk n ps m ts told ∧ told.flatten.length ≤ 6 ∧ P = BT (Rem ps ts told lost)
theorem sc__law_by_parts : FnScope ["_law_rows_here", "_law_ties", "_law_told", "_law_lost", "_law_parts", "_law_land", "_law_left_here", "_law_standing"] ["_law_rows_here", "_law_ties", "_law_told", "_law_lost"] (defScope (tp 63)) := ⟨rfl, rfl, rfl, by decide +kernel, rfl, by decide +kernel, by decide +kernel⟩
theorem ok_law_by_parts (D : Dn K mg "_law_by_parts" "_law_by_parts" (tp 63)) (T : Tx mg) (c__law_all_parts : Cal P w K mg base 2 "_law_all_parts" spAllParts) (c__law_remain : Cal P w K mg base 2 "_law_remain" spRemain) : Cal P w K mg base 3 "_law_by_parts" spByParts := by
  refine cal_of D sc__law_by_parts (fun _ _ _ _ _ _ us hl => match us, hl with | [_, _, _, _], _ => rfl) (fun vs H Q E h => ?_) (fun cdv A outer s f H vs Q E hr h => ?_)
  · obtain ⟨B, P, s, ⟨r, t, u, lo, n, ps, m, ts, rows, told, lost, rfl, _⟩, _⟩ := h
    rfl
  · obtain ⟨B0, P', s0, ⟨r, t, u, lo, n, ps, m, ts, rows, told, lost, rfl, hrv, hro, ht, hu, hlo, ok, hfl, rfl⟩, kk⟩ := h
    refine ⟨_, (pss_cons (ps_set (i := 4) sc__law_by_parts.nd rfl (.inl rfl) (pe_lst pa_nil))
      (pss_cons (ps_for PassesOwn.never rfl (piT K (pv 2)) (pg_name (i := 5) sc__law_by_parts.nd rfl (.inl rfl))
        (pss_cons (ps_setLc (i := 6) (own := [("_law_standing", 7)]) rfl sc__law_by_parts.nd rfl rfl (sw_true rfl rfl rfl (by decide +kernel)) (piT K (pv 5)) (blkOk_by (by kernel_rfl)) (fun _ _ _ _ _ => (pg_name (i := 7) sc__law_by_parts.nd rfl (.inl rfl))) (fun _ _ _ _ _ => (pts_one (pt_cmpR (notInS K) (pv 7) (pv 3) rfl))) (fun _ _ _ _ _ => (pv 7)))
        (pss_one (ps_expr (bmK K PySem.F.plainAttrs_list PySem.F.slot_list_append PySem.F.type_list_append mt_append (pv 4) (pa_cons (pe_k c__law_all_parts hr (by decide) rfl (pa_cons (pv 0) (pa_cons (pv 6) pa_nil))) pa_nil))))))
      (pss_one (ps_ret (pe_k c__law_remain hr (by decide) rfl (pa_cons (pv 0) (pa_cons (pv 1) (pa_cons (pv 4) pa_nil)))))))), ?_⟩
    have hm6 : told.length ≤ 6 := by rw [ok.len]; exact ok.m2
    refine s_asgM (D := { nx := _, rt := _ }) (em_lst (xs := []) ea_nil) s0 fun L vs B1 H1 g1 nL bL hL e => ?_
    cases e
    refine s_for (D := { nx := _, rt := _ }) (ei_tup (ev_var 2 rfl (Mn.mn g1.bb hu))) g1.sub (fun i σ B' H' => ∃ x5 x6 vs, σ = [some r, some t, some u, some lo, some (.ref L), x5, x6, none] ∧ Gr B0 H B' H' ∧ B' L = none ∧ H' L = some (.lst vs) ∧ Rs (fun r => LO (fun p => IT p) r) (byParts n ps (told.take i) lost) vs B')
      (fun B' H' g => ?_) (fun i l lv σ B2 H2 hi s2 => ?_) (fun σ B2 H2 s2 => ?_)
    · exact ⟨_, _, [], rfl, g1.trans g, (g.own bL hL mo_lst).1, g.hh _ _ hL, True.intro⟩
    · rintro ⟨x5, x6, vs, rfl, g0, bL, hL, rs⟩ hlv
      have lo' := ok.tld.ok l (List.mem_of_getElem? hi)
      have hl6 := flatten_mem_le (List.mem_of_getElem? hi)
      have hle : (leftL lost l).length ≤ l.length := List.length_filter_le _ _
      have hilt := (List.getElem?_eq_some_iff.mp hi).1
      have htk : told.take (i + 1) = told.take i ++ [l] := by rw [List.take_add_one, hi]; rfl
      refine s_asg (P := IL (leftL lost l)) ((em_lcN (R := fun s => RX (vn s)) (R' := fun s => RX (vn s)) (ei_VT (f := vn) (ev_var (P := IT l) 5 rfl hlv)) (fun s => !decide (s ∈ lost)) id (by omega) (fun _ => rfl) fun s sv B3 H3 hm g3 hsv => ⟨?_, fun _ => ?_⟩).vals.vl.imp fun v B' _ h => by rw [List.map_id] at h; exact h) s2 fun wv B3 H3 g3 hwv => ?_
      · cases hsv
        exact et_val (ev_inS (neg := true) (evx 7 rfl) (ev_var 3 rfl (Mn.mn (g0.trans g3).bb hlo)))
      · cases hsv
        exact evx 7 rfl
      · have bL3 := (g3.own bL hL mo_lst).1
        refine s_app (P := LO (fun p => IT p) (partsOf n ps (leftL lost l))) (evx 4 rfl) (ev_call (ea_c (P := LO (fun r => IL r) rows) (ev_var 0 rfl (Mn.mn (g0.trans g3).bb hrv)) (ea_c (P := IL (leftL lost l)) (ev_var 6 rfl hwv) ea_nil)) fun vs B4 s4 hvs => ?_) g3.sub (g3.hh _ _ hL) ?_ fun v4 B4 H4 g4 h4 p4 => ?_
        · obtain ⟨r', _, rfl, hr', u', _, rfl, hu', rfl⟩ := hvs
          exact ⟨r', u', n, ps, rows, _, rfl, hr', hro, hu', ok.pok, ok.n2, fun s hs => lo'.lt s (mem_leftL.mp hs).1, by omega, rfl⟩
        · rw [rs.len]; unfold byParts; rw [List.length_map, List.length_take]; omega
        · have b4 := (g4.own bL3 (g3.hh _ _ hL) mo_lst).1
          have gg := ((g0.trans g3).trans g4).put (o := .lst (vs ++ [v4])) nL b4
          refine ⟨B4, g3.bb.trans g4.bb, gg.sub, _, _, vs ++ [v4], rfl, gg, b4, upd_same, ?_⟩
          rw [htk]
          unfold byParts
          rw [List.map_append]
          exact (rs.mn (g3.bb.trans g4.bb)).app (Rs.one p4)
    · rintro ⟨x5, x6, vs, rfl, g0, bL, hL, rs⟩
      rw [List.take_length] at rs
      have gs := g0.settle nL bL hL
      obtain ⟨h1, h2⟩ := byParts_sizes (lost := lost) ok.tld ok.pok hfl hm6
      refine s_ret (D := { nx := _, rt := _ }) (P := BT (Rem ps ts told lost)) (ev_call (ea_c (P := LO (fun r => IL r) rows) (ev_var 0 rfl (Mn.mn gs.bb hrv)) (ea_c (P := TO I2 ts) (ev_var 1 rfl (Mn.mn gs.bb ht)) (ea_c (P := LO (fun r => LO (fun p => IT p) r) (byParts n ps told lost)) (ev_var (v := .ref L) (B := upd B2 L (.lst vs)) 4 rfl ⟨L, vs, rfl, upd_same, rs.mn (same_new bL)⟩) ea_nil))) fun vs B4 s4 hvs => ?_) gs.sub fun w B3 H3 g3 hw => kk w B3 H3 (gs.trans g3) hw
      obtain ⟨r', _, rfl, hr', t', _, rfl, ht', p', _, rfl, hp', rfl⟩ := hvs
      refine ⟨r', t', p', n, ps, m, ts, rows, byParts n ps told lost, rfl, hr', hro, ht', hp', ok.pok, ok.n2, ok.tok, by unfold byParts; rw [List.length_map, ok.len], by have := ok.m2; omega, h1, h2, ?_⟩
      rw [propext (choice_rem (byParts_for ok.tld ok.pok) ok.tok ok.len)]
/-! ### sum of lists, list of a tuple -/
theorem ev_listOfT {l : List Nat} (h : Ev te σ B H (IT l)) : Ev (tCB (fun xs H Q => ∃ p ys, xs = [.ref p] ∧ (SqL K H p ys ∨ SqT K H p ys) ∧ ∀ l, H l = none → Q (.ref l) (upd H l (.lst ys))) (tCons te tNil)) σ B H (IL l) :=
  ev_cb (ea_c h ea_nil) fun vs B' H' g ⟨v, ws, e, ⟨p, e1, hp⟩, e2⟩ Q q => by
    cases e2; subst e e1
    exact ⟨p, _, rfl, .inr (SqT.of (g.sub _ _ hp)), fun a na => q _ (upd B' a (.lst (l.map vn))) _ (Gr.new g.sub na) ⟨a, rfl, upd_same⟩⟩
theorem rs_il : ∀ {ls : List (List Nat)} {vs : List V}, Rs (fun l => IL l) ls vs B → ∃ qs : List (Addr × List V), vs = qs.map (fun p => V.ref p.1) ∧ qs.map (·.2) = ls.map (·.map vn) ∧ ∀ p ∈ qs, B p.1 = some (.lst p.2)
  | [], [], _ => ⟨[], rfl, rfl, fun p h => absurd h (by simp)⟩
  | l :: ls, v :: vs, ⟨⟨a, e, h⟩, t⟩ => by
    obtain ⟨qs, h1, h2, h3⟩ := rs_il t
    refine ⟨(a, l.map vn) :: qs, by rw [List.map_cons, ← h1, e], by rw [List.map_cons, List.map_cons, h2], fun p hp => ?_⟩
    rcases List.mem_cons.mp hp with rfl | hp
    · exact h
    · exact h3 p hp
theorem flatten_vn (ls : List (List Nat)) : (ls.map (·.map vn)).flatten = ls.flatten.map vn := by rw [List.map_flatten]
theorem ev_sumL {ls : List (List Nat)} (h1 : Ev ta σ B H (LO (fun l => IL l) ls)) (h2 : Ev tb σ B H (VL [])) (hne : ls ≠ []) (hl : ls.flatten.length ≤ 1000) : Ev (tCB (rSumL K) (tCons ta (tCons tb tNil))) σ B H (IL ls.flatten) :=
  ev_cb (ea_c h1 (ea_c h2 ea_nil)) fun vs B' H' g ⟨v, ws, e, ⟨p, us, e1, hp, r⟩, v2, ws2, e2, ⟨q, e3, hq⟩, e4⟩ Q k => by
    cases e4; subst e2 e3 e e1
    obtain ⟨qs, h3, h4, h5⟩ := rs_il r
    subst h3
    have hqs : qs ≠ [] := fun z => by
      subst z
      have := congrArg List.length h4
      rw [List.length_map, List.length_map] at this
      exact hne (List.eq_nil_of_length_eq_zero this.symm)
    refine ⟨p, q, qs, rfl, fun z => ?_, g.sub _ _ hq, SqL.of (g.sub _ _ hp), fun y hy => g.sub _ _ (h5 y hy), hqs, ?_, fun a na => ?_⟩
    · subst z
      rw [hp] at hq
      have := HO.lst.inj (Option.some.inj hq)
      exact hqs (List.map_eq_nil_iff.mp this)
    · rw [h4, flatten_vn, List.length_map]; exact sz _ (by omega)
    · rw [h4, flatten_vn]
      exact k _ (upd B' a (.lst (ls.flatten.map vn))) _ (Gr.new g.sub na) ⟨a, rfl, upd_same⟩
/-! ### _law_bears -/
def LLeftV (ps : List (Nat × Nat)) (told : List (List Nat)) (lost : List Nat) : VP := fun r B' => ∃ rows, LeftOk ps told lost rows ∧ LO (fun r => LO (fun p => IT p) r) rows r B'
instance {lost : List Nat} : Mn (LLeftV ps told lost) := ⟨fun s ⟨rows, h, k⟩ => ⟨rows, h, Mn.mn s k⟩⟩
/-- what the law's defs are given -/
structure QArgs (n : Nat) (ps ts : List (Nat × Nat)) (m : Nat) (told : List (List Nat)) (rows : List (List Nat)) (r t u : V) (B : Hp) : Prop where
  rv : LO (fun r => IL r) rows r B
  ro : RowsOk n ps rows
  tv : TO I2 ts t B
  uv : TO (fun l => IT l) told u B
  ok : CaseOk n ps m ts told
theorem QArgs.mn {rows : List (List Nat)} {r t u : V} (h : QArgs n ps ts m told rows r t u B) (s : Same B B') : QArgs n ps ts m told rows r t u B' := ⟨Mn.mn s h.rv, h.ro, Mn.mn s h.tv, Mn.mn s h.uv, h.ok⟩
/-- _law_remain(rows, ties, _law_left(rows, told, lost)) -/
theorem ev_remain {rows : List (List Nat)} {r t u : V} {lost : List Nat} {E E' : XK} {tr tt tr' tu tl : TE} (q : QArgs n ps ts m told rows r t u B) (hr : Ev tr σ B H (RX r)) (ht : Ev tt σ B H (RX t)) (hr' : Ev tr' σ B H (RX r)) (hu : Ev tu σ B H (RX u)) (hl : Ev tl σ B H (IS lost)) :
    Ev (tCall spRemain [] E (tCons tr (tCons tt (tCons (tCall spLLeft [] E' (tCons tr' (tCons tu (tCons tl tNil)))) tNil)))) σ B H (BT (Rem ps ts told lost)) := by
  have ok := q.ok
  have hm : told.length ≤ 6 := by rw [ok.len]; exact ok.m2
  refine ev_call (ea_c (P := LO (fun r => IL r) rows) (hr.imp fun v' B' s e => by cases e; exact Mn.mn s q.rv) (ea_c (P := TO I2 ts) (ht.imp fun v' B' s e => by cases e; exact Mn.mn s q.tv) (ea_c (P := LLeftV ps told lost)
    (ev_call (ea_c (P := LO (fun r => IL r) rows) (hr'.imp fun v' B' s e => by cases e; exact Mn.mn s q.rv) (ea_c (P := TO (fun l => IT l) told) (hu.imp fun v' B' s e => by cases e; exact Mn.mn s q.uv) (ea_c (P := IS lost) hl ea_nil))) fun vs B' s' hvs => ?_) ea_nil))) fun vs B' s' hvs => ?_
  · obtain ⟨v', _, rfl, hv', u', _, rfl, hu', l', _, rfl, hl', rfl⟩ := hvs
    exact ⟨v', u', l', n, ps, rows, told, lost, rfl, hv', q.ro, hu', hl', ok.pok, ok.n2, ok.tld.ok, by omega, rfl⟩
  · obtain ⟨v', _, rfl, hv', b', _, rfl, hb', r', _, rfl, ⟨rws, lk, hr⟩, rfl⟩ := hvs
    obtain ⟨h1, h2⟩ := lk.sizes ok.tld ok.n2 hm
    refine ⟨v', b', r', n, ps, m, ts, rows, rws, rfl, hv', q.ro, hb', hr, ok.pok, ok.n2, ok.tok, by rw [lk.len, ok.len], by have := ok.m2; omega, fun x hx => ⟨by have := (h1 x hx).1; omega, (h1 x hx).2⟩, by omega, ?_⟩
    rw [propext (choice_rem lk.rf ok.tok ok.len)]
abbrev spLBears : Sp := Pr fun vs B P => ∃ r t u n ps m ts rows told k few, vs = [r, t, u, vn k, .bl few] ∧ QArgs n ps ts m told rows r t u B ∧ (told.flatten.length ≤ 10 ∨ k ≤ 1) ∧ (few = true → told.flatten.length ≤ 6) ∧ P = BT (BearsL ps ts told k)
theorem sc__law_bears : FnScope ["_law_rows_here", "_law_ties", "_law_told", "_law_many", "_law_few", "_law_every", "_law_land", "_law_lot", "_law_left_here"] ["_law_rows_here", "_law_ties", "_law_told", "_law_many", "_law_few"] (defScope (tp 64)) := ⟨rfl, rfl, rfl, by decide +kernel, rfl, by decide +kernel, by decide +kernel⟩
open Classical in
theorem ok_law_bears (D : Dn K mg "_law_bears" "_law_bears" (tp 64)) (T : Tx mg) (c__law_lots : Cal P w K mg base 1 "_law_lots" spLawLots) (c__law_remain : Cal P w K mg base 2 "_law_remain" spRemain) (c__law_left : Cal P w K mg base 3 "_law_left" spLLeft) (c__law_by_parts : Cal P w K mg base 3 "_law_by_parts" spByParts) : Cal P w K mg base 4 "_law_bears" spLBears := by
  refine cal_of D sc__law_bears (fun _ _ _ _ _ _ us hl => match us, hl with | [_, _, _, _, _], _ => rfl) (fun vs H Q E h => ?_) (fun cdv A outer s f H vs Q E hr h => ?_)
  · obtain ⟨B, P, s, ⟨r, t, u, n, ps, m, ts, rows, told, k, few, rfl, _⟩, _⟩ := h
    rfl
  · obtain ⟨B0, P', s0, ⟨r, t, u, n, ps, m, ts, rows, told, k, few, rfl, q, hk, hfew, rfl⟩, kk⟩ := h
    refine ⟨_, (pss_cons (ps_set (i := 5) sc__law_bears.nd rfl (.inl rfl) (pe_callB (srtI K) (by rfl) T.sorted (by decide +kernel) (pa_cons (pe_callB (cr_sumL K rfl) (by rfl) T.sum (by decide +kernel) (pa_cons (pe_lc (own := [("_law_land", 6)]) rfl sc__law_bears.nd (piT K (pv 2)) (blkOk_by (by kernel_rfl)) (fun _ _ _ _ _ => (pg_name (i := 6) sc__law_bears.nd rfl (.inl rfl))) (fun _ _ _ _ _ => pts_nil) (fun _ _ _ _ _ => (pe_callTy (lstOf K) (by rfl) T.list (by decide +kernel) (pa_cons (pv 6) pa_nil)))) (pa_cons (pe_lst pa_nil) pa_nil))) pa_nil)))
      (pss_cons (ps_for PassesOwn.never rfl (piL K (pe_k c__law_lots hr (by decide) rfl (pa_cons (pv 5) (pa_cons (pv 3) pa_nil)))) (pg_name (i := 7) sc__law_bears.nd rfl (.inl rfl))
        (pss_cons (ps_set (i := 8) sc__law_bears.nd rfl (.inl rfl) (pe_k c__law_remain hr (by decide) rfl (pa_cons (pv 0) (pa_cons (pv 1) (pa_cons (pe_k c__law_left hr (by decide) rfl (pa_cons (pv 0) (pa_cons (pv 2) (pa_cons (pv 7) pa_nil)))) pa_nil)))))
        (pss_cons (ps_if (PW.pt (pw_and (pt_val (pv 4)) (pw_and1 (pt_cmpR op_ne (pv 8) (pe_k c__law_by_parts hr (by decide) rfl (pa_cons (pv 0) (pa_cons (pv 1) (pa_cons (pv 2) (pa_cons (pv 7) pa_nil))))) (nomark _))))) (pss_one (ps_ret pe_non)) pss_nil)
        (pss_one (ps_if (pt_not (pt_val (pv 8))) (pss_one (ps_ret pe_bl)) pss_nil)))))
      (pss_one (ps_ret pe_bl)))), ?_⟩
    have ok := q.ok
    have hfl : told.flatten.length ≤ 30 := Nat.le_trans ok.tld.flat_len ok.n2
    have hsl := srt_len told.flatten
    have htn : told ≠ [] := fun e => by have := ok.len; have := ok.m1; subst e; simp at *; omega
    have hm6 : told.length ≤ 6 := by rw [ok.len]; exact ok.m2
    refine s_asg (D := { nx := _, rt := _ }) (P := IL (srt told.flatten)) (em_sorted (ev_sumL (ls := told) ((em_lcM (R := fun l => IT l) (R' := fun l => IL l) (ei_tup (ev_var 2 rfl q.uv)) id (by omega) (fun _ => rfl) fun l lv B' H' hm g hl => ev_listOfT (ev_var 6 rfl hl)).lo.imp fun v B' _ h => id_lo h) (em_lst (xs := []) ea_nil).vl htn (by omega))).vl s0 fun ev B1 H1 g1 hev => ?_
    have hb := (lotsL_b k (srt told.flatten)).le (by omega) (by omega)
    have hmem := lotsL_mem k (srt told.flatten)
    refine s_for (D := { nx := _, rt := _ }) (R := fun l => IT l) (xs := lotsL k (srt told.flatten)) (ei_list (ev_call (P := LO (fun l => IT l) (lotsL k (srt told.flatten))) (ea_c (P := IL (srt told.flatten)) (ev_var 5 rfl hev) (ea_x (evx 3 rfl) ea_nil)) fun vs B' s' hvs => ?_)) g1.sub (fun i σ B' H' => ∃ x7 x8, σ = [some r, some t, some u, some (vn k), some (.bl few), some ev, none, x7, x8] ∧ Gr B0 H B' H' ∧ ∀ lot ∈ (lotsL k (srt told.flatten)).take i, Rem ps ts told lot)
      (fun B' H' g => ?_) (fun i lot lv σ B2 H2 hi s2 => ?_) (fun σ B2 H2 s2 => ?_)
    · obtain ⟨u', _, rfl, hu', rfl⟩ := hvs
      exact ⟨u', _, k, rfl, hu', by omega, by omega, rfl⟩
    · exact ⟨_, _, rfl, g1.trans g, fun lot h => by rw [List.take_zero] at h; simp at h⟩
    · rintro ⟨x7, x8, rfl, g0, hall⟩ hlv
      have q2 := q.mn g0.bb
      refine s_asgx (ev_remain q2 (evx 0 rfl) (evx 1 rfl) (evx 0 rfl) (evx 2 rfl) (ev_var (P := IS lot) 7 rfl (.inr hlv))).bt s2 fun B3 H3 g3 => ?_
      have q3 := q2.mn g3.bb
      refine s_if (b := few && false) (et_and (et_B (evx 4 rfl)) fun hf => et_B ((ev_ne (evx 8 rfl) (ev_call (P := BT (Rem ps ts told lot)) (ea_c (P := LO (fun r => IL r) rows) (ev_var 0 rfl q3.rv) (ea_c (P := TO I2 ts) (ev_var 1 rfl q3.tv) (ea_c (P := TO (fun l => IT l) told) (ev_var 2 rfl q3.uv) (ea_c (P := IS lot) (ev_var 7 rfl (.inr (Mn.mn g3.bb hlv))) ea_nil)))) fun vs B4 s4 hvs => ?_).bt rfl).eq (by simp))) g3.sub (fun e => by simp at e) fun _ B4 H4 g4 => ?_
      · obtain ⟨r', _, rfl, hr', t', _, rfl, ht', u', _, rfl, hu', l', _, rfl, hl', rfl⟩ := hvs
        exact ⟨r', t', u', l', n, ps, m, ts, rows, told, lot, rfl, hr', q.ro, ht', hu', hl', ok, hfew hf, rfl⟩
      · have g04 := (g0.trans g3).trans g4
        have htk : (lotsL k (srt told.flatten)).take (i + 1) = (lotsL k (srt told.flatten)).take i ++ [lot] := by rw [List.take_add_one, hi]; rfl
        refine s_if (et_not (b := decide (Rem ps ts told lot)) (et_B (evx 8 rfl))) g4.sub (fun e B5 H5 g5 => ?_) (fun e B5 H5 g5 => ?_)
        · have hn : ¬ Rem ps ts told lot := fun h => by rw [decide_eq_true h] at e; cases e
          exact kk (.bl false) B5 H5 (g04.trans g5) ⟨false, rfl, fun h => absurd h (by decide), fun h => absurd (h lot ((hmem lot).mp (List.mem_of_getElem? hi)).1 ((hmem lot).mp (List.mem_of_getElem? hi)).2) hn⟩
        · have hy : Rem ps ts told lot := by
            cases h : decide (Rem ps ts told lot) with
            | true => exact of_decide_eq_true h
            | false => rw [h] at e; cases e
          refine ⟨B5, (g3.bb.trans g4.bb).trans g5.bb, g5.sub, _, _, rfl, g04.trans g5, fun l' h => ?_⟩
          rw [htk] at h
          rcases List.mem_append.mp h with h | h
          · exact hall l' h
          · rw [List.mem_singleton.mp h]; exact hy
    · rintro ⟨x7, x8, rfl, g0, hall⟩
      rw [List.take_length] at hall
      exact kk (.bl true) B2 H2 g0 ⟨true, rfl, fun _ lot hs hl => hall lot ((hmem lot).mpr ⟨hs, hl⟩), fun _ => rfl⟩
end
end Lw
/-! Na: the dice. -/
namespace Lw
open PySem PySem.Spec PyProof.Rows L2
section
variable {P : Program} {w : World} {K : PySem.W.Frag} {mg : Str → Option Value} {base : Heap}
variable {B H B0 H0 B1 H1 B2 H2 B' H' : Hp} {σ : Slo} {te ta tb tl td tv : TE} {a C CB dx d D : Addr} {b : Bool} {x v : V} {m n i j k : Nat} {fs : List (Str × V)} {f kf : Str} {PV : VP} {ps ts : List (Nat × Nat)} {told : List (List Nat)}
/-! ### growth but for one object -/
def remd (D : Addr) (H : Hp) : Hp := fun a => if a = D then none else H a
theorem remd_at : remd D H D = none := if_pos rfl
theorem remd_ne (h : a ≠ D) : remd D H a = H a := if_neg h
theorem remd_upd {o : HO} : remd D (upd H D o) = remd D H := funext fun a => by
  by_cases e : a = D
  · subst e; rw [remd_at, remd_at]
  · rw [remd_ne e, remd_ne e, upd_ne e]
theorem remd_updN {o : HO} (h : a ≠ D) : remd D (upd H a o) = upd (remd D H) a o := funext fun b => by
  by_cases e : b = D
  · subst e; rw [remd_at, upd_ne h.symm, remd_at]
  · rw [remd_ne e]
    by_cases e2 : b = a
    · subst e2; rw [upd_same, upd_same]
    · rw [upd_ne e2, upd_ne e2, remd_ne e]
/-- all grows, D is one's own and may change -/
structure GD (D : Addr) (B H B' H' : Hp) : Prop where
  gr : Gr B (remd D H) B' (remd D H')
  sub : Same B' H'
theorem GD.bb (g : GD D B H B' H') : Same B B' := g.gr.bb
theorem GD.trans (g : GD D B H B1 H1) (k : GD D B1 H1 B2 H2) : GD D B H B2 H2 := ⟨g.gr.trans k.gr, k.sub⟩
theorem remd_sub (s : Same B H) (n : B D = none) : Same B (remd D H) := fun a o e => by
  by_cases h : a = D
  · subst h; rw [n] at e; cases e
  · rw [remd_ne h]; exact s a o e
theorem GD.of {o : HO} (g : Gr B H B' H') (n : B D = none) (h : H D = some o) (m : Mo o) : GD D B H B' H' := by
  have n' := g.fr _ _ n h m
  refine ⟨⟨g.bb, remd_sub g.sub n', fun a u e => ?_, fun a u e1 e2 m => ?_⟩, g.sub⟩
  · by_cases h : a = D
    · subst h; rw [remd_at] at e; cases e
    · rw [remd_ne h] at e ⊢; exact g.hh _ _ e
  · by_cases h : a = D
    · subst h; rw [remd_at] at e2; cases e2
    · rw [remd_ne h] at e2; exact g.fr _ _ e1 e2 m
theorem GD.own {o : HO} (g : GD D B H B' H') (hd : a ≠ D) (n0 : B a = none) (h : H a = some o) (mo : Mo o) : B' a = none ∧ H' a = some o := by
  obtain ⟨h1, h2⟩ := g.gr.own n0 (by rw [remd_ne hd]; exact h) mo
  rw [remd_ne hd] at h2
  exact ⟨h1, h2⟩
theorem GD.put {o : HO} (g : GD D B H B1 H1) (hd : a ≠ D) (n0 : H a = none) (n1 : B1 a = none) : GD D B H B1 (upd H1 a o) :=
  ⟨by rw [remd_updN hd]; exact g.gr.put (by rw [remd_ne hd]; exact n0) n1, same_off g.sub n1⟩
theorem GD.putD {o : HO} (g : GD D B H B1 H1) (n1 : B1 D = none) : GD D B H B1 (upd H1 D o) := ⟨by rw [remd_upd]; exact g.gr, same_off g.sub n1⟩
theorem GD.settle {o : HO} (g : GD D B H B1 H1) (hd : a ≠ D) (n0 : H a = none) (n1 : B1 a = none) (h : H1 a = some o) : GD D B H (upd B1 a o) H1 := by
  refine ⟨g.gr.settle (by rw [remd_ne hd]; exact n0) n1 (by rw [remd_ne hd]; exact h), fun b u e => ?_⟩
  by_cases hb : b = a
  · subst hb; rw [upd_same] at e; rw [← e]; exact h
  · rw [upd_ne hb] at e; exact g.sub b u e
theorem GD.free (g : GD D B H B1 H1) (hd : a ≠ D) (n : H1 a = none) : H a = none := by
  have h := none_of_same g.gr.hh (p := a) (by rw [remd_ne hd]; exact n)
  rw [remd_ne hd] at h; exact h
/-! ### the dice -/
def diceL (L : Addr) (p b s c : Nat) : HO := .lst [.ref L, vn p, vn b, vn s, vn c]
structure Dice (D : Addr) (B H : Hp) : Prop where
  bD : B D = none
  hD : ∃ (L : Addr) (cells : List Nat) (p b s c : Nat), H D = some (diceL L p b s c) ∧ B L = some (.lst (cells.map vn))
theorem mo_dice {L : Addr} {p b s c : Nat} : Mo (diceL L p b s c) := mo_lst
theorem Dice.grow (h : Dice D B H) (g : Gr B H B' H') : Dice D B' H' := by
  obtain ⟨bD, L, cells, p, b, s, c, h1, h2⟩ := h
  exact ⟨g.fr _ _ bD h1 mo_dice, L, cells, p, b, s, c, g.hh _ _ h1, g.bb _ _ h2⟩
theorem Dice.gd (h : Dice D B H) (g : Gr B H B' H') : GD D B H B' H' := by
  obtain ⟨bD, L, cells, p, b, s, c, h1, h2⟩ := h
  exact GD.of g bD h1 mo_dice
theorem Dice.put {o : HO} (h : Dice D B H) (hd : a ≠ D) : Dice D B (upd H a o) := by
  obtain ⟨bD, L, cells, p, b, s, c, h1, h2⟩ := h
  exact ⟨bD, L, cells, p, b, s, c, by rw [upd_ne hd.symm]; exact h1, h2⟩
theorem Dice.settle {o : HO} (h : Dice D B H) (hd : a ≠ D) (n : B a = none) : Dice D (upd B a o) H := by
  obtain ⟨bD, L, cells, p, b, s, c, h1, h2⟩ := h
  exact ⟨by rw [upd_ne hd.symm]; exact bD, L, cells, p, b, s, c, h1, same_new n _ _ h2⟩
theorem Dice.ne (h : Dice D B H) (n : H a = none) : a ≠ D := fun e => by
  obtain ⟨bD, L, cells, p, b, s, c, h1, h2⟩ := h
  rw [e, h1] at n; cases n
/-- a first statement that leaves J -/
theorem s_seq {t u : TS} {E : Ends} (J : Slo → Hp → Prop) (h1 : ∀ R : Slo → Hp → Prop, (∀ σ' H', J σ' H' → R σ' H') → t { E with nx := R } σ H) (h2 : ∀ σ' H', J σ' H' → u E σ' H') : tSeq t u E σ H := h1 _ h2
theorem ev_mulN (ha : Ev ta σ B H (RX (vn m))) (hb : Ev tb σ B H (RX (vn n))) (h : CMul (m : Int) (n : Int)) : Ev (tOp (rI CMul fun i j => .int (i * j)) ta tb) σ B H (RX (vn (m * n))) :=
  (ev_I ha hb h).eq (by show V.int _ = V.int _; congr 1)
theorem ev_modN (ha : Ev ta σ B H (RX (vn m))) (hb : Ev tb σ B H (RX (vn n))) (h : 0 < n) : Ev (tOp (rI (fun _ j => 0 < j) fun i j => .int (i % j)) ta tb) σ B H (RX (vn (m % n))) :=
  (ev_I ha hb (by omega : (0 : Int) < (n : Int))).eq (by show V.int _ = V.int _; congr 1)
theorem ev_divN (ha : Ev ta σ B H (RX (vn m))) (hb : Ev tb σ B H (RX (vn n))) (h : 0 < n) (h2 : n < 1073741824) : Ev (tOp (rI CDiv fun i j => .int (i / j)) ta tb) σ B H (RX (vn (m / n))) :=
  (ev_I ha hb ⟨by omega, by omega⟩).eq (by show V.int _ = V.int _; congr 1)
theorem ev_intN (h : Ev te σ B H (RX (vn m))) : Ev (tCB (fun xs H Q => (∃ i, xs = [.int i] ∧ Q (.int i) H) ∨ ∃ k, xs = [.bl k] ∧ Q (.int (if k then 1 else 0)) H) (tCons te tNil)) σ B H (RX (vn m)) :=
  ev_cbx (ea_x h ea_nil) fun vs B' H' g e Q q => .inl ⟨_, e, q⟩
theorem cm_l (h : m < 2 ^ 64) : CMul (m : Int) (n : Int) := .inl ⟨by omega, by omega⟩
theorem cm_r (h : n < 2 ^ 64) : CMul (m : Int) (n : Int) := .inr ⟨by omega, by omega⟩
theorem s_setD {E : Ends} {to ti : TE} {L : Addr} {p b s c p' b' s' c' : Nat} (he : Ev te σ B H (RX (vn m))) (ho : Ev to σ B H (RX (.ref D))) (hi : Ev ti σ B H (RX (vn j))) (sm : Same B H) (hD : H D = some (diceL L p b s c))
    (k : ∀ B' H', Gr B H B' H' → H' D = some (diceL L p b s c) → E.nx σ (upd H' D (diceL L p' b' s' c'))) (e : ([.ref L, vn p, vn b, vn s, vn c] : List V).set j (vn m) = [.ref L, vn p', vn b', vn s', vn c'] := by rfl) (hj : j < 5 := by decide) :
    tAsg te (gSub to ti (fun o i v H Q => ∃ l xs i' j, o = .ref l ∧ i = .int i' ∧ H l = some (.lst xs) ∧ ixN xs.length i' = some j ∧ Q (upd H l (.lst (xs.set j v))))) E σ H :=
  s_setL he ho hi sm hD hj fun v B' H' g h e' => by
    cases e'
    rw [e]
    exact k B' H' g h
abbrev spDraw : Sp := fun vs H Q _ => ∃ B D k, vs = [.ref D, vn k] ∧ Dice D B H ∧ Same B H ∧ 1 ≤ k ∧ k ≤ 1000 ∧ ∀ r B' H', r < k → GD D B H B' H' → Dice D B' H' → Q (vn r) H'
theorem sc__law_draw : FnScope ["_law_dice_here", "_law_sides", "_law_cell", "_law_digit", "_law_mixed"] ["_law_dice_here", "_law_sides"] (defScope (tp 48)) := ⟨rfl, rfl, rfl, by decide +kernel, rfl, by decide +kernel, by decide +kernel⟩
set_option maxHeartbeats 1000000 in
theorem ok_law_draw (Dd : Dn K mg "_law_draw" "_law_draw" (tp 48)) (T : Tx mg) : Cal P w K mg base 1 "_law_draw" spDraw := by
  refine cal_of Dd sc__law_draw (fun _ _ _ _ _ _ us hl => match us, hl with | [_, _], _ => rfl) (fun vs H Q E h => ?_) (fun cdv A outer s f H vs Q E hr h => ?_)
  · obtain ⟨B, D, k, rfl, _⟩ := h
    rfl
  · obtain ⟨B0, D, k, rfl, ⟨bD, L, cells, p0, b0, st0, c0, hD, hL⟩, s0, hk1, hk2, kk⟩ := h
    refine ⟨_, (pss_cons (ps_if (PW.pt (pw_and (pt_cmpR op_eq (pe_ix (ixL K) (pv 0) pe_int (fun _ _ => rfl)) pe_int (nomark _)) (pw_and1 (pt_cmpR op_lt (pe_ix (ixL K) (pv 0) pe_int (fun _ _ => rfl)) (pe_callB (lenS K) (by rfl) T.len PySem.boot_len (pa_cons (pe_ix (ixL K) (pv 0) pe_int (fun _ _ => rfl)) pa_nil)) (nomark _))))) (pss_cons (ps_set (i := 2) sc__law_draw.nd rfl (.inl rfl) (pe_ix (ixL K) (pe_ix (ixL K) (pv 0) pe_int (fun _ _ => rfl)) (pe_ix (ixL K) (pv 0) pe_int (fun _ _ => rfl)) (fun _ _ => rfl)))
        (pss_cons (ps_asg (pe_op op_add (pe_ix (ixL K) (pv 0) pe_int (fun _ _ => rfl)) pe_int) (pg_sub (pv 0) pe_int set_list))
        (pss_one (ps_if (pt_cmpR op_ge (pv 2) (pe_op op_pow pe_int pe_int) (nomark _)) (pss_one (ps_asg (pv 2) (pg_sub (pv 0) pe_int set_list))) (pss_one (ps_asg (pe_op op_mod (pe_callTy call_int1 (by rfl) T.int (by decide +kernel) (pa_cons (pe_op op_add (pe_op op_add (pe_op op_mul (pe_ix (ixL K) (pv 0) pe_int (fun _ _ => rfl)) pe_int) (pe_op op_mul (pv 2) pe_int)) (pe_ix (ixL K) (pv 0) pe_int (fun _ _ => rfl))) pa_nil)) pe_int) (pg_sub (pv 0) pe_int set_list))))))) pss_nil)
      (pss_cons (ps_if (pt_cmpR op_gt (pe_ix (ixL K) (pv 0) pe_int (fun _ _ => rfl)) pe_int (nomark _)) (pss_cons (ps_set (i := 3) sc__law_draw.nd rfl (.inl rfl) (pe_op op_mod (pe_callTy call_int1 (by rfl) T.int (by decide +kernel) (pa_cons (pe_ix (ixL K) (pv 0) pe_int (fun _ _ => rfl)) pa_nil)) (pv 1)))
        (pss_cons (ps_asg (pe_op op_fdiv (pe_callTy call_int1 (by rfl) T.int (by decide +kernel) (pa_cons (pe_ix (ixL K) (pv 0) pe_int (fun _ _ => rfl)) pa_nil)) (pv 1)) (pg_sub (pv 0) pe_int set_list))
        (pss_one (ps_ret (pv 3))))) pss_nil)
      (pss_cons (ps_asg (pe_op op_add (pe_ix (ixL K) (pv 0) pe_int (fun _ _ => rfl)) pe_int) (pg_sub (pv 0) pe_int set_list))
      (pss_cons (ps_asg (pe_op op_mod (pe_callTy call_int1 (by rfl) T.int (by decide +kernel) (pa_cons (pe_op op_add (pe_op op_add (pe_op op_mul (pe_ix (ixL K) (pv 0) pe_int (fun _ _ => rfl)) pe_int) (pe_op op_mul (pe_ix (ixL K) (pv 0) pe_int (fun _ _ => rfl)) pe_int)) pe_int) pa_nil)) pe_int) (pg_sub (pv 0) pe_int set_list))
      (pss_cons (ps_set (i := 4) sc__law_draw.nd rfl (.inl rfl) (pe_op op_mod (pe_callTy call_int1 (by rfl) T.int (by decide +kernel) (pa_cons (pe_op op_mul (pe_ix (ixL K) (pv 0) pe_int (fun _ _ => rfl)) (pe_op op_add (pe_op op_fdiv (pe_ix (ixL K) (pv 0) pe_int (fun _ _ => rfl)) pe_int) pe_int)) pa_nil)) pe_int))
      (pss_cons (ps_set (i := 4) sc__law_draw.nd rfl (.inl rfl) (pe_op op_mod (pe_callTy call_int1 (by rfl) T.int (by decide +kernel) (pa_cons (pe_op op_mul (pv 4) (pe_op op_add (pe_op op_fdiv (pv 4) pe_int) pe_int)) pa_nil)) pe_int))
      (pss_one (ps_ret (pe_op op_mod (pe_callTy call_int1 (by rfl) T.int (by decide +kernel) (pa_cons (pe_op op_fdiv (pv 4) pe_int) pa_nil)) (pv 1)))))))))), ?_⟩
    refine s_seq (E := { nx := _, rt := _ }) (fun σ H1 => ∃ x2 B1 p b st c, σ = [some (.ref D), some (vn k), x2, none, none] ∧ GD D B0 H B1 H1 ∧ B1 D = none ∧ H1 D = some (diceL L p b st c) ∧ B1 L = some (.lst (cells.map vn))) (fun R hJ => ?_) fun σ H1 => ?_
    · refine s_if (et_and (b := decide (b0 = 0)) (c := decide (p0 < cells.length)) (et_B (ev_eqN (ev_ixVM (i := 2) (evx 0 rfl) ev_c hD rfl) ev_0)) fun _ => et_B (ev_ltN (ev_ixVM (i := 1) (evx 0 rfl) ev_1 hD rfl) (ev_len ((ev_ixVM (i := 0) (evx 0 rfl) ev_0 hD rfl).imp fun v B' s e => by
        cases e
        exact (⟨L, _, rfl, .inl (s _ _ hL), List.length_map ..⟩ : PN cells.length _ _)) fun _ _ h => h))) s0 (fun e B1 H1 g1 => ?_) (fun e B1 H1 g1 => ?_)
      · have hp : p0 < cells.length := by
          rw [Bool.and_eq_true] at e
          exact of_decide_eq_true e.2
        obtain ⟨bD1, hD1⟩ := g1.own bD hD mo_dice
        have gd1 := GD.of g1 bD hD mo_dice
        have hL1 := g1.bb _ _ hL
        have ec : (cells.map vn)[p0]? = some (vn cells[p0]) := by rw [List.getElem?_map, List.getElem?_eq_getElem hp]; rfl
        refine s_asgx (x := vn cells[p0]) (ev_ixVL (vs := cells.map vn) (i := p0) ((ev_ixVM (i := 0) (evx 0 rfl) ev_0 hD1 rfl).imp fun v B' s e => by cases e; exact ⟨L, rfl, s _ _ hL1⟩) (ev_ixVM (i := 1) (evx 0 rfl) ev_1 hD1 rfl) ec) g1.sub fun B2 H2 g2 => ?_
        obtain ⟨bD2, hD2⟩ := g2.own bD1 hD1 mo_dice
        have gd2 := gd1.trans (GD.of g2 bD1 hD1 mo_dice)
        refine s_setD (j := 1) (ev_addN (ev_ixVM (i := 1) (evx 0 rfl) ev_1 hD2 rfl) ev_1) (evx 0 rfl) ev_1 g2.sub hD2 (p' := p0 + 1) (b' := b0) (s' := st0) (c' := c0) fun B3 H3 g3 h3 => ?_
        have bD3 := (g3.own bD2 hD2 mo_dice).1
        have gd3 := (gd2.trans (GD.of g3 bD2 hD2 mo_dice)).putD (o := diceL L (p0 + 1) b0 st0 c0) bD3
        have hD3 : upd H3 D (diceL L (p0 + 1) b0 st0 c0) D = some (diceL L (p0 + 1) b0 st0 c0) := upd_same
        have hL3 := g3.bb _ _ (g2.bb _ _ hL1)
        refine s_if (b := decide (10 ^ 18 ≤ cells[p0])) (et_val (ev_geN (evx 2 rfl) ((ev_I (C := CPow) (i := 10) (j := 18) ev_c ev_c ⟨by decide, by decide, by decide⟩).eq rfl))) gd3.sub (fun e B4 H4 g4 => ?_) (fun e B4 H4 g4 => ?_)
        · obtain ⟨bD4, hD4⟩ := g4.own bD3 hD3 mo_dice
          have gd4 := gd3.trans (GD.of g4 bD3 hD3 mo_dice)
          refine s_setD (j := 2) (evx 2 rfl) (evx 0 rfl) ev_c g4.sub hD4 (p' := p0 + 1) (b' := cells[p0]) (s' := st0) (c' := c0) fun B5 H5 g5 h5 => ?_
          have bD5 := (g5.own bD4 hD4 mo_dice).1
          have gd5 := (gd4.trans (GD.of g5 bD4 hD4 mo_dice)).putD (o := diceL L (p0 + 1) cells[p0] st0 c0) bD5
          exact hJ _ _ ⟨_, B5, _, _, _, _, rfl, gd5, bD5, upd_same, g5.bb _ _ (g4.bb _ _ hL3)⟩
        · obtain ⟨bD4, hD4⟩ := g4.own bD3 hD3 mo_dice
          have gd4 := gd3.trans (GD.of g4 bD3 hD3 mo_dice)
          refine s_setD (j := 3) (ev_modN (n := 2147483647) (ev_intN (ev_addN (ev_addN (ev_mulN (n := 69621) (ev_ixVM (i := 3) (evx 0 rfl) ev_c hD4 rfl) ev_c (cm_r (by decide))) (ev_mulN (n := 40692) (evx 2 rfl) ev_c (cm_r (by decide)))) (ev_ixVM (i := 1) (evx 0 rfl) ev_1 hD4 rfl))) ev_c (by decide)) (evx 0 rfl) ev_c g4.sub hD4 (p' := p0 + 1) (b' := b0) (s' := (st0 * 69621 + cells[p0] * 40692 + (p0 + 1)) % 2147483647) (c' := c0) fun B5 H5 g5 h5 => ?_
          have bD5 := (g5.own bD4 hD4 mo_dice).1
          have gd5 := (gd4.trans (GD.of g5 bD4 hD4 mo_dice)).putD (o := diceL L (p0 + 1) b0 ((st0 * 69621 + cells[p0] * 40692 + (p0 + 1)) % 2147483647) c0) bD5
          exact hJ _ _ ⟨_, B5, _, _, _, _, rfl, gd5, bD5, upd_same, g5.bb _ _ (g4.bb _ _ hL3)⟩
      · obtain ⟨bD1, hD1⟩ := g1.own bD hD mo_dice
        exact hJ _ _ ⟨_, B1, _, _, _, _, rfl, GD.of g1 bD hD mo_dice, bD1, hD1, g1.bb _ _ hL⟩
    · rintro ⟨x2, B1, p, b, st, c, rfl, gd1, bD1, hD1, hL1⟩
      have s1 := gd1.sub
      refine s_if (D := { nx := _, rt := _ }) (b := decide (0 < b)) (et_val (ev_gtN (ev_ixVM (i := 2) (evx 0 rfl) ev_c hD1 rfl) ev_0)) s1 (fun e B2 H2 g2 => ?_) (fun e B2 H2 g2 => ?_)
      · obtain ⟨bD2, hD2⟩ := g2.own bD1 hD1 mo_dice
        have gd2 := gd1.trans (GD.of g2 bD1 hD1 mo_dice)
        refine s_asgx (x := vn (b % k)) (ev_modN (ev_intN (ev_ixVM (i := 2) (evx 0 rfl) ev_c hD2 rfl)) (evx 1 rfl) (by omega)) g2.sub fun B3 H3 g3 => ?_
        obtain ⟨bD3, hD3⟩ := g3.own bD2 hD2 mo_dice
        have gd3 := gd2.trans (GD.of g3 bD2 hD2 mo_dice)
        refine s_setD (j := 2) (ev_divN (ev_intN (ev_ixVM (i := 2) (evx 0 rfl) ev_c hD3 rfl)) (evx 1 rfl) (by omega) (by omega)) (evx 0 rfl) ev_c g3.sub hD3 (p' := p) (b' := b / k) (s' := st) (c' := c) fun B5 H5 g5 h5 => ?_
        have bD5 := (g5.own bD3 hD3 mo_dice).1
        have gd5 := (gd3.trans (GD.of g5 bD3 hD3 mo_dice)).putD (o := diceL L p (b / k) st c) bD5
        exact ⟨vn (b % k), rfl, kk (b % k) B5 _ (Nat.mod_lt _ (by omega)) gd5 ⟨bD5, L, cells, _, _, _, _, upd_same, g5.bb _ _ (g3.bb _ _ (g2.bb _ _ hL1))⟩⟩
      · obtain ⟨bD2, hD2⟩ := g2.own bD1 hD1 mo_dice
        have gd2 := gd1.trans (GD.of g2 bD1 hD1 mo_dice)
        refine s_setD (j := 4) (ev_addN (ev_ixVM (i := 4) (evx 0 rfl) ev_c hD2 rfl) ev_1) (evx 0 rfl) ev_c g2.sub hD2 (p' := p) (b' := b) (s' := st) (c' := c + 1) fun B3 H3 g3 h3 => ?_
        have bD3 := (g3.own bD2 hD2 mo_dice).1
        have gd3 := (gd2.trans (GD.of g3 bD2 hD2 mo_dice)).putD (o := diceL L p b st (c + 1)) bD3
        have hD3 : upd H3 D (diceL L p b st (c + 1)) D = some (diceL L p b st (c + 1)) := upd_same
        refine s_setD (j := 3) (ev_modN (n := 2147483647) (ev_intN (ev_addN (ev_addN (ev_mulN (n := 48271) (ev_ixVM (i := 3) (evx 0 rfl) ev_c hD3 rfl) ev_c (cm_r (by decide))) (ev_mulN (n := 7919) (ev_ixVM (i := 4) (evx 0 rfl) ev_c hD3 rfl) ev_c (cm_r (by decide)))) ev_1)) ev_c (by decide)) (evx 0 rfl) ev_c gd3.sub hD3 (p' := p) (b' := b) (s' := (st * 48271 + (c + 1) * 7919 + 1) % 2147483647) (c' := c + 1) fun B4 H4 g4 h4 => ?_
        have hs : (st * 48271 + (c + 1) * 7919 + 1) % 2147483647 < 2 ^ 64 := Nat.lt_of_lt_of_le (Nat.mod_lt _ (by decide)) (by decide)
        generalize (st * 48271 + (c + 1) * 7919 + 1) % 2147483647 = st2 at hs
        have bD4 := (g4.own bD3 hD3 mo_dice).1
        have gd4 := (gd3.trans (GD.of g4 bD3 hD3 mo_dice)).putD (o := diceL L p b st2 (c + 1)) bD4
        have hD4 : upd H4 D (diceL L p b st2 (c + 1)) D = some (diceL L p b st2 (c + 1)) := upd_same
        have hL4 := g4.bb _ _ (g3.bb _ _ (g2.bb _ _ hL1))
        refine s_asgx (x := vn ((st2 * (st2 / 1009 + 69623)) % 2147483399)) (ev_modN (n := 2147483399) (ev_intN (ev_mulN (ev_ixVM (i := 3) (evx 0 rfl) ev_c hD4 rfl) (ev_addN (n := 69623) (ev_divN (n := 1009) (ev_ixVM (i := 3) (evx 0 rfl) ev_c hD4 rfl) ev_c (by decide) (by decide)) ev_c) (cm_l hs))) ev_c (by decide)) gd4.sub fun B5 H5 g5 => ?_
        have hm : (st2 * (st2 / 1009 + 69623)) % 2147483399 < 2 ^ 64 := Nat.lt_of_lt_of_le (Nat.mod_lt _ (by decide)) (by decide)
        generalize (st2 * (st2 / 1009 + 69623)) % 2147483399 = mx at hm
        obtain ⟨bD5, hD5⟩ := g5.own bD4 hD4 mo_dice
        have gd5 := gd4.trans (GD.of g5 bD4 hD4 mo_dice)
        refine s_asgx (x := vn ((mx * (mx / 2003 + 40693)) % 2147483563)) (ev_modN (n := 2147483563) (ev_intN (ev_mulN (evx 4 rfl) (ev_addN (n := 40693) (ev_divN (n := 2003) (evx 4 rfl) ev_c (by decide) (by decide)) ev_c) (cm_l hm))) ev_c (by decide)) g5.sub fun B6 H6 g6 => ?_
        generalize (mx * (mx / 2003 + 40693)) % 2147483563 = mz
        obtain ⟨bD6, hD6⟩ := g6.own bD5 hD5 mo_dice
        have gd6 := gd5.trans (GD.of g6 bD5 hD5 mo_dice)
        refine s_ret (D := { nx := _, rt := _ }) (ev_modN (m := mz / 16) (n := k) (ev_intN (ev_divN (n := 16) (evx 4 rfl) ev_c (by decide) (by decide))) (evx 1 rfl) (by omega)) g6.sub fun w B7 H7 g7 e7 => ?_
        cases e7
        obtain ⟨bD7, hD7⟩ := g7.own bD6 hD6 mo_dice
        exact kk (mz / 16 % k) B7 H7 (Nat.mod_lt _ (by omega)) (gd6.trans (GD.of g7 bD6 hD6 mo_dice)) ⟨bD7, L, cells, _, _, _, _, hD7, g7.bb _ _ (g6.bb _ _ (g5.bb _ _ hL4))⟩
end
end Lw
/-! Nb: the dice made, pairs of a dict sorted, the web drawn, what touches. -/
namespace Lw
open PySem PySem.Spec PyProof.Rows L2
section
variable {P : Program} {w : World} {K : PySem.W.Frag} {mg : Str → Option Value} {base : Heap}
variable {B H B0 H0 B1 H1 B2 H2 B' H' : Hp} {σ : Slo} {te ta tb tl td tv : TE} {a C CB dx d D : Addr} {b : Bool} {x v : V} {m n i j k : Nat} {fs : List (Str × V)} {f kf : Str} {PV : VP} {ps ts : List (Nat × Nat)} {told : List (List Nat)}
/-! ### pairs of a dict -/
theorem keys_settle : ∀ {ks : List (Nat × Nat)} {bs : List Addr} {B : Hp}, Same B H → Paired (fun p b => H b = some (.tup (p.1.map kV))) (dtp ks) bs → ∃ B', Gr B H B' H ∧ Rs I2 ks (bs.map V.ref) B'
  | [], bs, B, s, h => by
    cases h
    exact ⟨B, Gr.refl s, True.intro⟩
  | k :: ks, bs, B, s, h => by
    have h' : Paired (fun p b => H b = some (.tup (p.1.map kV))) ((kp k, V.bl true) :: dtp ks) bs := h
    cases h' with
    | @cons _ b _ bs h1 t =>
      have h1' : H b = some (.tup [vn k.1, vn k.2]) := h1
      have g1 := Gr.tup s h1'
      obtain ⟨B', g2, r⟩ := keys_settle g1.sub t
      exact ⟨B', g1.trans g2, ⟨b, rfl, g2.bb _ _ upd_same⟩, r⟩
theorem ev_listDT {ks : List (Nat × Nat)} (h : Ev te σ B H (RX (.ref a))) (ha : H a = some (.dT (dtp ks))) : Ev (tCB (fun xs H Q => ∃ d kvs, xs = [V.ref d] ∧ Rd H d (.dT kvs) ∧ ∀ p bs, H p = none → IsKeys H kvs bs → Q (.ref p) (upd H p (.lst (bs.map V.ref)))) (tCons te tNil)) σ B H (LO I2 ks) :=
  ev_cb (ea_x h ea_nil) fun vs B' H' g e Q q => by
    cases e
    refine ⟨a, _, rfl, .inl (g.hh _ _ ha), fun p bs np hk => ?_⟩
    obtain ⟨B2, g2, r⟩ := keys_settle g.sub hk
    have nb := none_of_same g2.sub np
    exact q _ (upd B2 p (.lst (bs.map V.ref))) _ (g2.trans (Gr.new g2.sub np)) ⟨p, _, rfl, upd_same, r.mn (same_new nb)⟩
def pairAt (B : Hp) : V → Int × Int
  | .ref t => match B t with
    | some (.tup [.int i, .int j]) => (i, j)
    | _ => (0, 0)
  | _ => (0, 0)
def natAt (B : Hp) (v : V) : Nat × Nat := ((pairAt B v).1.toNat, (pairAt B v).2.toNat)
theorem pair_of {q : Nat × Nat} {v : V} (h : I2 q v B) : pairAt B v = ((q.1 : Int), (q.2 : Int)) := by
  obtain ⟨t, rfl, h⟩ := h
  show (match B t with
    | some (.tup [.int i, .int j]) => (i, j)
    | _ => (0, 0)) = _
  rw [h]
theorem rs_pairs : ∀ {ks : List (Nat × Nat)} {vs : List V}, Rs I2 ks vs B → ks = vs.map (natAt B) ∧ ∀ v ∈ vs, ∃ q : Nat × Nat, I2 q v B
  | [], [], _ => ⟨rfl, fun v h => absurd h (by simp)⟩
  | k :: ks, v :: vs, ⟨h, t⟩ => by
    obtain ⟨h1, h2⟩ := rs_pairs t
    refine ⟨?_, fun u hu => ?_⟩
    · rw [List.map_cons, ← h1]
      have := pair_of h
      congr 1
      unfold natAt
      rw [this]; rfl
    · rcases List.mem_cons.mp hu with rfl | hu
      · exact ⟨k, h⟩
      · exact h2 u hu
theorem rs_natAt : ∀ {vs : List V}, (∀ v ∈ vs, ∃ q : Nat × Nat, I2 q v B) → Rs I2 (vs.map (natAt B)) vs B
  | [], _ => True.intro
  | v :: vs, h => by
    refine ⟨?_, rs_natAt fun u hu => h u (by simp [hu])⟩
    obtain ⟨q, hq⟩ := h v (by simp)
    have : natAt B v = q := by unfold natAt; rw [pair_of hq]; rfl
    show I2 (natAt B v) v B
    rw [this]; exact hq
/-- sorted(pairs) -/
def SrtV (ks : List (Nat × Nat)) (R : List (Nat × Nat) → VP) : VP := fun v B' => ∃ ks' : List (Nat × Nat), ks'.Perm ks ∧ (ks.Nodup → ks'.Pairwise ltp) ∧ R ks' v B'
instance {ks : List (Nat × Nat)} {R : List (Nat × Nat) → VP} [∀ x, Mn (R x)] : Mn (SrtV ks R) := ⟨fun s ⟨ks', h1, h2, h3⟩ => ⟨ks', h1, h2, Mn.mn s h3⟩⟩
theorem ev_sortP {ks : List (Nat × Nat)} (h : Ev te σ B H (LO I2 ks)) : Ev (tCB (rSortedPO K) (tCons te tNil)) σ B H (SrtV ks fun ks' => LO I2 ks') :=
  ev_cb (ea_c h ea_nil) fun vs B' H' g ⟨v, ws, e, ⟨p, us, e1, hp, r⟩, e2⟩ Q q => by
    cases e2; subst e e1
    obtain ⟨h1, h2⟩ := rs_pairs r
    refine ⟨p, us, pairAt B', rfl, SqL.of (g.sub _ _ hp), fun x hx => ?_, fun ys a hs hb na => ?_⟩
    · obtain ⟨q', hq⟩ := h2 x hx
      have hpq := pair_of hq
      obtain ⟨t, rfl, ht⟩ := hq
      exact ⟨t, rfl, by rw [hpq]; exact g.sub _ _ ht⟩
    · have nb := none_of_same g.sub na
      have hy : ∀ y ∈ ys, ∃ q : Nat × Nat, I2 q y B' := fun y hy => h2 y (hb.perm.mem_iff.mp hy)
      refine q _ (upd B' a (.lst ys)) _ (Gr.new g.sub na) ⟨ys.map (natAt B'), by rw [h1]; exact hb.perm.map _, fun nd => ?_, a, ys, rfl, upd_same, (rs_natAt hy).mn (same_new nb)⟩
      have nd' : (ys.map (natAt B')).Nodup := by
        rw [h1] at nd
        exact (hb.perm.map _).nodup_iff.mpr nd
      rw [List.pairwise_map]
      refine List.Pairwise.imp_of_mem (fun {x y} hx hyy ⟨hl, hn⟩ => ?_) (hs.and (List.pairwise_map.mp nd'))
      obtain ⟨qx, hqx⟩ := hy x hx
      obtain ⟨qy, hqy⟩ := hy y hyy
      have ex := pair_of hqx
      have ey := pair_of hqy
      have h3 := SrtO.lexB_no.mp hl
      rw [ex, ey] at h3
      unfold natAt at hn ⊢
      rw [ex, ey] at hn ⊢
      simp only at h3
      have hn' : ¬ (qx.1 = qy.1 ∧ qx.2 = qy.2) := fun z => hn (Prod.ext (by show ((qx.1 : Int)).toNat = _; rw [z.1]) (by show ((qx.2 : Int)).toNat = _; rw [z.2]))
      show ((qx.1 : Int)).toNat < ((qy.1 : Int)).toNat ∨ (((qx.1 : Int)).toNat = ((qy.1 : Int)).toNat ∧ ((qx.2 : Int)).toNat < ((qy.2 : Int)).toNat)
      simp only [Int.toNat_natCast]
      omega
/-! ### _law_dice -/
theorem em_lstA {tr : TA} {PL : List V → Hp → Prop} (h : EvA tr σ B H PL) (hl : ∀ vs B', PL vs B' → vs.length ≤ 1000000) : EvM (tLst tr) σ B H PL := fun B1 H1 g1 Q k =>
  h B1 H1 g1 _ fun vs B2 H2 g p => ⟨Nat.le_trans (hl _ _ p) (by decide), fun a n => k a vs B2 _ (g.trans (Gr.newM g.sub n)) (g.hh.free n) (none_of_same g.sub n) upd_same p⟩
abbrev spDice : Sp := fun vs H Q _ => ∃ (B : Hp) (a : Addr) (ns : List Int), vs = [.ref a] ∧ SqL K H a (ns.map V.int) ∧ ns.length ≤ 63 ∧ Same B H ∧ ∀ D B' H', Gr B H B' H' → Dice D B' H' → H D = none → Q (.ref D) H'
theorem ev_absN {z : Int} (h : Ev te σ B H (RX (.int z))) : Ev (tCB (fun xs H Q => ∃ i, xs = [.int i] ∧ Q (.int (if i < 0 then -i else i)) H) (tCons te tNil)) σ B H (RX (vn z.natAbs)) :=
  ev_cbx (ea_x h ea_nil) fun vs B' H' g e Q q => ⟨z, e, by
    have : (if z < 0 then -z else z) = ((z.natAbs : Nat) : Int) := by
      by_cases hz : z < 0
      · rw [if_pos hz]; omega
      · rw [if_neg hz]; omega
    rw [this]; exact q⟩
theorem ev_intI {z : Int} (h : Ev te σ B H (RX (.int z))) : Ev (tCB (fun xs H Q => (∃ i, xs = [.int i] ∧ Q (.int i) H) ∨ ∃ k, xs = [.bl k] ∧ Q (.int (if k then 1 else 0)) H) (tCons te tNil)) σ B H (RX (.int z)) :=
  ev_cbx (ea_x h ea_nil) fun vs B' H' g e Q q => .inl ⟨_, e, q⟩
theorem sc__law_dice : FnScope ["_law_script", "_law_cell"] ["_law_script"] (defScope (tp 47)) := ⟨rfl, rfl, rfl, by decide +kernel, rfl, by decide +kernel, by decide +kernel⟩
theorem ok_law_dice (Dd : Dn K mg "_law_dice" "_law_dice" (tp 47)) (T : Tx mg) : Cal P w K mg base 1 "_law_dice" (spDice (K := K)) := by
  refine cal_of Dd sc__law_dice (fun _ _ _ _ _ _ us hl => match us, hl with | [_], _ => rfl) (fun vs H Q E h => ?_) (fun cdv A outer s f H vs Q E hr h => ?_)
  · obtain ⟨B, a, ns, rfl, _⟩ := h
    rfl
  · obtain ⟨B0, a, ns, rfl, ha, hl, s0, kk⟩ := h
    refine ⟨_, (pss_one (ps_ret (pe_lst (pa_cons (pe_lc (own := [("_law_cell", 1)]) rfl sc__law_dice.nd (piL K (pe_slice (slL K) (pv 0) po_none (po_some pe_int))) (blkOk_by (by kernel_rfl)) (fun _ _ _ _ _ => (pg_name (i := 1) sc__law_dice.nd rfl (.inl rfl))) (fun _ _ _ _ _ => pts_nil) (fun _ _ _ _ _ => (pe_callB call_abs (by rfl) T.abs (by decide +kernel) (pa_cons (pe_callTy call_int1 (by rfl) T.int (by decide +kernel) (pa_cons (pv 1) pa_nil)) pa_nil)))) (pa_cons pe_int (pa_cons pe_int (pa_cons pe_int (pa_cons pe_int pa_nil)))))))), ?_⟩
    have hcut : ∃ ms : List Int, cutV (ns.map V.int) none (some 63) = ms.map V.int ∧ ms.length ≤ 63 := by
      refine ⟨(ns.drop (HT.sIx (ns.map V.int).length 0 none)).take (HT.sIx (ns.map V.int).length (ns.map V.int).length (some 63) - HT.sIx (ns.map V.int).length 0 none), ?_, ?_⟩
      · unfold cutV
        rw [List.map_take, List.map_drop]
      · rw [List.length_take, List.length_drop]; omega
    obtain ⟨ms, hms, hml⟩ := hcut
    have hsl : Ev (tSl (rSlL K) (tVar 0) tNoPart (tPart (tC (.int 63)))) (L2.start ["_law_script", "_law_cell"] [.ref a]) B0 H (LO (fun z : Int => RX (.int z)) ms) := fun B1 H1 g1 Q q => by
      refine ⟨.ref a, rfl, 63, rfl, a, _, rfl, ha.elim (fun h => .inl (h.elim (fun h => .inl (g1.hh _ _ h)) fun ⟨o, h⟩ => .inr ⟨o, g1.hh _ _ h⟩)) .inr, fun p np => ?_⟩
      rw [hms]
      exact q _ (upd B1 p (.lst (ms.map V.int))) _ (Gr.new g1.sub np) ⟨p, _, rfl, upd_same, Rs.ofv V.int ms⟩
    refine (em_lstA (PL := AC (LO (fun z : Int => RX (vn z.natAbs)) ms) (AX [vn 0, vn 0, vn 1, vn 0])) (ea_c ((em_lcM (R := fun z : Int => RX (.int z)) (R' := fun z : Int => RX (vn z.natAbs)) (ei_list hsl) id (by omega) (fun _ => rfl) fun z zv B' H' hm g hz => ?_).lo.imp (fun v B' _ h => id_lo h)) (ea_x ev_c (ea_x ev_c (ea_x ev_c (ea_x ev_c ea_nil))))) (fun vs B' h => ?_)).go s0 fun D vs B' H' g nD bD hD h => ?_
    · cases hz
      exact ev_absN (ev_intI (evx 1 rfl))
    · obtain ⟨v, us, rfl, _, rfl⟩ := h
      show (5 : Nat) ≤ _
      decide
    · obtain ⟨v, us, rfl, ⟨L, cs, rfl, hL, r⟩, rfl⟩ := h
      refine kk D B' H' g ⟨bD, L, ms.map Int.natAbs, 0, 0, 1, 0, hD, ?_⟩ nD
      have := Rs.vals (f := fun z : Int => vn z.natAbs) r
      rw [hL, this, List.map_map]; rfl
end
end Lw
/-! Nc: _law_drawn_web, _law_touching. -/
namespace Lw
open PySem PySem.Spec PyProof.Rows L2
section
variable {P : Program} {w : World} {K : PySem.W.Frag} {mg : Str → Option Value} {base : Heap}
variable {B H B0 H0 B1 H1 B2 H2 B' H' : Hp} {σ : Slo} {te ta tb tl td tv tk : TE} {a C CB dx d D : Addr} {b : Bool} {x v : V} {m n i j k : Nat} {fs : List (Str × V)} {f kf : Str} {PV : VP} {ps ts : List (Nat × Nat)} {told : List (List Nat)}
/-! ### draws at their places -/
theorem go_draw {E : XK} {Q : VK} (dc : Dice D B H) (s : Same B H) (hd : Ev td σ B H (RX (.ref D))) (hk : Ev tk σ B H (RX (vn k))) (h1 : 1 ≤ k) (h2 : k ≤ 1000)
    (kk : ∀ r B' H', r < k → GD D B H B' H' → Dice D B' H' → Q (vn r) H') : tCall spDraw [] E (tCons td (tCons tk tNil)) σ H Q :=
  go_call (ea_x hd (ea_x hk ea_nil)) s fun vs B1 H1 g e => by
    cases e
    exact ⟨B1, D, k, rfl, dc.grow g, g.sub, h1, h2, fun r B' H' hr gd dc' => kk r B' H' hr ((dc.gd g).trans gd) dc'⟩
theorem s_draw {E : XK} {Z : Ends} (dc : Dice D B H) (s : Same B H) (hd : Ev td σ B H (RX (.ref D))) (hk : Ev tk σ B H (RX (vn k))) (h1 : 1 ≤ k) (h2 : k ≤ 1000)
    (kk : ∀ r B' H', r < k → GD D B H B' H' → Dice D B' H' → Z.nx (σ.set i (some (vn r))) H') : tAsg (tCall spDraw [] E (tCons td (tCons tk tNil))) (gName i) Z σ H :=
  go_draw (Q := fun v H' => Z.nx (σ.set i (some v)) H') dc s hd hk h1 h2 kk
theorem d_for {g : TG} {tz : TS} {Z : Ends} (h : te σ H fun r H1 => tFor (iRng1 (tCons (tC r) tNil)) g tz Z σ H1) : tFor (iRng1 (tCons te tNil)) g tz Z σ H := h
theorem ev_min2 (ha : Ev ta σ B H (RX (vn m))) (hb : Ev tb σ B H (RX (vn n))) : Ev (tCB (fun xs H Q => ∃ i j, xs = [.int i, .int j] ∧ Q (.int (if j < i then j else i)) H) (tCons ta (tCons tb tNil))) σ B H (RX (vn (min m n))) :=
  ev_cbx (ea_x ha (ea_x hb ea_nil)) fun vs B' H' g e Q q => ⟨_, _, e, by
    have : (if (n : Int) < (m : Int) then (n : Int) else (m : Int)) = ((min m n : Nat) : Int) := by split <;> omega
    rw [this]; exact q⟩
theorem ev_max2 (ha : Ev ta σ B H (RX (vn m))) (hb : Ev tb σ B H (RX (vn n))) : Ev (tCB (fun xs H Q => ∃ i j, xs = [.int i, .int j] ∧ Q (.int (if i < j then j else i)) H) (tCons ta (tCons tb tNil))) σ B H (RX (vn (max m n))) :=
  ev_cbx (ea_x ha (ea_x hb ea_nil)) fun vs B' H' g e Q q => ⟨_, _, e, by
    have : (if (m : Int) < (n : Int) then (n : Int) else (m : Int)) = ((max m n : Nat) : Int) := by split <;> omega
    rw [this]; exact q⟩
theorem ev_tupSrt {ks : List (Nat × Nat)} (h : Ev te σ B H (SrtV ks fun ks' => LO I2 ks')) : Ev (tCB (fun xs H Q => ∃ p ys, xs = [.ref p] ∧ ((SqL K H p ys ∧ ∀ l, H l = none → Q (.ref l) (upd H l (.tup ys))) ∨ (SqT K H p ys ∧ Q (.ref p) H))) (tCons te tNil)) σ B H (SrtV ks fun ks' => TO I2 ks') :=
  ev_cb (ea_c h ea_nil) fun vs B' H' g ⟨v, ws, e, ⟨ks', h1, h2, p, zs, e1, hp, r⟩, e2⟩ Q q => by
    cases e2; subst e e1
    exact ⟨p, zs, rfl, .inl ⟨SqL.of (g.sub _ _ hp), fun l nl => q _ (upd B' l (.tup zs)) _ (Gr.new g.sub nl) ⟨ks', h1, h2, l, zs, rfl, upd_same, r.mn (same_new (none_of_same g.sub nl))⟩⟩⟩
/-- d[draw, x] = True -/
theorem s_dputD {E : XK} {Z : Ends} {ks : List (Nat × Nat)} {st : Nat} (dc : Dice D B H) (s : Same B H) (hσ : σ[i]? = some (some (.ref a))) (hq : σ[j]? = some (some (vn st))) (hd : Ev td σ B H (RX (.ref D))) (hk : Ev tk σ B H (RX (vn k))) (h1 : 1 ≤ k) (h2 : k ≤ 1000)
    (ha : H a = some (.dT (dtp ks))) (ba : B a = none) (ne : a ≠ D) (hl : ks.length < 1000000)
    (kk : ∀ r B' H', r < k → GD D B H B' H' → Dice D B' H' → B' a = none → Z.nx σ (upd H' a (.dT (dtp (insP ks (r, st)))))) :
    sDPut (tVar i) (tTup (tCons (tCall spDraw [] E (tCons td (tCons tk tNil))) (tCons (tVar j) tNil))) (tC (.bl true)) Z σ H := by
  refine ⟨.ref a, hσ, go_draw dc s hd hk h1 h2 fun r B' H' hr gd dc' => ?_⟩
  obtain ⟨ba', ha'⟩ := gd.own ne ba ha mo_dT
  have key : sDPut (tVar i) (tTup (tCons (tC (vn r)) (tCons (tVar j) tNil))) (tC (.bl true)) Z σ H' :=
    s_dputP (p := (r, st)) ev_c (evx i hσ) (ev_tupx (ea_x ev_c (ea_x (evx j hq) ea_nil))) gd.sub ha' hl fun B2 H2 g2 h2 => kk r B2 H2 hr (gd.trans (dc'.gd g2)) (dc'.grow g2) (g2.own ba' ha' mo_dT).1
  obtain ⟨v', e, rest⟩ := key
  rw [hσ] at e
  cases e
  exact rest
/-- each standing but the first is pushed by an earlier one -/
def Tree (n : Nat) (ps : List (Nat × Nat)) : Prop := ∀ s, 1 ≤ s → s < n → ∃ a, a < s ∧ (a, s) ∈ ps
abbrev spDWeb : Sp := fun vs H Q _ => ∃ B D n, vs = [.ref D, vn n] ∧ Dice D B H ∧ Same B H ∧ 1 ≤ n ∧ n ≤ 30 ∧ ∀ u B' H' ps, GD D B H B' H' → Dice D B' H' → PsOk n ps → Tree n ps → TO I2 ps u B' → Q u H'
theorem sc__law_drawn_web : FnScope ["_law_dice_here", "_law_size", "_law_found", "_law_standing", "_law_turn", "_law_one", "_law_two"] ["_law_dice_here", "_law_size"] (defScope (tp 53)) := ⟨rfl, rfl, rfl, by decide +kernel, rfl, by decide +kernel, by decide +kernel⟩
set_option maxHeartbeats 1000000 in
theorem ok_law_drawn_web (Dd : Dn K mg "_law_drawn_web" "_law_drawn_web" (tp 53)) (T : Tx mg) (c__law_draw : Cal P w K mg base 1 "_law_draw" spDraw) : Cal P w K mg base 2 "_law_drawn_web" spDWeb := by
  refine cal_of Dd sc__law_drawn_web (fun _ _ _ _ _ _ us hl => match us, hl with | [_, _], _ => rfl) (fun vs H Q E h => ?_) (fun cdv A outer s f H vs Q E hr h => ?_)
  · obtain ⟨B, D, n, rfl, _⟩ := h
    rfl
  · obtain ⟨B0, D, n, rfl, dc, s0, hn1, hn, kk⟩ := h
    refine ⟨_, (pss_cons (ps_set (i := 2) sc__law_drawn_web.nd rfl (.inl rfl) pe_dnewT)
      (pss_cons (ps_for PassesOwn.never rfl (pi_range2 rfl T.range (pa_cons pe_int (pa_cons (pv 1) pa_nil))) (pg_name (i := 3) sc__law_drawn_web.nd rfl (.inl rfl))
        (pss_one (ps_dput (hu_of hr) (pv 2) (pe_tup (pa_cons (pe_k c__law_draw hr (by decide) rfl (pa_cons (pv 0) (pa_cons (pv 3) pa_nil))) (pa_cons (pv 3) pa_nil))) pe_bl rfl)))
      (pss_cons (ps_for PassesOwn.never rfl (pi_range1 rfl T.range (pa_cons (pe_k c__law_draw hr (by decide) rfl (pa_cons (pv 0) (pa_cons (pe_op op_add (pv 1) pe_int) pa_nil))) pa_nil)) (pg_name (i := 4) sc__law_drawn_web.nd rfl (.inl rfl))
        (pss_cons (ps_set (i := 5) sc__law_drawn_web.nd rfl (.inl rfl) (pe_k c__law_draw hr (by decide) rfl (pa_cons (pv 0) (pa_cons (pv 1) pa_nil))))
        (pss_cons (ps_set (i := 6) sc__law_drawn_web.nd rfl (.inl rfl) (pe_k c__law_draw hr (by decide) rfl (pa_cons (pv 0) (pa_cons (pv 1) pa_nil))))
        (pss_one (ps_if (pt_cmpR op_ne (pv 5) (pv 6) (nomark _)) (pss_one (ps_dput (hu_of hr) (pv 2) (pe_tup (pa_cons (pe_callB (call_min2 rfl) (by rfl) T.min (by decide +kernel) (pa_cons (pv 5) (pa_cons (pv 6) pa_nil))) (pa_cons (pe_callB (call_max2 rfl) (by rfl) T.max (by decide +kernel) (pa_cons (pv 5) (pa_cons (pv 6) pa_nil))) pa_nil))) pe_bl rfl)) pss_nil)))))
      (pss_one (ps_ret (pe_callTy (tupOf K) (by rfl) T.tuple (by decide +kernel) (pa_cons (pe_callB (srtP K) (by rfl) T.sorted (by decide +kernel) (pa_cons (pe_callTy (call_list_dT rfl) (by rfl) T.list (by decide +kernel) (pa_cons (pv 2) pa_nil)) pa_nil)) pa_nil))))))), ?_⟩
    refine fun F hF => ?_
    have neF : F ≠ D := dc.ne hF
    have bF0 := none_of_same s0 hF
    have sF : Same B0 (upd H F (.dT [])) := same_off s0 bF0
    have dc1 : Dice D B0 (upd H F (.dT [])) := dc.put neF
    have gd1 : GD D B0 H B0 (upd H F (.dT [])) := dc.gd (Gr.newM s0 hF)
    have hF1 : upd H F (.dT []) F = some (HO.dT (dtp [])) := upd_same
    refine s_for (D := { nx := _, rt := _ }) (ei_rng2 (B := B0) (lo := 1) (hi := n) (ea_x ev_1 (ea_x (evx 1 rfl) ea_nil)) (by decide) (by omega)) sF (fun i σ B' H' => ∃ x3 ks, σ = [some (.ref D), some (vn n), some (.ref F), x3, none, none, none] ∧ GD D B0 H B' H' ∧ Dice D B' H' ∧ B' F = none ∧ H' F = some (.dT (dtp ks)) ∧ ks.length ≤ i ∧ ks.Nodup ∧ (∀ p ∈ ks, p.1 < p.2 ∧ p.2 < n) ∧ ∀ s, 1 ≤ s → s < 1 + i → ∃ a, a < s ∧ (a, s) ∈ ks)
      (fun B' H' g => ?_) (fun i st stv σ B1 H1 hi s1 => ?_) (fun σ B1 H1 s1 => ?_)
    · exact ⟨_, [], rfl, gd1.trans (dc1.gd g), dc1.grow g, (g.own bF0 hF1 mo_dT).1, g.hh _ _ hF1, Nat.le_refl _, List.nodup_nil, fun p h => absurd h (by simp), fun s h1 h2 => by omega⟩
    · rintro ⟨x3, ks, rfl, gd, dc, bF, hF, hl, nd, hks, ht⟩ e
      cases e
      have hst : st = 1 + i ∧ st < n := by
        obtain ⟨h1, h2⟩ := List.getElem?_eq_some_iff.mp hi
        rw [List.getElem_range'] at h2
        rw [List.length_range'] at h1
        omega
      obtain ⟨rfl, hstn⟩ := hst
      refine s_dputD (i := 2) (j := 3) (k := 1 + i) dc s1 rfl rfl (evx 0 rfl) (evx 3 rfl) (by omega) (by omega) hF bF neF (by omega) fun r B2 H2 hr g2 dc2 bF2 => ?_
      have gp := (gd.trans g2).put (o := .dT (dtp (insP ks (r, 1 + i)))) neF (by assumption) bF2
      refine ⟨B2, g2.bb, gp.sub, _, insP ks (r, 1 + i), rfl, gp, dc2.put neF, bF2, upd_same, by have := insP_len ks (r, 1 + i); omega, insP_nodup nd, fun p hp => ?_, fun s h1 h2 => ?_⟩
      · rcases mem_insP.mp hp with hp | rfl
        · exact hks p hp
        · exact ⟨hr, hstn⟩
      · by_cases hs : s < 1 + i
        · obtain ⟨a, h3, h4⟩ := ht s h1 hs
          exact ⟨a, h3, mem_insP.mpr (.inl h4)⟩
        · have : s = 1 + i := by omega
          subst this
          exact ⟨r, hr, mem_insP.mpr (.inr rfl)⟩
    · rintro ⟨x3, ks, rfl, gd, dc, bF, hFk, hl, nd, hks, ht⟩
      rw [List.length_range'] at hl ht
      refine d_for (go_draw dc s1 (evx 0 rfl) (ev_addN (evx 1 rfl) ev_1) (by omega) (by omega) fun r B2 H2 hr g2 dc2 => ?_)
      obtain ⟨bF2, hF2⟩ := g2.own neF bF hFk mo_dT
      refine s_for (D := { nx := _, rt := _ }) (ei_rng1 (n := r) (ea_x ev_c ea_nil) (by omega)) g2.sub (fun i σ B' H' => ∃ x4 x5 x6 ks, σ = [some (.ref D), some (vn n), some (.ref F), x3, x4, x5, x6] ∧ GD D B0 H B' H' ∧ Dice D B' H' ∧ B' F = none ∧ H' F = some (.dT (dtp ks)) ∧ ks.length ≤ n + i ∧ ks.Nodup ∧ (∀ p ∈ ks, p.1 < p.2 ∧ p.2 < n) ∧ Tree n ks)
        (fun B' H' g => ?_) (fun i t tv σ B3 H3 hi s3 => ?_) (fun σ B3 H3 s3 => ?_)
      · exact ⟨_, _, _, ks, rfl, (gd.trans g2).trans (dc2.gd g), dc2.grow g, (g.own bF2 hF2 mo_dT).1, g.hh _ _ hF2, by omega, nd, hks, fun s h1 h2 => ht s h1 (by omega)⟩
      · rintro ⟨x4, x5, x6, ks, rfl, gd, dc, bF, hF', hl, nd, hks, ht⟩ e
        cases e
        have hir : i < r := by
          have := (List.getElem?_eq_some_iff.mp hi).1
          rw [List.length_range] at this; exact this
        refine s_draw dc s3 (evx 0 rfl) (evx 1 rfl) hn1 (by omega) fun q1 B4 H4 hq1 g4 dc4 => ?_
        refine s_draw dc4 g4.sub (evx 0 rfl) (evx 1 rfl) hn1 (by omega) fun q2 B5 H5 hq2 g5 dc5 => ?_
        have g35 := g4.trans g5
        obtain ⟨bF5, hF5⟩ := g35.own neF bF hF' mo_dT
        refine s_if (b := !decide (q1 = q2)) (et_val (ev_neN (evx 5 rfl) (evx 6 rfl))) g5.sub (fun e B6 H6 g6 => ?_) (fun e B6 H6 g6 => ?_)
        · have ne : q1 ≠ q2 := fun z => by subst z; simp at e
          refine s_dputP (p := (min q1 q2, max q1 q2)) ev_c (evx 2 rfl) (ev_tupx (ea_x (ev_min2 (evx 5 rfl) (evx 6 rfl)) (ea_x (ev_max2 (evx 5 rfl) (evx 6 rfl)) ea_nil))) g6.sub (g6.hh _ _ hF5) (by omega) fun B7 H7 g7 h7 => ?_
          have bF7 := (g7.own (g6.own bF5 hF5 mo_dT).1 (g6.hh _ _ hF5) mo_dT).1
          have g57 := g6.trans g7
          have gp := ((gd.trans g35).trans (dc5.gd g57)).put (o := .dT (dtp (insP ks (min q1 q2, max q1 q2)))) neF (by assumption) bF7
          refine ⟨B7, g35.bb.trans g57.bb, gp.sub, _, _, _, insP ks (min q1 q2, max q1 q2), rfl, gp, (dc5.grow g57).put neF, bF7, upd_same, by have := insP_len ks (min q1 q2, max q1 q2); omega, insP_nodup nd, fun p hp => ?_, fun s h1 h2 => ?_⟩
          · rcases mem_insP.mp hp with hp | rfl
            · exact hks p hp
            · show min q1 q2 < max q1 q2 ∧ max q1 q2 < n
              omega
          · obtain ⟨a, h3, h4⟩ := ht s h1 h2
            exact ⟨a, h3, mem_insP.mpr (.inl h4)⟩
        · exact ⟨B6, g35.bb.trans g6.bb, g6.sub, _, _, _, ks, rfl, (gd.trans g35).trans (dc5.gd g6), dc5.grow g6, (g6.own bF5 hF5 mo_dT).1, g6.hh _ _ hF5, by omega, nd, hks, ht⟩
      · rintro ⟨x4, x5, x6, ks, rfl, gd, dc, bF, hF', hl, nd, hks, ht⟩
        refine s_ret (D := { nx := _, rt := _ }) (ev_tupSrt (ev_sortP (ev_listDT (evx 2 rfl) hF'))) s3 fun u B4 H4 g4 ⟨ks', pm, asc, hu⟩ => ?_
        refine kk u B4 H4 ks' (gd.trans (dc.gd g4)) (dc.grow g4) ⟨asc nd, fun p hp => hks p (pm.mem_iff.mp hp)⟩ (fun s h1 h2 => ?_) hu
        obtain ⟨a, h3, h4⟩ := ht s h1 h2
        exact ⟨a, h3, pm.mem_iff.mpr h4⟩
end
end Lw
/-! Nd: _law_touching; owners, plain. -/
namespace Lw
open PySem PySem.Spec PyProof.Rows L2
section
variable {P : Program} {w : World} {K : PySem.W.Frag} {mg : Str → Option Value} {base : Heap}
variable {B H B0 H0 B1 H1 B2 H2 B' H' : Hp} {σ : Slo} {te ta tb tl td tv tk : TE} {a C CB dx d D : Addr} {b : Bool} {x v : V} {m n i j k : Nat} {fs : List (Str × V)} {f kf : Str} {PV : VP} {ps ts : List (Nat × Nat)} {told : List (List Nat)}
abbrev spLTouching : Sp := Pr fun vs B P => ∃ u t n ps os, vs = [u, t] ∧ OL os u B ∧ TO I2 ps t B ∧ PsOk n ps ∧ os.length = n ∧ ps.length ≤ 1000 ∧ n ≤ 1000 ∧ P = SrtV (insPs (tchs os ps)) fun ks' => LO I2 ks'
theorem sc__law_touching : FnScope ["_law_owners_here", "_law_pushes", "_law_found", "_law_one", "_law_two", "_law_pair"] ["_law_owners_here", "_law_pushes"] (defScope (tp 54)) := ⟨rfl, rfl, rfl, by decide +kernel, rfl, by decide +kernel, by decide +kernel⟩
theorem ok_law_touching (Dd : Dn K mg "_law_touching" "_law_touching" (tp 54)) (T : Tx mg) : Cal P w K mg base 1 "_law_touching" spLTouching := by
  refine cal_of Dd sc__law_touching (fun _ _ _ _ _ _ us hl => match us, hl with | [_, _], _ => rfl) (fun vs H Q E h => ?_) (fun cdv A outer s f H vs Q E hr h => ?_)
  · obtain ⟨B, P, s, ⟨u, t, n, ps, os, rfl, _⟩, _⟩ := h
    rfl
  · obtain ⟨B0, P', s0, ⟨u, t, n, ps, os, rfl, hu, ht, hps, hos, hle, hn, rfl⟩, k⟩ := h
    refine ⟨_, (pss_cons (ps_set (i := 2) sc__law_touching.nd rfl (.inl rfl) pe_dnewT)
      (pss_cons (ps_for PassesOwn.never rfl (piT K (pv 1)) (pgT K rfl (pgs_cons (pg_name (i := 3) sc__law_touching.nd rfl (.inl rfl)) (pgs_cons (pg_name (i := 4) sc__law_touching.nd rfl (.inl rfl)) pgs_nil)) (n := 2))
        (pss_cons (ps_set (i := 5) sc__law_touching.nd rfl (.inl rfl) (pe_lst (pa_cons (pe_ix (ixL K) (pv 0) (pv 3) (fun _ _ => rfl)) (pa_cons (pe_ix (ixL K) (pv 0) (pv 4) (fun _ _ => rfl)) pa_nil))))
        (pss_one (ps_if (PW.pt (pw_and (pt_cmpR (notInS K) pe_non (pv 5) rfl) (pw_and1 (pt_cmpR op_ne (pe_ix (ixL K) (pv 5) pe_int (fun _ _ => rfl)) (pe_ix (ixL K) (pv 5) pe_int (fun _ _ => rfl)) (nomark _))))) (pss_one (ps_dput (hu_of hr) (pv 2) (pe_tup (pa_cons (pe_callB (cr_minP K rfl hr.units) (by rfl) T.min (by decide +kernel) (pa_cons (pv 5) pa_nil)) (pa_cons (pe_callB (cr_maxP K rfl hr.units) (by rfl) T.max (by decide +kernel) (pa_cons (pv 5) pa_nil)) pa_nil))) pe_bl rfl)) pss_nil))))
      (pss_one (ps_ret (pe_callB (srtP K) (by rfl) T.sorted (by decide +kernel) (pa_cons (pe_callTy (call_list_dT rfl) (by rfl) T.list (by decide +kernel) (pa_cons (pv 2) pa_nil)) pa_nil)))))), ?_⟩
    refine fun D hD => ?_
    have b0 := none_of_same s0 hD
    refine s_for (D := { nx := _, rt := _ }) (ei_tup (B := B0) (ev_var 1 rfl ht)) (same_off s0 b0) (fun i σ B' H' => ∃ x3 x4 x5, σ = [some u, some t, some (.ref D), x3, x4, x5] ∧ Gr B0 H B' H' ∧ B' D = none ∧ H' D = some (.dT (dtp (insPs (tchs os (ps.take i))))))
      (fun B' H' g => ?_) (fun i q qv σ B1 H1 hi s1 => ?_) (fun σ B1 H1 s1 => ?_)
    · exact ⟨_, _, _, rfl, (Gr.newM s0 hD).trans g, (g.own b0 upd_same mo_dT).1, by rw [List.take_zero]; exact g.hh _ _ upd_same⟩
    · rintro ⟨x3, x4, x5, rfl, g0, bD, h⟩ ⟨c, rfl, hc⟩
      have hq := hps.lt q (List.mem_of_getElem? hi)
      refine ⟨c, _, rfl, SqT.of (s1 _ _ hc), rfl, _, _, rfl, _, _, rfl, rfl, ?_⟩
      have hu1 : OL os u B1 := Mn.mn g0.bb hu
      have e1 := os_at (os := os) (i := q.1) (by omega)
      have e2 := os_at (os := os) (i := q.2) (by omega)
      refine s_asg (P := VL [vo (os.getD q.1 none), vo (os.getD q.2 none)]) (em_lst (xs := [vo (os.getD q.1 none), vo (os.getD q.2 none)]) (ea_x (ev_ixVL (ev_var 0 rfl hu1) (evx 3 rfl) e1) (ea_x (ev_ixVL (ev_var 0 rfl hu1) (evx 4 rfl) e2) ea_nil))).vl s1 fun pv B2 H2 g2 hp => ?_
      have g02 := g0.trans g2
      have b2 := (g2.own bD h mo_dT).1
      have h2 := g2.hh _ _ h
      have hsn := tchs_snoc os (ps.take i) q
      have htk : ps.take (i + 1) = ps.take i ++ [q] := by rw [List.take_add_one, hi]; rfl
      refine s_if (et_and (b := !((os.getD q.1 none).isNone || (os.getD q.2 none).isNone)) (c := !decide (os.getD q.1 none = os.getD q.2 none)) (et_B ((ev_inL (neg := true) ev_c (ev_var 5 rfl hp) rfl (by cases os.getD q.1 none <;> cases os.getD q.2 none <;> rfl)).eq (by rw [inV_vo]; rfl))) fun _ =>
        et_B ((ev_ne (ev_ixVL (i := 0) (ev_var 5 rfl hp) ev_0 rfl) (ev_ixVL (i := 1) (ev_var 5 rfl hp) ev_1 rfl) (scal_vo _ _)).eq (by rw [dec_vo]))) g2.sub (fun e B3 H3 g3 => ?_) (fun e B3 H3 g3 => ?_)
      · cases ex : os.getD q.1 none with
        | none => rw [ex] at e; simp at e
        | some xa =>
          cases ey : os.getD q.2 none with
          | none => rw [ex, ey] at e; simp at e
          | some xb =>
            rw [ex, ey] at e hp hsn
            have ne : xa ≠ xb := fun z => by subst z; simp at e
            have hp3 : VL [vn xa, vn xb] pv B3 := Mn.mn g3.bb hp
            have et : tch (some xa) (some xb) = some (min xa xb, max xa xb) := if_neg ne
            rw [et] at hsn
            refine s_dputP (p := (min xa xb, max xa xb)) ev_c (evx 2 rfl) (ev_tupx (ea_x (ev_mmL (ev_var 5 rfl hp3)) (ea_x (ev_mmL (ev_var 5 rfl hp3)) ea_nil))) g3.sub (g3.hh _ _ h2) ?_ fun B4 H4 g4 h4 => ?_
            · have h1 := insPs_len (tchs os (ps.take i))
              have h2 := tchs_len os (ps.take i)
              have h3 : (ps.take i).length ≤ ps.length := by rw [List.length_take]; omega
              omega
            · have b4 := (g4.own (g3.own b2 h2 mo_dT).1 (g3.hh _ _ h2) mo_dT).1
              have gg := ((g02.trans g3).trans g4).put (o := .dT (dtp (insP (insPs (tchs os (ps.take i))) (min xa xb, max xa xb)))) hD b4
              exact ⟨B4, (g2.bb.trans g3.bb).trans g4.bb, gg.sub, _, _, _, rfl, gg, b4, by rw [upd_same, htk, hsn]⟩
      · have hn : tch (os.getD q.1 none) (os.getD q.2 none) = none := by
          cases ex : os.getD q.1 none with
          | none => rfl
          | some xa =>
            cases ey : os.getD q.2 none with
            | none => rfl
            | some xb =>
              rw [ex, ey] at e
              by_cases z : xa = xb
              · exact if_pos z
              · simp [z] at e
        rw [hn] at hsn
        exact ⟨B3, g2.bb.trans g3.bb, g3.sub, _, _, _, rfl, g02.trans g3, (g3.own b2 h2 mo_dT).1, by rw [htk, hsn]; exact g3.hh _ _ h2⟩
    · rintro ⟨x3, x4, x5, rfl, g0, bD, h⟩
      rw [List.take_length] at h
      exact s_ret (D := { nx := _, rt := _ }) (ev_sortP (ev_listDT (evx 2 rfl) h)) s1 fun u2 B3 H3 g3 hu2 => k _ _ _ (g0.trans g3) hu2
end
/-! ### owners, plain -/
/-- who owns a standing -/
abbrev own (os : List (Option Nat)) (s : Nat) : Option Nat := os.getD s none
section
variable {n many c s t : Nat} {ps : List (Nat × Nat)} {os : List (Option Nat)}
theorem own_set (hs : s < os.length) (x : Nat) : own (os.set s (some c)) x = if x = s then some c else own os x := by
  unfold own
  rw [List.getD_eq_getElem?_getD, List.getD_eq_getElem?_getD]
  by_cases h : x = s
  · subst h; rw [if_pos rfl, List.getElem?_set_self hs]; rfl
  · rw [if_neg h, List.getElem?_set_ne fun e => h e.symm]
structure OwnOk (n : Nat) (ps : List (Nat × Nat)) (many : Nat) (os : List (Option Nat)) : Prop where
  len : os.length = n
  lt : ∀ s c, own os s = some c → c < many
  ex : ∀ c, c < many → ∃ s, s < n ∧ own os s = some c
  con : ∀ s t c, own os s = some c → own os t = some c → Rch (Adj ps) (fun x => own os x = some c) s t
/-- the first part: one standing for each -/
structure OwnI (n c : Nat) (os : List (Option Nat)) (left : List Nat) : Prop where
  len : os.length = n
  lt : ∀ s k, own os s = some k → k < c
  ex : ∀ k, k < c → ∃ s, s < n ∧ own os s = some k
  one : ∀ s t k, own os s = some k → own os t = some k → s = t
  ll : left.length = n - c
  nd : left.Nodup
  free : ∀ x ∈ left, x < n ∧ own os x = none
theorem own_lt (h : os.length = n) (e : own os s = some c) : s < n := by
  unfold own at e
  rw [List.getD_eq_getElem?_getD] at e
  cases h2 : os[s]? with
  | none => rw [h2] at e; cases e
  | some o => rw [← h]; exact (List.getElem?_eq_some_iff.mp h2).1
theorem OwnI.start (n : Nat) : OwnI n 0 (List.replicate n none) (List.range n) := by
  have hn : ∀ s, own (List.replicate n (none : Option Nat)) s = none := fun s => by
    unfold own
    rw [List.getD_eq_getElem?_getD, List.getElem?_replicate]
    split <;> rfl
  exact ⟨List.length_replicate .., fun s k h => (by rw [hn] at h; cases h), fun k h => absurd h (by omega), fun s t k h => (by rw [hn] at h; cases h), by rw [List.length_range]; rfl, List.nodup_range, fun x hx => ⟨List.mem_range.mp hx, hn x⟩⟩
theorem OwnI.step {left : List Nat} {r : Nat} (h : OwnI n c os left) (hr : left[r]? = some s) : OwnI n (c + 1) (os.set s (some c)) (left.eraseIdx r) := by
  have hm := List.mem_of_getElem? hr
  have hrl := (List.getElem?_eq_some_iff.mp hr).1
  obtain ⟨hs, hs0⟩ := h.free s hm
  have hsl : s < os.length := by rw [h.len]; exact hs
  refine ⟨by rw [List.length_set, h.len], fun x k e => ?_, fun k hk => ?_, fun x y k e1 e2 => ?_, by rw [List.length_eraseIdx_of_lt hrl, h.ll]; omega, h.nd.sublist (List.eraseIdx_sublist _ _), fun x hx => ?_⟩
  · rw [own_set hsl] at e
    split at e
    · cases e; omega
    · have := h.lt x k e; omega
  · by_cases hk2 : k = c
    · subst hk2; exact ⟨s, hs, by rw [own_set hsl, if_pos rfl]⟩
    · obtain ⟨x, hx, e⟩ := h.ex k (by omega)
      have : x ≠ s := fun z => by rw [z, hs0] at e; cases e
      exact ⟨x, hx, by rw [own_set hsl, if_neg this]; exact e⟩
  · rw [own_set hsl] at e1 e2
    split at e1
    · cases e1
      split at e2
      · omega
      · have := h.lt y c e2; omega
    · split at e2
      · cases e2
        have := h.lt x c e1; omega
      · exact h.one x y k e1 e2
  · have hxm : x ∈ left := (List.eraseIdx_sublist left r).subset hx
    have hne : x ≠ s := fun z => by
      subst z
      obtain ⟨h1, h2⟩ := List.getElem?_eq_some_iff.mp hr
      rw [List.mem_eraseIdx_iff_getElem] at hx
      obtain ⟨i, hi, hir, e⟩ := hx
      exact hir ((List.getElem_inj h.nd).mp (e.trans h2.symm))
    obtain ⟨h1, h2⟩ := h.free x hxm
    exact ⟨h1, by rw [own_set hsl, if_neg hne]; exact h2⟩
theorem OwnI.ok {left : List Nat} (h : OwnI n c os left) : OwnOk n ps c os := ⟨h.len, h.lt, h.ex, fun s t k h1 h2 => by rw [h.one s t k h1 h2]; exact .refl⟩
theorem OwnOk.step (h : OwnOk n ps many os) (hs : s < n) (hs0 : own os s = none) (hc : own os t = some c) (e : Adj ps s t) : OwnOk n ps many (os.set s (some c)) := by
  have hsl : s < os.length := by rw [h.len]; exact hs
  have up : ∀ x k, own os x = some k → own (os.set s (some c)) x = some k := fun x k e => by
    have : x ≠ s := fun z => by rw [z, hs0] at e; cases e
    rw [own_set hsl, if_neg this]; exact e
  have hsc : own (os.set s (some c)) s = some c := by rw [own_set hsl, if_pos rfl]
  -- from s to any other of c's standings, and back
  have out : ∀ y, own os y = some c → Rch (Adj ps) (fun x => own (os.set s (some c)) x = some c) t y := fun y hy => (h.con t y c hc hy).mono fun z hz => up z c hz
  have st : Rch (Adj ps) (fun x => own (os.set s (some c)) x = some c) s t := .step .refl e (up t c hc)
  refine ⟨by rw [List.length_set, h.len], fun x k e => ?_, fun k hk => ?_, fun x y k e1 e2 => ?_⟩
  · rw [own_set hsl] at e
    split at e
    · cases e; exact h.lt t c hc
    · exact h.lt x k e
  · obtain ⟨x, hx, e⟩ := h.ex k hk
    exact ⟨x, hx, up x k e⟩
  · rw [own_set hsl] at e1 e2
    split at e1
    · rename_i hx
      cases e1
      subst hx
      split at e2
      · rename_i hy; subst hy; exact .refl
      · exact st.trans (out y e2)
    · split at e2
      · rename_i hy
        cases e2
        subst hy
        have r1 : Rch (Adj ps) (fun z => own (os.set y (some c)) z = some c) x t := (h.con x t c e1 hc).mono fun z hz => up z c hz
        exact r1.trans (.step .refl (Adj.symm _ _ e) hsc)
      · exact (h.con x y k e1 e2).mono fun z hz => up z k hz
/-- in a web that hangs together an owner's neighbour is free, if one is owned and one free -/
theorem tree_edge (ht : Tree n ps) (hlen : os.length = n) {a f : Nat} (ha : a < n) (hf : f < n) (h1 : own os a ≠ none) (h2 : own os f = none) : ∃ s t, s < n ∧ own os s = none ∧ own os t ≠ none ∧ Adj ps s t := by
  refine Classical.byContradiction fun hno => ?_
  have same : ∀ s, s < n → (own os s = none ↔ own os 0 = none) := by
    intro s
    induction s using Nat.strongRecOn with
    | ind s ih =>
      intro hs
      by_cases h0 : s = 0
      · rw [h0]
      · obtain ⟨p, hp, hm⟩ := ht s (by omega) hs
        rw [← ih p hp (by omega)]
        constructor
        · intro e
          refine Classical.byContradiction fun hn => hno ⟨s, p, hs, e, hn, .inr hm⟩
        · intro e
          refine Classical.byContradiction fun hn => hno ⟨p, s, by omega, e, hn, .inl hm⟩
  exact h1 ((same a ha).mpr ((same f hf).mp h2))
theorem cntO_le (os : List (Option Nat)) : cntO os ≤ os.length := List.length_filter_le _ _
theorem cntO_all (h : cntO os = os.length) (hs : s < os.length) : own os s ≠ none := by
  unfold cntO at h
  rw [List.length_filter_eq_length_iff] at h
  intro e
  unfold own at e
  rw [List.getD_eq_getElem?_getD, List.getElem?_eq_getElem hs] at e
  have := h os[s] (List.getElem_mem hs)
  simp at e
  rw [e] at this
  cases this
theorem cntO_none (h : cntO os < os.length) : ∃ s, s < os.length ∧ own os s = none := by
  refine Classical.byContradiction fun hno => ?_
  have : cntO os = os.length := by
    unfold cntO
    rw [List.length_filter_eq_length_iff]
    intro o ho
    obtain ⟨i, hi, e⟩ := List.getElem_of_mem ho
    cases o with
    | some _ => rfl
    | none => exact absurd ⟨i, hi, by unfold own; rw [List.getD_eq_getElem?_getD, List.getElem?_eq_getElem hi, e]; rfl⟩ hno
  omega
end
end Lw
/-! Ne: _law_owners. -/
namespace Lw
open PySem PySem.Spec PyProof.Rows L2
theorem map_erase {α β : Type} (f : α → β) : ∀ (l : List α) (r : Nat), (l.map f).eraseIdx r = (l.eraseIdx r).map f
  | [], _ => rfl
  | _ :: _, 0 => rfl
  | x :: l, r + 1 => by
    show f x :: (l.map f).eraseIdx r = _
    rw [map_erase f l r]; rfl
section
variable {P : Program} {w : World} {K : PySem.W.Frag} {mg : Str → Option Value} {base : Heap}
variable {B H B0 H0 B1 H1 B2 H2 B' H' : Hp} {σ : Slo} {te ta tb tl td tv tk : TE} {a C CB dx d D : Addr} {b : Bool} {x v : V} {m n i j k : Nat} {fs : List (Str × V)} {f kf : Str} {PV : VP} {ps ts : List (Nat × Nat)} {told : List (List Nat)}
theorem s_setpop {E : XK} {Z : Ends} {O Lf : Addr} {os : List V} {left : List Nat} {iv io il : Nat} (dc : Dice D B H) (s : Same B H) (hv : σ[iv]? = some (some v)) (hO : σ[io]? = some (some (.ref O))) (hL : σ[il]? = some (some (.ref Lf))) (hd : Ev td σ B H (RX (.ref D))) (hk : Ev tk σ B H (RX (vn left.length)))
    (h1 : 1 ≤ left.length) (h2 : left.length ≤ 1000) (eO : H O = some (.lst os)) (bO : B O = none) (eL : H Lf = some (.lst (left.map vn))) (bL : B Lf = none) (nOL : O ≠ Lf) (nO : O ≠ D) (nL : Lf ≠ D) (hlt : ∀ x ∈ left, x < os.length)
    (kk : ∀ (r : Nat) x B' H', left[r]? = some x → GD D B H B' H' → Dice D B' H' → B' O = none → B' Lf = none → Z.nx σ (upd (upd H' Lf (.lst ((left.eraseIdx r).map vn))) O (.lst (os.set x v)))) :
    tAsg (tVar iv) (gSub (tVar io) (tBM K "list" rPopAt (tVar il) (tCons (tCall spDraw [] E (tCons td (tCons tk tNil))) tNil)) (fun o i v H Q => ∃ l xs i' j, o = .ref l ∧ i = .int i' ∧ H l = some (.lst xs) ∧ ixN xs.length i' = some j ∧ Q (upd H l (.lst (xs.set j v))))) Z σ H := by
  refine ⟨v, hv, .ref O, hO, .ref Lf, hL, .inl ⟨rfl, _, SqL.of eL⟩, go_draw dc s hd hk h1 h2 fun r B' H' hr gd dc' => ?_⟩
  obtain ⟨bO', eO'⟩ := gd.own nO bO eO mo_lst
  obtain ⟨bL', eL'⟩ := gd.own nL bL eL mo_lst
  have er : left[r]? = some left[r] := List.getElem?_eq_getElem hr
  generalize left[r] = x at er
  have hx := hlt x (List.mem_of_getElem? er)
  refine ⟨Lf, left.map vn, (r : Int), r, vn x, rfl, rfl, eL', by omega, by omega, ?_, by rw [List.getElem?_map, er]; rfl, O, os, (x : Int), x, rfl, rfl, by rw [upd_ne nOL]; exact eO', ?_, ?_⟩
  · rw [List.length_map]
    unfold seqIndex?
    simp
    omega
  · unfold ixN
    rw [if_pos (Int.natCast_nonneg _), if_pos (Int.ofNat_lt.mpr hx)]
    rfl
  · have e : (left.map vn).eraseIdx r = (left.eraseIdx r).map vn := map_erase vn left r
    rw [e]
    exact kk r x B' H' er gd dc' bO' bL'
theorem em_lstRg {te : TE} (h : Ev te σ B H (RX (vn n))) (hn : n ≤ 1000) : EvM (tLstRg (tRg1 te)) σ B H (fun vs _ => vs = (List.range n).map vn) := fun B1 H1 g1 Q q =>
  h B1 H1 g1 _ fun v B2 H2 g e => ⟨(n : Int), e, RgOk.of_le (by omega) (by omega) (by omega) (by omega), fun p hp => by
    have : rgV 0 (n : Int) = (List.range n).map vn := by
      unfold rgV
      have e1 : ((n : Int) - 0).toNat = n := by omega
      rw [e1]
      refine List.map_congr_left fun i _ => ?_
      show V.int (0 + (i : Int)) = V.int (i : Int)
      rw [Int.zero_add]
    rw [this]
    exact q p _ B2 _ (g.trans (Gr.newM g.sub hp)) (g.hh.free hp) (none_of_same g.sub hp) upd_same rfl⟩
theorem s_ixdraw {E : XK} {Z : Ends} {α : Type} {R : α → VP} {xs : List α} [∀ x, Mn (R x)] {lv : V} (dc : Dice D B H) (s : Same B H) (hv : σ[j]? = some (some lv)) (hl : LO R xs lv B) (hd : Ev td σ B H (RX (.ref D))) (hk : Ev tk σ B H (RX (vn xs.length))) (h1 : 1 ≤ xs.length) (h2 : xs.length ≤ 1000)
    (kk : ∀ (r : Nat) x u B' H', xs[r]? = some x → GD D B H B' H' → Dice D B' H' → R x u B' → Z.nx (σ.set i (some u)) H') : tAsg (tOp (rIxL K) (tVar j) (tCall spDraw [] E (tCons td (tCons tk tNil)))) (gName i) Z σ H := by
  refine ⟨lv, hv, go_draw dc s hd hk h1 h2 fun r B' H' hr gd dc' => ?_⟩
  obtain ⟨a, vs, rfl, ha, rs⟩ := (Mn.mn gd.bb hl : LO R xs lv B')
  have er : xs[r]? = some xs[r] := List.getElem?_eq_getElem hr
  obtain ⟨u, hu, ru⟩ := rs.get er
  exact ⟨a, vs, (r : Nat), u, rfl, rfl, SqL.of (gd.sub _ _ ha), atI_nat hu, kk r _ u B' H' er gd dc' ru⟩
/-- l[s] = l[xs[draw]], l one's own -/
theorem s_setix {E : XK} {Z : Ends} {O : Addr} {os : List V} {xs : List Nat} {lv : V} {io ix is st : Nat} (dc : Dice D B H) (s : Same B H) (hO : σ[io]? = some (some (.ref O))) (hv : σ[ix]? = some (some lv)) (hs : σ[is]? = some (some (vn st))) (hl : IL xs lv B) (hd : Ev td σ B H (RX (.ref D))) (hk : Ev tk σ B H (RX (vn xs.length))) (h1 : 1 ≤ xs.length) (h2 : xs.length ≤ 1000)
    (eO : H O = some (.lst os)) (bO : B O = none) (nO : O ≠ D) (hst : st < os.length) (hx : ∀ x ∈ xs, x < os.length)
    (kk : ∀ (x : Nat) u B' H', x ∈ xs → os[x]? = some u → GD D B H B' H' → Dice D B' H' → B' O = none → Z.nx σ (upd H' O (.lst (os.set st u)))) :
    tAsg (tOp (rIxL K) (tVar io) (tOp (rIxL K) (tVar ix) (tCall spDraw [] E (tCons td (tCons tk tNil))))) (gSub (tVar io) (tVar is) (fun o i v H Q => ∃ l xs i' j, o = .ref l ∧ i = .int i' ∧ H l = some (.lst xs) ∧ ixN xs.length i' = some j ∧ Q (upd H l (.lst (xs.set j v))))) Z σ H := by
  refine ⟨.ref O, hO, lv, hv, go_draw dc s hd hk h1 h2 fun r B' H' hr gd dc' => ?_⟩
  obtain ⟨a, rfl, ha⟩ := (Mn.mn gd.bb hl : IL xs lv B')
  obtain ⟨bO', eO'⟩ := gd.own nO bO eO mo_lst
  have er : xs[r]? = some xs[r] := List.getElem?_eq_getElem hr
  generalize xs[r] = x at er
  have hxm := List.mem_of_getElem? er
  have hxl := hx x hxm
  have eu : os[x]? = some os[x] := List.getElem?_eq_getElem hxl
  refine ⟨a, xs.map vn, (r : Nat), vn x, rfl, rfl, SqL.of (gd.sub _ _ ha), atI_nat (by rw [List.getElem?_map, er]; rfl), O, os, (x : Nat), os[x], rfl, rfl, SqL.of eO', atI_nat eu, .ref O, hO, vn st, hs, O, os, (st : Nat), st, rfl, rfl, eO', ?_, kk x _ B' H' hxm eu gd dc' bO'⟩
  unfold ixN
  rw [if_pos (Int.natCast_nonneg _), if_pos (Int.ofNat_lt.mpr hst)]
  rfl
theorem isNone_vo (o : Option Nat) : decide (vo o = .non) = o.isNone := by cases o <;> rfl
def freeL (n : Nat) (os : List (Option Nat)) : List Nat := (List.range n).filter fun s => (own os s).isNone
def ownedR (rows : List (List Nat)) (os : List (Option Nat)) (s : Nat) : List Nat := (rows.getD s []).filter fun t => !(own os t).isNone
def nearL (n : Nat) (rows : List (List Nat)) (os : List (Option Nat)) : List Nat := (freeL n os).filter fun s => decide (0 < (ownedR rows os s).length)
theorem mem_freeL {os : List (Option Nat)} {s : Nat} : s ∈ freeL n os ↔ s < n ∧ own os s = none := by
  unfold freeL
  rw [List.mem_filter, List.mem_range]
  simp
theorem mem_ownedR {os : List (Option Nat)} {rows : List (List Nat)} {s t : Nat} (hro : RowsOk n ps rows) (hs : s < n) : t ∈ ownedR rows os s ↔ Adj ps s t ∧ own os t ≠ none := by
  obtain ⟨r, hr, _, hm, _⟩ := hro.at hs
  unfold ownedR
  rw [List.mem_filter, List.getD_eq_getElem?_getD, hr]
  show t ∈ r ∧ _ ↔ _
  rw [hm]
  cases own os t <;> simp
theorem mem_nearL {os : List (Option Nat)} {rows : List (List Nat)} {s : Nat} (hro : RowsOk n ps rows) : s ∈ nearL n rows os ↔ s < n ∧ own os s = none ∧ ∃ t, Adj ps s t ∧ own os t ≠ none := by
  unfold nearL
  rw [List.mem_filter, mem_freeL, decide_eq_true_iff]
  constructor
  · rintro ⟨⟨h1, h2⟩, h3⟩
    obtain ⟨t, ht⟩ := List.exists_mem_of_length_pos h3
    exact ⟨h1, h2, t, (mem_ownedR hro h1).mp ht⟩
  · rintro ⟨h1, h2, t, ht⟩
    exact ⟨⟨h1, h2⟩, List.length_pos_of_mem ((mem_ownedR hro h1).mpr ht)⟩
abbrev spOwners : Sp := fun vs H Q _ => ∃ B D n ps rows r many turns, vs = [.ref D, r, vn many, vn turns] ∧ Dice D B H ∧ Same B H ∧ LO (fun r => IL r) rows r B ∧ RowsOk n ps rows ∧ PsOk n ps ∧ Tree n ps ∧ 1 ≤ many ∧ many ≤ n ∧ n ≤ 30 ∧ turns ≤ n ∧
  ∀ u B' H' os, GD D B H B' H' → Dice D B' H' → OwnOk n ps many os → (turns = n → ∀ s, s < n → own os s ≠ none) → OL os u B' → Q u H'
theorem sc__law_owners : FnScope ["_law_dice_here", "_law_rows_here", "_law_many", "_law_turns", "_law_size", "_law_found", "_law_standing", "_law_left_here", "_law_owner", "_law_turn", "_law_free", "_law_near", "_law_there", "_law_owned"] ["_law_dice_here", "_law_rows_here", "_law_many", "_law_turns"] (defScope (tp 55)) := ⟨rfl, rfl, rfl, by decide +kernel, rfl, by decide +kernel, by decide +kernel⟩
set_option maxHeartbeats 2000000 in
theorem ok_law_owners (Dd : Dn K mg "_law_owners" "_law_owners" (tp 55)) (T : Tx mg) (c__law_draw : Cal P w K mg base 1 "_law_draw" spDraw) : Cal P w K mg base 2 "_law_owners" spOwners := by
  refine cal_of Dd sc__law_owners (fun _ _ _ _ _ _ us hl => match us, hl with | [_, _, _, _], _ => rfl) (fun vs H Q E h => ?_) (fun cdv A outer s f H vs Q E hr h => ?_)
  · obtain ⟨B, D, n, ps, rows, r, many, turns, rfl, _⟩ := h
    rfl
  · obtain ⟨B0, D, n, ps, rows, r, many, turns, rfl, dc0, s0, hrv, hro, hps, htree, hm1, hmn, hn, htn, kk⟩ := h
    refine ⟨_, (pss_cons (ps_set (i := 4) sc__law_owners.nd rfl (.inl rfl) (pe_callB (lenS K) (by rfl) T.len PySem.boot_len (pa_cons (pv 1) pa_nil)))
      (pss_cons (ps_set (i := 5) sc__law_owners.nd rfl (.inr rfl) (pe_lc (own := [("_law_standing", 6)]) rfl sc__law_owners.nd (pi_range1 rfl T.range (pa_cons (pv 4) pa_nil)) (blkOk_by (by kernel_rfl)) (fun _ _ _ _ _ => (pg_name (i := 6) sc__law_owners.nd rfl (.inl rfl))) (fun _ _ _ _ _ => pts_nil) (fun _ _ _ _ _ => pe_non)))
      (pss_cons (ps_set (i := 7) sc__law_owners.nd rfl (.inl rfl) (pe_listRg rfl (by rfl) T.list (prg_1 (by rfl) T.range (pv 4))))
      (pss_cons (ps_for PassesOwn.never rfl (pi_range1 rfl T.range (pa_cons (pv 2) pa_nil)) (pg_name (i := 8) sc__law_owners.nd rfl (.inl rfl))
        (pss_one (ps_asg (pv 8) (pg_sub (pv 5) (bmK K PySem.F.plainAttrs_list PySem.F.slot_list_pop PySem.F.type_list_pop mt_popAt (pv 7) (pa_cons (pe_k c__law_draw hr (by decide) rfl (pa_cons (pv 0) (pa_cons (pe_callB (lenS K) (by rfl) T.len PySem.boot_len (pa_cons (pv 7) pa_nil)) pa_nil))) pa_nil)) set_list))))
      (pss_cons (ps_for PassesOwn.never rfl (pi_range1 rfl T.range (pa_cons (pv 3) pa_nil)) (pg_name (i := 9) sc__law_owners.nd rfl (.inl rfl))
        (pss_cons (ps_setLc (i := 10) (own := [("_law_standing", 6)]) rfl sc__law_owners.nd rfl rfl (sw_true rfl rfl rfl (by decide +kernel)) (pi_range1 rfl T.range (pa_cons (pv 4) pa_nil)) (blkOk_by (by kernel_rfl)) (fun _ _ _ _ _ => (pg_name (i := 6) sc__law_owners.nd rfl (.inl rfl))) (fun _ _ _ _ _ => (pts_one (pt_cmpR op_isN (pe_ix (ixL K) (pv 5) (pv 6) (fun _ _ => rfl)) pe_non (nomark _)))) (fun _ _ _ _ _ => (pv 6)))
        (pss_cons (ps_setLc (i := 11) (own := [("_law_standing", 6)]) rfl sc__law_owners.nd rfl rfl (sw_true rfl rfl rfl (by decide +kernel)) (piL K (pv 10)) (blkOk_by (by kernel_rfl)) (fun _ _ _ _ _ => (pg_name (i := 6) sc__law_owners.nd rfl (.inl rfl))) (fun _ _ _ _ _ => (pts_one (pt_cmpR op_gt (pe_callB (lenS K) (by rfl) T.len PySem.boot_len (pa_cons (pe_lc (own := [("_law_there", 12)]) rfl sc__law_owners.nd (piL K (pe_ix (ixL K) (pv 1) (pv 6) (fun _ _ => rfl))) (blkOk_by (by kernel_rfl)) (fun _ _ _ _ _ => (pg_name (i := 12) sc__law_owners.nd rfl (.inl rfl))) (fun _ _ _ _ _ => (pts_one (pt_cmpR op_notN (pe_ix (ixL K) (pv 5) (pv 12) (fun _ _ => rfl)) pe_non (nomark _)))) (fun _ _ _ _ _ => pe_int)) pa_nil)) pe_int (nomark _)))) (fun _ _ _ _ _ => (pv 6)))
        (pss_one (ps_if (pt_cmpR op_gt (pe_callB (lenS K) (by rfl) T.len PySem.boot_len (pa_cons (pv 11) pa_nil)) pe_int (nomark _)) (pss_cons (ps_set (i := 6) sc__law_owners.nd rfl (.inl rfl) (pe_ix (ixL K) (pv 11) (pe_k c__law_draw hr (by decide) rfl (pa_cons (pv 0) (pa_cons (pe_callB (lenS K) (by rfl) T.len PySem.boot_len (pa_cons (pv 11) pa_nil)) pa_nil))) (fun _ _ => rfl)))
          (pss_cons (ps_setLc (i := 13) (own := [("_law_there", 12)]) rfl sc__law_owners.nd rfl rfl (sw_true rfl rfl rfl (by decide +kernel)) (piL K (pe_ix (ixL K) (pv 1) (pv 6) (fun _ _ => rfl))) (blkOk_by (by kernel_rfl)) (fun _ _ _ _ _ => (pg_name (i := 12) sc__law_owners.nd rfl (.inl rfl))) (fun _ _ _ _ _ => (pts_one (pt_cmpR op_notN (pe_ix (ixL K) (pv 5) (pv 12) (fun _ _ => rfl)) pe_non (nomark _)))) (fun _ _ _ _ _ => (pv 12)))
          (pss_one (ps_asg (pe_ix (ixL K) (pv 5) (pe_ix (ixL K) (pv 13) (pe_k c__law_draw hr (by decide) rfl (pa_cons (pv 0) (pa_cons (pe_callB (lenS K) (by rfl) T.len PySem.boot_len (pa_cons (pv 13) pa_nil)) pa_nil))) (fun _ _ => rfl)) (fun _ _ => rfl)) (pg_sub (pv 5) (pv 6) set_list))))) pss_nil)))))
      (pss_one (ps_ret (pv 5)))))))), ?_⟩
    refine s_asgx (D := { nx := _, rt := _ }) (x := vn n) (ev_len (ev_var 1 rfl hrv) (pn_LO hro.len)) s0 fun B1 H1 g1 => ?_
    refine s_asgM (D := { nx := _, rt := _ }) (em_lcM (R' := fun _ : Nat => RX .non) (ei_rng1 (n := n) (ea_x (evx 4 rfl) ea_nil) (by omega)) (fun x => x) (by rw [List.length_range]; omega) (fun _ => rfl) fun p v B' H' hmem g hv => ev_c) g1.sub fun O vs B2 H2 g2 nO bO hO rO => ?_
    have evs : vs = (List.replicate n none).map vo := by
      rw [Rs.vals (f := fun _ : Nat => V.non) rO]
      rw [List.map_map, List.map_replicate]
      show (List.range n).map (fun _ => V.non) = _
      rw [List.map_const', List.length_range]; rfl
    subst evs
    refine s_asgM (D := { nx := _, rt := _ }) (em_lstRg (n := n) (evx 4 rfl) (by omega)) g2.sub fun Lf vs B3 H3 g3 nL bL hL e => ?_
    cases e
    obtain ⟨bO3, hO3⟩ := g3.own bO hO mo_lst
    have nOL : O ≠ Lf := ne_of_none hO nL
    have dc1 := dc0.grow g1
    have neO : O ≠ D := dc1.ne nO
    have neL : Lf ≠ D := (dc1.grow g2).ne nL
    have nO0 : H O = none := g1.hh.free nO
    have nL0 : H Lf = none := (g1.trans g2).hh.free nL
    have gd3 : GD D B0 H B3 H3 := ((dc0.gd g1).trans (dc1.gd g2)).trans ((dc1.grow g2).gd g3)
    have dc3 := (dc1.grow g2).grow g3
    refine s_for (D := { nx := _, rt := _ }) (ei_rng1 (B := B3) (n := many) (ea_x (evx 2 rfl) ea_nil) (by omega)) g3.sub (fun c σ B' H' => ∃ x8 os left, σ = [some (.ref D), some r, some (vn many), some (vn turns), some (vn n), some (.ref O), none, some (.ref Lf), x8, none, none, none, none, none] ∧ GD D B0 H B' H' ∧ Dice D B' H' ∧ B' O = none ∧ H' O = some (.lst (os.map vo)) ∧ B' Lf = none ∧ H' Lf = some (.lst (left.map vn)) ∧ OwnI n c os left)
      (fun B' H' g => ?_) (fun c c' c'v σ B4 H4 hc s4 => ?_) (fun σ B4 H4 s4 => ?_)
    · exact ⟨_, _, _, rfl, gd3.trans (dc3.gd g), dc3.grow g, (g.own bO3 hO3 mo_lst).1, g.hh _ _ hO3, (g.own bL hL mo_lst).1, g.hh _ _ hL, OwnI.start n⟩
    · rintro ⟨x8, os, left, rfl, gd, dc, bO, hO, bL, hL, oi⟩ e
      cases e
      have hc2 : c = c' ∧ c < many := by
        obtain ⟨h1, h2⟩ := List.getElem?_eq_some_iff.mp hc
        rw [List.getElem_range] at h2
        rw [List.length_range] at h1
        exact ⟨h2, h1⟩
      obtain ⟨rfl, hcm⟩ := hc2
      have hll := oi.ll
      refine s_setpop (iv := 8) (io := 5) (il := 7) dc s4 rfl rfl rfl (evx 0 rfl) (ev_lenM (evx 7 rfl) hL (List.length_map ..)) (by omega) (by omega) hO bO hL bL nOL neO neL (fun x hx => by rw [List.length_map, oi.len]; exact (oi.free x hx).1) fun q x B5 H5 hq g5 dc5 bO5 bL5 => ?_
      have gp := ((gd.trans g5).put (o := .lst ((left.eraseIdx q).map vn)) neL nL0 bL5).put (o := .lst ((os.map vo).set x (vn c))) neO nO0 bO5
      refine ⟨B5, g5.bb, gp.sub, _, os.set x (some c), left.eraseIdx q, rfl, gp, (dc5.put neL).put neO, bO5, ?_, bL5, ?_, oi.step hq⟩
      · rw [upd_same, List.map_set]; rfl
      · rw [upd_ne nOL.symm, upd_same]
    · rintro ⟨x8, os, left, rfl, gd, dc, bO, hO, bL, hL, oi⟩
      rw [List.length_range] at oi
      have cnt0 : 1 ≤ cntO os := by
        obtain ⟨s, hs, e⟩ := oi.ex 0 (by omega)
        unfold cntO
        refine List.length_pos_of_mem (a := some 0) (List.mem_filter.mpr ⟨?_, rfl⟩)
        have hs' : s < os.length := by rw [oi.len]; exact hs
        unfold own at e
        rw [List.getD_eq_getElem?_getD, List.getElem?_eq_getElem hs'] at e
        have e2 : os[s] = some 0 := e
        rw [← e2]; exact List.getElem_mem hs'
      refine s_for (D := { nx := _, rt := _ }) (ei_rng1 (B := B4) (n := turns) (ea_x (evx 3 rfl) ea_nil) (by omega)) s4 (fun i σ B' H' => ∃ x6 x9 x10 x11 x13 os, σ = [some (.ref D), some r, some (vn many), some (vn turns), some (vn n), some (.ref O), x6, some (.ref Lf), x8, x9, x10, x11, none, x13] ∧ GD D B0 H B' H' ∧ Dice D B' H' ∧ B' O = none ∧ H' O = some (.lst (os.map vo)) ∧ OwnOk n ps many os ∧ (cntO os = n ∨ 1 + i ≤ cntO os))
        (fun B' H' g => ?_) (fun i t tv σ B5 H5 hi s5 => ?_) (fun σ B5 H5 s5 => ?_)
      · exact ⟨_, _, _, _, _, os, rfl, gd.trans (dc.gd g), dc.grow g, (g.own bO hO mo_lst).1, g.hh _ _ hO, oi.ok, .inr cnt0⟩
      · rintro ⟨x6, x9, x10, x11, x13, os, rfl, gd, dc, bO, hO, oo, hcnt⟩ e
        cases e
        have rv5 : LO (fun r => IL r) rows r B5 := Mn.mn gd.bb hrv
        have hpl := hps.le1000 hn
        have osl := oo.len
        have eat : ∀ s, s < n → (os.map vo)[s]? = some (vo (own os s)) := fun s hs => os_at (by omega)
        have hfl : (freeL n os).length ≤ n := by
          have h := List.length_filter_le (fun s => (own os s).isNone) (List.range n)
          rw [List.length_range] at h
          exact h
        have hnl : (nearL n rows os).length ≤ n := Nat.le_trans (List.length_filter_le _ _) hfl
        refine s_asg (P := IL (freeL n os)) ((em_lcN (R := RN) (R' := fun s => RX (vn s)) (ei_rng1 (B := B5) (n := n) (ea_x (evx 4 rfl) ea_nil) (by omega)) (fun s => (own os s).isNone) id (by rw [List.length_range]; omega) (fun _ => rfl) fun s sv B' H' hm g hs => ⟨?_, fun _ => ?_⟩).vals.vl.imp fun v B' _ h => by rw [List.map_id] at h; exact h) s5 fun fv B6 H6 g6 hfv => ?_
        · cases hs
          exact (et_val ((ev_isN (ev_ixVM (evx 5 rfl) (evx 6 rfl) (g.hh _ _ hO) (eat s (List.mem_range.mp hm)))).eq (by rw [isNone_vo])))
        · cases hs
          exact evx 6 rfl
        obtain ⟨bO6, hO6⟩ := g6.own bO hO mo_lst
        have rv6 := (Mn.mn g6.bb rv5 : LO (fun r => IL r) rows r B6)
        refine s_asg (P := IL (nearL n rows os)) ((em_lcN (R := fun s => RX (vn s)) (R' := fun s => RX (vn s)) (ei_VL (f := vn) (ev_var 10 rfl hfv)) (fun s => decide (0 < (ownedR rows os s).length)) id (by omega) (fun _ => rfl) fun s sv B' H' hm g hs => ⟨?_, fun _ => ?_⟩).vals.vl.imp fun v B' _ h => by rw [List.map_id] at h; exact h) g6.sub fun nv B7 H7 g7 hnv => ?_
        · cases hs
          have hsn := (mem_freeL.mp hm).1
          obtain ⟨row, er, hrm, hrow, hsh⟩ := hro.at hsn
          have erd : rows.getD s [] = row := by rw [List.getD_eq_getElem?_getD, er]; rfl
          unfold ownedR
          rw [erd]
          refine et_val (ev_gtN (ev_len (em_lcN (R := fun s => RX (vn s)) (R' := fun _ : Nat => RX (vn 1)) (ei_list (((ev_ixL (R := fun r => IL r) (ev_var 1 rfl (Mn.mn g.bb rv6)) (evx 6 rfl) er).imp fun v B' _ h => VL.lo h))) (fun t => !(own os t).isNone) id (by omega) (fun _ => rfl) fun t tv B2 H2 hm2 g2 htv => ⟨?_, fun _ => ev_c⟩).lo (pn_LO (List.length_map ..))) ev_0)
          cases htv
          have htn := (Adj.lt hps ((hrow t).mp hm2)).2
          exact et_val ((ev_notN (ev_ixVM (evx 5 rfl) (evx 12 rfl) ((g.trans g2).hh _ _ hO6) (eat t htn))).eq (by rw [isNone_vo]))
        · cases hs
          exact evx 6 rfl
        obtain ⟨bO7, hO7⟩ := g7.own bO6 hO6 mo_lst
        have gd7 := (gd.trans (dc.gd g6)).trans ((dc.grow g6).gd g7)
        have dc7 := (dc.grow g6).grow g7
        refine s_if (b := decide (0 < (nearL n rows os).length)) (et_val (ev_gtN (ev_len (ev_var 11 rfl hnv) (pn_VL (List.length_map ..))) ev_0)) g7.sub (fun e B8 H8 g8 => ?_) (fun e B8 H8 g8 => ?_)
        · have e := of_decide_eq_true e
          have dc8 := dc7.grow g8
          obtain ⟨bO8, hO8⟩ := g8.own bO7 hO7 mo_lst
          have hnv8 : LO (fun s => RX (vn s)) (nearL n rows os) nv B8 := VL.lo (f := vn) (Mn.mn g8.bb hnv)
          refine s_ixdraw (j := 11) (R := fun s => RX (vn s)) dc8 g8.sub rfl hnv8 (evx 0 rfl) (ev_len (ev_var 11 rfl hnv8) (pn_LO rfl)) (by omega) (by omega) fun q s u B9 H9 hq g9 dc9 eu => ?_
          cases eu
          obtain ⟨hsn, hs0, t0, hat0, ht0⟩ := (mem_nearL hro).mp (List.mem_of_getElem? hq)
          obtain ⟨bO9, hO9⟩ := g9.own neO bO8 hO8 mo_lst
          obtain ⟨row, er, hrm, hrow, hsh⟩ := hro.at hsn
          have erd : rows.getD s [] = row := by rw [List.getD_eq_getElem?_getD, er]; rfl
          have rv9 : LO (fun r => IL r) rows r B9 := Mn.mn ((g7.bb.trans g8.bb).trans g9.bb) rv6
          have hol : (ownedR rows os s).length ≤ 2000 := by
            unfold ownedR
            rw [erd]
            have := List.length_filter_le (fun t => !(own os t).isNone) row
            omega
          have hol1 : (ownedR rows os s).length ≤ n := by
            have := nodup_le (l := ownedR rows os s) (m := List.range n) (by unfold ownedR; rw [erd]; exact (hro.nd hps row hrm).filter _) fun x hx => List.mem_range.mpr (Adj.lt hps ((mem_ownedR hro hsn).mp hx).1).2
            rw [List.length_range] at this; exact this
          refine s_asg (P := IL (ownedR rows os s)) ((em_lcN (R := fun s => RX (vn s)) (R' := fun s => RX (vn s)) (ei_list (((ev_ixL (R := fun r => IL r) (ev_var 1 rfl rv9) (evx 6 rfl) er).imp fun v B' _ h => VL.lo h))) (fun t => !(own os t).isNone) id (by omega) (fun _ => rfl) fun t tv B2 H2 hm2 g2 htv => ⟨?_, fun _ => ?_⟩).vals.vl.imp fun v B' _ h => by rw [List.map_id] at h; unfold ownedR; rw [erd]; exact h) g9.sub fun ov B10 H10 g10 hov => ?_
          · cases htv
            have htn := (Adj.lt hps ((hrow t).mp hm2)).2
            exact et_val ((ev_notN (ev_ixVM (evx 5 rfl) (evx 12 rfl) (g2.hh _ _ hO9) (eat t htn))).eq (by rw [isNone_vo]))
          · cases htv
            exact evx 12 rfl
          have dc10 := dc9.grow g10
          obtain ⟨bO10, hO10⟩ := g10.own bO9 hO9 mo_lst
          have hop : 1 ≤ (ownedR rows os s).length := List.length_pos_of_mem ((mem_ownedR hro hsn).mpr ⟨hat0, ht0⟩)
          refine s_setix (io := 5) (ix := 13) (is := 6) dc10 g10.sub rfl rfl rfl hov (evx 0 rfl) (ev_len (ev_var 13 rfl hov) (pn_VL (List.length_map ..))) hop (by omega) hO10 bO10 neO (by rw [List.length_map, osl]; exact hsn) (fun x hx => by rw [List.length_map, osl]; exact (Adj.lt hps ((mem_ownedR hro hsn).mp hx).1).2) fun t u B11 H11 ht hu g11 dc11 bO11 => ?_
          obtain ⟨hat, hto⟩ := (mem_ownedR hro hsn).mp ht
          have htn := (Adj.lt hps hat).2
          rw [eat t htn] at hu
          cases hu
          cases hc : own os t with
          | none => exact absurd hc hto
          | some c =>
            have g511 := ((((dc.gd g6).trans ((dc.grow g6).gd g7)).trans (dc7.gd g8)).trans g9).trans ((dc9.gd g10).trans g11)
            have gp := (gd.trans g511).put (o := .lst ((os.map vo).set s (vo (some c)))) neO nO0 bO11
            have hn0 : os[s]? = some none := by
              have hsl : s < os.length := by omega
              unfold own at hs0
              rw [List.getD_eq_getElem?_getD, List.getElem?_eq_getElem hsl] at hs0
              rw [List.getElem?_eq_getElem hsl]
              exact congrArg some hs0
            refine ⟨B11, g511.bb, gp.sub, _, _, _, _, _, os.set s (some c), rfl, gp, dc11.put neO, bO11, by rw [upd_same, List.map_set], oo.step hsn hs0 hc hat, ?_⟩
            have hl := cntO_le os
            rw [cntO_set hn0]
            have hlt2 : cntO os ≠ os.length := fun z => cntO_all z (by omega) hs0
            omega
        · have e := of_decide_eq_false e
          have g58 := (g6.trans g7).trans g8
          refine ⟨B8, g58.bb, g58.sub, _, _, _, _, _, os, rfl, gd.trans (dc.gd g58), dc.grow g58, (g58.own bO hO mo_lst).1, g58.hh _ _ hO, oo, .inl ?_⟩
          have hl := cntO_le os
          refine Classical.byContradiction fun hne => e ?_
          obtain ⟨f, hf, hf0⟩ := cntO_none (os := os) (by omega)
          obtain ⟨a0, ha0, ea0⟩ := oo.ex 0 (by omega)
          obtain ⟨s, t, h1, h2, h3, h4⟩ := tree_edge htree osl ha0 (by omega) (by rw [ea0]; exact fun z => nomatch z) hf0
          exact List.length_pos_of_mem ((mem_nearL hro).mpr ⟨h1, h2, t, h4, h3⟩)
      · rintro ⟨x6, x9, x10, x11, x13, os, rfl, gd, dc, bO, hO, oo, hcnt⟩
        rw [List.length_range] at hcnt
        refine s_ret (D := { nx := _, rt := _ }) (evx 5 rfl) s5 fun w B6 H6 g6 e => ?_
        cases e
        obtain ⟨bO6, hO6⟩ := g6.own bO hO mo_lst
        have gs := (gd.trans (dc.gd g6)).settle neO nO0 bO6 hO6
        refine kk _ _ _ os gs ((dc.grow g6).settle neO bO6) oo (fun ht s hs => ?_) ⟨O, rfl, upd_same⟩
        have hl := cntO_le os
        rw [oo.len] at hl
        have : cntO os = os.length := by rw [oo.len]; omega
        exact cntO_all this (by rw [oo.len]; exact hs)
end
end Lw
/-! Nf: _law_drawn_ties. -/
namespace Lw
open PySem PySem.Spec PyProof.Rows L2
section
variable {P : Program} {w : World} {K : PySem.W.Frag} {mg : Str → Option Value} {base : Heap}
variable {B H B0 H0 B1 H1 B2 H2 B' H' : Hp} {σ : Slo} {te ta tb tl td tv tk : TE} {a C CB dx d D : Addr} {b : Bool} {x v : V} {m n i j k : Nat} {fs : List (Str × V)} {f kf : Str} {PV : VP} {ps ts : List (Nat × Nat)} {told : List (List Nat)}
/-! ### pair not in a list of pairs -/
def pD (q : Nat × Nat) : PyData := .tuple ([q.1, q.2].map fun n : Nat => .int n)
theorem dp_i2 {q : Nat × Nat} (h : I2 q v B) (s : Same B H) : Dp K H v (pD q) := dp_it (l := [q.1, q.2]) h s
theorem dpAll_i2 (s : Same B H) : ∀ {qs : List (Nat × Nat)} {vs : List V}, Rs I2 qs vs B → DpAll K H vs (qs.map pD)
  | [], [], _ => .nil
  | _ :: _, _ :: _, ⟨h, t⟩ => .cons (dp_i2 h s) (dpAll_i2 s t)
theorem lay_pairs : ∀ qs : List (Nat × Nat), PyData.canLayAll0 (qs.map pD) = true
  | [] => by simp [PyData.canLayAll0]
  | q :: qs => by
    rw [List.map_cons, PyData.canLayAll0, lay_pairs qs]
    have := canLay_ints [q.1, q.2]
    unfold pD
    rw [PyData.canLay0, this]; rfl
theorem depth_pairs : ∀ qs : List (Nat × Nat), PyData.depthAll (qs.map pD) ≤ 1
  | [] => by simp [PyData.depthAll]
  | q :: qs => by
    rw [List.map_cons, PyData.depthAll]
    have h1 := depth_pairs qs
    have h2 : (pD q).depth = 1 := by unfold pD; rw [PyData.depth, depth_nats]
    omega
theorem shaped_pairs (qs : List (Nat × Nat)) : SeqAt.shaped (.list (qs.map pD)) = true := by
  unfold SeqAt.shaped
  have := depth_pairs qs
  rw [PyData.canLay0, lay_pairs, PyData.depth, Bool.true_and]
  exact decide_eq_true (by omega)
theorem any_pairs (q : Nat × Nat) : ∀ qs : List (Nat × Nat), ((qs.map pD).any fun z => PyData.eqv z (pD q)) = decide (q ∈ qs)
  | [] => rfl
  | r :: qs => by
    rw [List.map_cons, List.any_cons, any_pairs q qs]
    have e : PyData.eqv (pD r) (pD q) = decide (r = q) := by
      unfold pD
      rw [PyData.eqv, eqvAll_ints]
      by_cases h : r = q
      · subst h; simp
      · rw [decide_eq_false h]
        refine decide_eq_false fun e => h ?_
        injection e with e1 e2
        injection e2 with e2 _
        exact Prod.ext e1 e2
    rw [e]
    by_cases h : r = q
    · subst h; simp
    · have h' : ¬ q = r := fun z => h z.symm
      simp [h, h']
theorem ev_notInP {q : Nat × Nat} {qs : List (Nat × Nat)} {vs : List V} (ha : Ev ta σ B H (I2 q)) (hb : Ev tb σ B H (RX (.ref a))) (hl : H a = some (.lst vs)) (r : Rs I2 qs vs B) : Ev (tOp (rNotInD K) ta tb) σ B H (RX (.bl (!decide (q ∈ qs)))) :=
  ev_opx ha hb fun x y B' H' g hx e Q k => by
    cases e
    refine ⟨pD q, qs.map pD, dp_i2 hx g.sub, .lst (SqL.of (g.hh _ _ hl)) (dpAll_i2 g.sub (r.mn g.bb)), shaped_ints [q.1, q.2], shaped_pairs qs, ?_⟩
    rw [any_pairs]; exact k
/-! ### a comprehension whose test draws -/
theorem go_lcD {α : Type} {R : α → VP} {xs : List α} [∀ x, Mn (R x)] {wi : TI} {tt : TT} {j : Nat} {ws : List Nat} {Q : VK} (hi : EvI wi σ B H R xs) (dc : Dice D B H) (s : Same B H) (p : α → Bool) (hl : xs.length ≤ 900000) (hw : ∀ v, wipe ((wipe σ ws).set j (some v)) ws = wipe σ ws)
    (hj : ∀ v, ((wipe σ ws).set j (some v))[j]? = some (some v))
    (turn : ∀ x v B' H', x ∈ xs → GD D B H B' H' → Dice D B' H' → R x v B' → ∀ Q : Bool → Hp → Prop, (∀ b B2 H2, (b = true → p x = true) → GD D B' H' B2 H2 → Dice D B2 H2 → Q b H2) → tt ((wipe σ ws).set j (some v)) H' Q)
    (k : ∀ L ys vs B' H', ys.Sublist (xs.filter p) → GD D B H B' H' → Dice D B' H' → H L = none → L ≠ D → B' L = none → H' L = some (.lst vs) → Rs R ys vs B' → Q (.ref L) H') : tLc wi (gName j) tt (tVar j) ws σ H Q := by
  refine hi B H (Gr.refl s) _ fun J B2 H2 vs g2 r w => fun L hL => ?_
  have bL := none_of_same g2.sub hL
  have dc2 := dc.grow g2
  have gd2 := dc.gd g2
  have neL : L ≠ D := dc2.ne hL
  have refl2 : GD D B2 H2 B2 H2 := dc2.gd (Gr.refl g2.sub)
  refine lc_it w (fun i H' => ∃ B' ys us, GD D B2 H2 B' H' ∧ Dice D B' H' ∧ B' L = none ∧ H' L = some (.lst us) ∧ Rs R ys us B' ∧ ys.Sublist ((xs.take i).filter p)) ?_ ?_ ?_ ?_
  · exact ⟨B2, [], [], refl2.put neL hL bL, dc2.put neL, bL, upd_same, True.intro, by simp⟩
  · rintro i H' _ ⟨B', ys, us, g', _⟩
    exact g'.bb.trans g'.sub
  · intro i x Ha H' hlt ⟨B', ys, us, g0, dc0, bL0, hL0, rs0, hy⟩ ⟨e0, hx⟩
    subst e0
    obtain ⟨z, hz, rz⟩ := (r.mn g0.bb).at hx
    refine ⟨hw x, ?_⟩
    have hfi := filter_take_succ (p := p) hz
    refine turn z x B' H' (List.mem_of_getElem? hz) (gd2.trans g0) dc0 rz _ fun b B3 H3 hb g3 dc3 => ?_
    obtain ⟨bL3, hL3⟩ := g3.own neL bL0 hL0 mo_lst
    have hyl : us.length ≤ 900000 := by
      rw [rs0.len]
      have h1 := hy.length_le
      have h2 : ((xs.take i).filter p).length ≤ (xs.take i).length := List.length_filter_le _ _
      have h3 : (xs.take i).length ≤ xs.length := by rw [List.length_take]; omega
      omega
    cases b with
    | true =>
      rw [if_pos rfl]
      refine ⟨x, hj x, us, hL3, szl (by omega), B3, ys ++ [z], us ++ [x], (g0.trans g3).put neL hL bL3, dc3.put neL, bL3, upd_same, (rs0.mn g3.bb).app (Rs.one (Mn.mn g3.bb rz)), ?_⟩
      rw [hfi, if_pos (hb rfl)]
      exact hy.append (List.Sublist.refl _)
    | false =>
      rw [if_neg (by decide)]
      refine ⟨B3, ys, us, g0.trans g3, dc3, bL3, hL3, rs0.mn g3.bb, ?_⟩
      rw [hfi]
      exact hy.trans (List.sublist_append_left _ _)
  · rintro H' ⟨B', ys, us, g0, dc0, bL0, hL0, rs0, hy⟩
    rw [List.take_length] at hy
    exact k L ys us B' H' hy (gd2.trans g0) dc0 (g2.hh.free hL) neL bL0 hL0 rs0
theorem s_lcD {α : Type} {R : α → VP} {xs : List α} [∀ x, Mn (R x)] {wi : TI} {tt : TT} {j : Nat} {ws : List Nat} {Z : Ends} (hi : EvI wi σ B H R xs) (dc : Dice D B H) (s : Same B H) (p : α → Bool) (hl : xs.length ≤ 900000) (hw : ∀ v, wipe ((wipe σ ws).set j (some v)) ws = wipe σ ws)
    (hj : ∀ v, ((wipe σ ws).set j (some v))[j]? = some (some v))
    (turn : ∀ x v B' H', x ∈ xs → GD D B H B' H' → Dice D B' H' → R x v B' → ∀ Q : Bool → Hp → Prop, (∀ b B2 H2, (b = true → p x = true) → GD D B' H' B2 H2 → Dice D B2 H2 → Q b H2) → tt ((wipe σ ws).set j (some v)) H' Q)
    (k : ∀ L ys vs B' H', ys.Sublist (xs.filter p) → GD D B H B' H' → Dice D B' H' → H L = none → L ≠ D → B' L = none → H' L = some (.lst vs) → Rs R ys vs B' → Z.nx (σ.set i (some (.ref L))) H') : tAsg (tLc wi (gName j) tt (tVar j) ws) (gName i) Z σ H :=
  go_lcD (Q := fun v H' => Z.nx (σ.set i (some v)) H') hi dc s p hl hw hj turn k
/-! ### ties, plain -/
def Conn (many : Nat) (ts : List (Nat × Nat)) : Prop := ∀ k, k < many → Rch (Adj ts) (· < many) 0 k
structure TieI (many : Nat) (pairs : List (Nat × Nat)) (ks : List Nat) (fs : List (Nat × Nat)) : Prop where
  nd : ks.Nodup
  z : 0 ∈ ks
  lt : ∀ x ∈ ks, x < many
  sub : ∀ p ∈ fs, p ∈ pairs
  fnd : fs.Nodup
  ends : ∀ p ∈ fs, p.1 ∈ ks ∧ p.2 ∈ ks
  rch : ∀ x ∈ ks, Rch (Adj fs) (· < many) 0 x
def fitL (pairs : List (Nat × Nat)) (ks : List Nat) : List (Nat × Nat) := pairs.filter fun p => !decide (decide (p.1 ∈ ks) = decide (p.2 ∈ ks))
def freshP (ks : List Nat) (q : Nat × Nat) : List Nat := [q.1, q.2].filter fun c => !decide (c ∈ ks)
section
variable {many : Nat} {pairs : List (Nat × Nat)} {ks : List Nat} {fs : List (Nat × Nat)} {q : Nat × Nat}
theorem TieI.start (h : 1 ≤ many) : TieI many pairs [0] [] := ⟨by simp, by simp, fun x hx => by rw [List.mem_singleton.mp hx]; omega, fun p h => absurd h (by simp), List.nodup_nil, fun p h => absurd h (by simp), fun x hx => by rw [List.mem_singleton.mp hx]; exact .refl⟩
theorem fresh_cases (hq : q ∈ fitL pairs ks) : q ∈ pairs ∧ ((q.1 ∈ ks ∧ q.2 ∉ ks ∧ freshP ks q = [q.2]) ∨ (q.2 ∈ ks ∧ q.1 ∉ ks ∧ freshP ks q = [q.1])) := by
  unfold fitL at hq
  obtain ⟨h1, h2⟩ := List.mem_filter.mp hq
  refine ⟨h1, ?_⟩
  unfold freshP
  by_cases a : q.1 ∈ ks <;> by_cases b : q.2 ∈ ks <;> simp [a, b] at h2 ⊢
theorem TieI.step (h : TieI many pairs ks fs) (hp : ∀ p ∈ pairs, p.1 < p.2 ∧ p.2 < many) (hq : q ∈ fitL pairs ks) : TieI many pairs (ks ++ freshP ks q) (fs ++ [q]) ∧ (ks ++ freshP ks q).length = ks.length + 1 := by
  obtain ⟨hm, hc⟩ := fresh_cases hq
  have lt := hp q hm
  have hqf : q ∉ fs := fun hf => by
    obtain ⟨h1, h2⟩ := h.ends q hf
    rcases hc with ⟨_, h3, _⟩ | ⟨_, h3, _⟩
    · exact h3 h2
    · exact h3 h1
  have up : ∀ a b, Adj fs a b → Adj (fs ++ [q]) a b := fun a b e => e.elim (fun e => .inl (by simp [e])) (fun e => .inr (by simp [e]))
  have sub : ∀ p ∈ fs ++ [q], p ∈ pairs := fun p hp => by
    rcases List.mem_append.mp hp with hp | hp
    · exact h.sub p hp
    · rw [List.mem_singleton.mp hp]; exact hm
  have fnd : (fs ++ [q]).Nodup := by
    rw [List.nodup_append]
    refine ⟨h.fnd, by simp, fun a ha b hb e => ?_⟩
    rw [List.mem_singleton.mp hb] at e
    exact hqf (e ▸ ha)
  rcases hc with ⟨h1, h2, e⟩ | ⟨h1, h2, e⟩ <;> rw [e]
  · refine ⟨⟨nodup_snoc h.nd h2, by simp [h.z], fun x hx => ?_, sub, fnd, fun p hp => ?_, fun x hx => ?_⟩, by simp⟩
    · rcases List.mem_append.mp hx with hx | hx
      · exact h.lt x hx
      · rw [List.mem_singleton.mp hx]; exact lt.2
    · rcases List.mem_append.mp hp with hp | hp
      · obtain ⟨h3, h4⟩ := h.ends p hp
        exact ⟨by simp [h3], by simp [h4]⟩
      · rw [List.mem_singleton.mp hp]; exact ⟨by simp [h1], by simp⟩
    · rcases List.mem_append.mp hx with hx | hx
      · exact (h.rch x hx).congr up
      · rw [List.mem_singleton.mp hx]
        exact .step ((h.rch q.1 h1).congr up) (.inl (by simp)) lt.2
  · refine ⟨⟨nodup_snoc h.nd h2, by simp [h.z], fun x hx => ?_, sub, fnd, fun p hp => ?_, fun x hx => ?_⟩, by simp⟩
    · rcases List.mem_append.mp hx with hx | hx
      · exact h.lt x hx
      · rw [List.mem_singleton.mp hx]; omega
    · rcases List.mem_append.mp hp with hp | hp
      · obtain ⟨h3, h4⟩ := h.ends p hp
        exact ⟨by simp [h3], by simp [h4]⟩
      · rw [List.mem_singleton.mp hp]; exact ⟨by simp, by simp [h1]⟩
    · rcases List.mem_append.mp hx with hx | hx
      · exact (h.rch x hx).congr up
      · rw [List.mem_singleton.mp hx]
        exact .step ((h.rch q.2 h1).congr up) (.inr (by simp)) (by omega)
theorem TieI.stuck (h : TieI many pairs ks fs) (hl : ks.length < many) (he : fitL pairs ks = []) : ¬ Conn many pairs := fun hc => by
  have all : ∀ k, Rch (Adj pairs) (· < many) 0 k → k ∈ ks := by
    intro k r
    induction r with
    | refl => exact h.z
    | @step b c _ e s ih =>
      refine Classical.byContradiction fun hn => ?_
      rcases e with e | e
      · have : (b, c) ∈ fitL pairs ks := List.mem_filter.mpr ⟨e, by simp [ih, hn]⟩
        rw [he] at this; simp at this
      · have : (c, b) ∈ fitL pairs ks := List.mem_filter.mpr ⟨e, by simp [ih, hn]⟩
        rw [he] at this; simp at this
  have := nodup_le (l := List.range many) (m := ks) List.nodup_range fun x hx => all x (hc x (List.mem_range.mp hx))
  rw [List.length_range] at this
  omega
theorem TieI.conn (h : TieI many pairs ks fs) (hl : ks.length = many) : Conn many fs := fun k hk => by
  refine h.rch k ?_
  refine Classical.byContradiction fun hn => ?_
  have := nodup_le (l := ks ++ [k]) (m := List.range many) (nodup_snoc h.nd hn) fun x hx => by
    rcases List.mem_append.mp hx with hx | hx
    · exact List.mem_range.mpr (h.lt x hx)
    · rw [List.mem_singleton.mp hx]; exact List.mem_range.mpr hk
  rw [List.length_append, List.length_range, List.length_singleton] at this
  omega
end
end
end Lw
/-! Ng: _law_drawn_ties. -/
namespace Lw
open PySem PySem.Spec PyProof.Rows L2
section
variable {P : Program} {w : World} {K : PySem.W.Frag} {mg : Str → Option Value} {base : Heap}
variable {B H B0 H0 B1 H1 B2 H2 B' H' : Hp} {σ : Slo} {te ta tb tl td tv tk : TE} {a C CB dx d D : Addr} {b : Bool} {x v : V} {m n i j k : Nat} {fs : List (Str × V)} {f kf : Str} {PV : VP} {ps ts : List (Nat × Nat)} {told : List (List Nat)}
theorem ev_listOfL {α : Type} {R : α → VP} {xs : List α} [∀ x, Mn (R x)] (h : Ev te σ B H (LO R xs)) : Ev (tCB (fun xs H Q => ∃ p ys, xs = [.ref p] ∧ (SqL K H p ys ∨ SqT K H p ys) ∧ ∀ l, H l = none → Q (.ref l) (upd H l (.lst ys))) (tCons te tNil)) σ B H (LO R xs) :=
  ev_cb (ea_c h ea_nil) fun vs B' H' g ⟨v, ws, e, ⟨p, us, e1, hp, r⟩, e2⟩ Q q => by
    cases e2; subst e e1
    exact ⟨p, _, rfl, .inl (SqL.of (g.sub _ _ hp)), fun a na => q _ (upd B' a (.lst us)) _ (Gr.new g.sub na) ⟨a, us, rfl, upd_same, r.mn (same_new (none_of_same g.sub na))⟩⟩
theorem ev_inMN {S : List Nat} {s : Nat} {neg : Bool} (ha : Ev ta σ B H (RX (vn s))) (hb : Ev tb σ B H (RX (.ref a))) (hl : H a = some (.lst (S.map vn))) : Ev (tOp (rIn K neg) ta tb) σ B H (RX (.bl (if neg then !decide (s ∈ S) else decide (s ∈ S)))) :=
  (ev_inM ha hb hl rfl (flat_vn S)).eq (by rw [inV_vn])
abbrev spDTies : Sp := fun vs H Q _ => ∃ B D many pu pairs, vs = [.ref D, vn many, pu] ∧ Dice D B H ∧ Same B H ∧ LO I2 pairs pu B ∧ pairs.Nodup ∧ (∀ p ∈ pairs, p.1 < p.2 ∧ p.2 < many) ∧ pairs.length ≤ 1000 ∧ 1 ≤ many ∧ many ≤ 30 ∧
  ∀ u B' H', GD D B H B' H' → Dice D B' H' → ((u = .non ∧ ¬ Conn many pairs) ∨ ∃ ts, PsOk many ts ∧ (∀ t ∈ ts, t ∈ pairs) ∧ Conn many ts ∧ TO I2 ts u B') → Q u H'
theorem sc__law_drawn_ties : FnScope ["_law_dice_here", "_law_many", "_law_pairs", "_law_left_here", "_law_found", "_law_known", "_law_turn", "_law_fitting", "_law_pair", "_law_content", "_law_more"] ["_law_dice_here", "_law_many", "_law_pairs"] (defScope (tp 56)) := ⟨rfl, rfl, rfl, by decide +kernel, rfl, by decide +kernel, by decide +kernel⟩
set_option maxHeartbeats 2000000 in
theorem ok_law_drawn_ties (Dd : Dn K mg "_law_drawn_ties" "_law_drawn_ties" (tp 56)) (T : Tx mg) (c__law_draw : Cal P w K mg base 1 "_law_draw" spDraw) : Cal P w K mg base 2 "_law_drawn_ties" spDTies := by
  refine cal_of Dd sc__law_drawn_ties (fun _ _ _ _ _ _ us hl => match us, hl with | [_, _, _], _ => rfl) (fun vs H Q E h => ?_) (fun cdv A outer s f H vs Q E hr h => ?_)
  · obtain ⟨B, D, many, pu, pairs, rfl, _⟩ := h
    rfl
  · obtain ⟨B0, D, many, pu, pairs, rfl, dc0, s0, hpu, hnd, hpp, hpl, hm1, hm, kk⟩ := h
    refine ⟨_, (pss_cons (ps_set (i := 3) sc__law_drawn_ties.nd rfl (.inl rfl) (pe_callTy (lstOf K) (by rfl) T.list (by decide +kernel) (pa_cons (pv 2) pa_nil)))
      (pss_cons (ps_set (i := 4) sc__law_drawn_ties.nd rfl (.inr rfl) (pe_lst pa_nil))
      (pss_cons (ps_set (i := 5) sc__law_drawn_ties.nd rfl (.inr rfl) (pe_lst (pa_cons pe_int pa_nil)))
      (pss_cons (ps_for PassesOwn.never rfl (pi_range1 rfl T.range (pa_cons (pe_op op_sub (pv 1) pe_int) pa_nil)) (pg_name (i := 6) sc__law_drawn_ties.nd rfl (.inl rfl))
        (pss_cons (ps_setLc (i := 7) (own := [("_law_pair", 8)]) rfl sc__law_drawn_ties.nd rfl rfl (sw_true rfl rfl rfl (by decide +kernel)) (piL K (pv 3)) (blkOk_by (by kernel_rfl)) (fun _ _ _ _ _ => (pg_name (i := 8) sc__law_drawn_ties.nd rfl (.inl rfl))) (fun _ _ _ _ _ => (pts_one (pt_cmpR op_ne (pe_cmpR (inS K) (pe_ix (ixT K) (pv 8) pe_int (fun _ _ => rfl)) (pv 5) rfl) (pe_cmpR (inS K) (pe_ix (ixT K) (pv 8) pe_int (fun _ _ => rfl)) (pv 5) rfl) (nomark _)))) (fun _ _ _ _ _ => (pv 8)))
        (pss_cons (ps_if (pt_cmpR op_eq (pe_callB (lenS K) (by rfl) T.len PySem.boot_len (pa_cons (pv 7) pa_nil)) pe_int (nomark _)) (pss_one (ps_ret pe_non)) pss_nil)
        (pss_cons (ps_set (i := 8) sc__law_drawn_ties.nd rfl (.inl rfl) (pe_ix (ixL K) (pv 7) (pe_k c__law_draw hr (by decide) rfl (pa_cons (pv 0) (pa_cons (pe_callB (lenS K) (by rfl) T.len PySem.boot_len (pa_cons (pv 7) pa_nil)) pa_nil))) (fun _ _ => rfl)))
        (pss_cons (ps_expr (bmK K PySem.F.plainAttrs_list PySem.F.slot_list_extend PySem.F.type_list_extend mt_extend (pv 5) (pa_cons (pe_lc (own := [("_law_content", 9)]) rfl sc__law_drawn_ties.nd (piT K (pv 8)) (blkOk_by (by kernel_rfl)) (fun _ _ _ _ _ => (pg_name (i := 9) sc__law_drawn_ties.nd rfl (.inl rfl))) (fun _ _ _ _ _ => (pts_one (pt_cmpR (notInS K) (pv 9) (pv 5) rfl))) (fun _ _ _ _ _ => (pv 9))) pa_nil)))
        (pss_one (ps_expr (bmK K PySem.F.plainAttrs_list PySem.F.slot_list_append PySem.F.type_list_append mt_append (pv 4) (pa_cons (pv 8) pa_nil)))))))))
      (pss_cons (ps_setLc (i := 10) (own := [("_law_pair", 8)]) rfl sc__law_drawn_ties.nd rfl rfl (sw_true rfl rfl rfl (by decide +kernel)) (piL K (pv 3)) (blkOk_by (by kernel_rfl)) (fun _ _ _ _ _ => (pg_name (i := 8) sc__law_drawn_ties.nd rfl (.inl rfl))) (fun _ _ _ _ _ => (pts_one (PW.pt (pw_and (pt_cmpR (notInD K (Room.units65 hr)) (pv 8) (pv 4) rfl) (pw_and1 (pt_cmpR op_eq (pe_k c__law_draw hr (by decide) rfl (pa_cons (pv 0) (pa_cons pe_int pa_nil))) pe_int (nomark _))))))) (fun _ _ _ _ _ => (pv 8)))
      (pss_one (ps_ret (pe_callTy (tupOf K) (by rfl) T.tuple (by decide +kernel) (pa_cons (pe_callB (srtP K) (by rfl) T.sorted (by decide +kernel) (pa_cons (pe_op op_cat (pv 4) (pv 10)) pa_nil)) pa_nil))))))))), ?_⟩
    refine s_asg (D := { nx := _, rt := _ }) (P := LO I2 pairs) (ev_listOfL (ev_var 2 rfl hpu)) s0 fun lv B1 H1 g1 hlv => ?_
    refine s_asgM (D := { nx := _, rt := _ }) (em_lst (xs := []) ea_nil) g1.sub fun F vs B2 H2 g2 nF bF hF e => ?_
    cases e
    refine s_asgM (D := { nx := _, rt := _ }) (em_lst (xs := [vn 0]) (ea_x ev_c ea_nil)) g2.sub fun M vs B3 H3 g3 nM bM hM e => ?_
    cases e
    obtain ⟨bF3, hF3⟩ := g3.own bF hF mo_lst
    have nFM : F ≠ M := ne_of_none hF nM
    have dc1 := dc0.grow g1
    have neF : F ≠ D := dc1.ne nF
    have neM : M ≠ D := (dc1.grow g2).ne nM
    have nF0 : H F = none := g1.hh.free nF
    have nM0 : H M = none := (g1.trans g2).hh.free nM
    have gd3 : GD D B0 H B3 H3 := ((dc0.gd g1).trans (dc1.gd g2)).trans ((dc1.grow g2).gd g3)
    have dc3 := (dc1.grow g2).grow g3
    have hlv3 : LO I2 pairs lv B3 := Mn.mn (g2.bb.trans g3.bb) hlv
    refine s_for (D := { nx := _, rt := _ }) (ei_rng1 (B := B3) (n := many - 1) (ea_x (ev_subN (evx 1 rfl) ev_1 hm1) ea_nil) (by omega)) g3.sub (fun i σ B' H' => ∃ x6 x7 x8 ks fs us, σ = [some (.ref D), some (vn many), some pu, some lv, some (.ref F), some (.ref M), x6, x7, x8, none, none] ∧ GD D B0 H B' H' ∧ Dice D B' H' ∧ Same B3 B' ∧ B' F = none ∧ H' F = some (.lst us) ∧ Rs I2 fs us B' ∧ B' M = none ∧ H' M = some (.lst (ks.map vn)) ∧ TieI many pairs ks fs ∧ ks.length = 1 + i ∧ fs.length ≤ i)
      (fun B' H' g => ?_) (fun i t tv σ B4 H4 hi s4 => ?_) (fun σ B4 H4 s4 => ?_)
    · exact ⟨_, _, _, [0], [], [], rfl, gd3.trans (dc3.gd g), dc3.grow g, g.bb, (g.own bF3 hF3 mo_lst).1, g.hh _ _ hF3, True.intro, (g.own bM hM mo_lst).1, g.hh _ _ hM, TieI.start hm1, rfl, Nat.le_refl _⟩
    · rintro ⟨x6, x7, x8, ks, fs, us, rfl, gd, dc, sb, bF, hF, rs, bM, hM, ti, hkl, hfl⟩ e
      cases e
      have him : i < many - 1 := by
        have := (List.getElem?_eq_some_iff.mp hi).1
        rw [List.length_range] at this; exact this
      have hlv4 : LO I2 pairs lv B4 := Mn.mn sb hlv3
      have hfit : (fitL pairs ks).length ≤ pairs.length := List.length_filter_le _ _
      refine s_asg (P := LO I2 (fitL pairs ks)) ((em_lcN (R := I2) (R' := I2) (ei_list (ev_var 3 rfl hlv4)) (fun p => !decide (decide (p.1 ∈ ks) = decide (p.2 ∈ ks))) id (by omega) (fun _ => rfl) fun p pv' B' H' hmp g hp => ⟨?_, fun _ => ev_var 8 rfl hp⟩).lo.imp fun v B' _ h => id_lo h) s4 fun fv B5 H5 g5 hfv => ?_
      · refine et_val ((ev_ne (ev_inMN (neg := false) (ev_ixVT (i := 0) (v := vn p.1) (ev_var 8 rfl hp) ev_0 rfl) (evx 5 rfl) (g.hh _ _ hM)) (ev_inMN (neg := false) (ev_ixVT (i := 1) (v := vn p.2) (ev_var 8 rfl hp) ev_1 rfl) (evx 5 rfl) (g.hh _ _ hM)) rfl).eq ?_)
        by_cases a : p.1 ∈ ks <;> by_cases b : p.2 ∈ ks <;> simp [a, b]
      · have dc5 := dc.grow g5
        have gd5 := gd.trans (dc.gd g5)
        obtain ⟨bF5, hF5⟩ := g5.own bF hF mo_lst
        obtain ⟨bM5, hM5⟩ := g5.own bM hM mo_lst
        refine s_if (b := decide ((fitL pairs ks).length = 0)) (et_val (ev_eqN (ev_len (ev_var 7 rfl hfv) (pn_LO rfl)) ev_0)) g5.sub (fun e B6 H6 g6 => ?_) (fun e B6 H6 g6 => ?_)
        · have e := List.eq_nil_of_length_eq_zero (of_decide_eq_true e)
          exact kk .non B6 H6 (gd5.trans (dc5.gd g6)) (dc5.grow g6) (.inl ⟨rfl, ti.stuck (by omega) e⟩)
        · have e := of_decide_eq_false e
          have dc6 := dc5.grow g6
          obtain ⟨bF6, hF6⟩ := g6.own bF5 hF5 mo_lst
          obtain ⟨bM6, hM6⟩ := g6.own bM5 hM5 mo_lst
          have hfv6 : LO I2 (fitL pairs ks) fv B6 := Mn.mn g6.bb hfv
          refine s_ixdraw (j := 7) (R := I2) dc6 g6.sub rfl hfv6 (evx 0 rfl) (ev_len (ev_var 7 rfl hfv6) (pn_LO rfl)) (by omega) (by omega) fun r q qv B7 H7 hq g7 dc7 hqv => ?_
          have hqf := List.mem_of_getElem? hq
          obtain ⟨ti', hkl'⟩ := ti.step hpp hqf
          obtain ⟨bF7, hF7⟩ := g7.own neF bF6 hF6 mo_lst
          obtain ⟨bM7, hM7⟩ := g7.own neM bM6 hM6 mo_lst
          have gd7 := (gd5.trans (dc5.gd g6)).trans g7
          have hfr : (freshP ks q).length ≤ 2 := by unfold freshP; exact List.length_filter_le _ _
          refine s_ext (R := fun s => RX (vn s)) (xs := freshP ks q) (evx 5 rfl) ((em_lcN (R := fun s => RX (vn s)) (R' := fun s => RX (vn s)) (ei_VT (f := vn) (xs := [q.1, q.2]) (ev_var 8 rfl hqv)) (fun c => !decide (c ∈ ks)) id (by simp) (fun _ => rfl) fun c cv B8 H8 hmc g8 hc => ⟨?_, fun _ => ?_⟩).lo.imp fun v B' _ h => id_lo h) g7.sub hM7 (by rw [List.length_map]; omega) fun ws B8 H8 g8 hM8 rws => ?_
          · cases hc
            exact et_val (ev_inMN (neg := true) (evx 9 rfl) (evx 5 rfl) (g8.hh _ _ hM7))
          · cases hc
            exact evx 9 rfl
          · have ew := Rs.vals (f := vn) rws
            subst ew
            obtain ⟨bM8, _⟩ := g8.own bM7 hM7 mo_lst
            obtain ⟨bF8, hF8⟩ := g8.own bF7 hF7 mo_lst
            have dc8 := dc7.grow g8
            have gd8 := (gd7.trans (dc7.gd g8)).put (o := .lst (ks.map vn ++ (freshP ks q).map vn)) neM nM0 bM8
            have dc8' := dc8.put (o := .lst (ks.map vn ++ (freshP ks q).map vn)) neM
            have s48 : Same B4 B8 := ((g5.bb.trans g6.bb).trans g7.bb).trans g8.bb
            refine s_app (P := I2 q) (evx 4 rfl) (ev_var 8 rfl (Mn.mn g8.bb hqv)) gd8.sub (by rw [upd_ne nFM]; exact hF8) (by rw [rs.len]; omega) fun v9 B9 H9 g9 h9 p9 => ?_
            obtain ⟨bF9, _⟩ := g9.own bF8 (by rw [upd_ne nFM]; exact hF8) mo_lst
            obtain ⟨bM9, hM9⟩ := g9.own bM8 upd_same mo_lst
            have gd9 := (gd8.trans (dc8'.gd g9)).put (o := .lst (us ++ [v9])) neF nF0 bF9
            have s49 := s48.trans g9.bb
            refine ⟨B9, s49, gd9.sub, _, _, _, ks ++ freshP ks q, fs ++ [q], us ++ [v9], rfl, gd9, (dc8'.grow g9).put neF, sb.trans s49, bF9, upd_same, (rs.mn s49).app (Rs.one p9), bM9, ?_, ti', by omega, by rw [List.length_append]; simp; omega⟩
            rw [upd_ne nFM.symm, hM9, List.map_append]
    · rintro ⟨x6, x7, x8, ks, fs, us, rfl, gd, dc, sb, bF, hF, rs, bM, hM, ti, hkl, hfl⟩
      rw [List.length_range] at hkl hfl
      have hconn := ti.conn (by omega)
      have hlv4 : LO I2 pairs lv B4 := Mn.mn sb hlv3
      refine s_lcD (Z := { nx := _, rt := _ }) (R := I2) (xs := pairs) (ei_list (ev_var 3 rfl hlv4)) dc s4 (fun p => !decide (p ∈ fs)) (by omega) (fun _ => rfl) (fun _ => rfl) (fun p pv' B5 H5 hmp g5 dc5 hp Q' k' => ?_) fun L ys vs B5 H5 hys g5 dc5 nL neL bL hL r5 => ?_
      · obtain ⟨bF5, hF5⟩ := g5.own neF bF hF mo_lst
        refine (et_B (ev_notInP (ev_var 8 rfl hp) (evx 4 rfl) hF5 (rs.mn g5.bb))).go g5.sub fun B6 H6 g6 => ?_
        have gd6 := dc5.gd g6
        have dc6 := dc5.grow g6
        by_cases hpf : p ∈ fs
        · rw [decide_eq_true hpf]
          exact k' false B6 H6 (fun h => absurd h (by decide)) gd6 dc6
        · rw [decide_eq_false hpf]
          refine go_draw (k := 2) dc6 g6.sub (evx 0 rfl) ev_c (by omega) (by omega) fun r B7 H7 hr g7 dc7 => ?_
          exact ⟨rfl, _, rfl, k' _ B7 H7 (fun _ => by rw [decide_eq_false hpf]; rfl) (gd6.trans g7) dc7⟩
      · obtain ⟨bF5, hF5⟩ := g5.own neF bF hF mo_lst
        have nL0 : H L = none := gd.free neL nL
        have nLF : L ≠ F := (ne_of_none hF nL).symm
        have gd5 := gd.trans g5
        have gs1 := gd5.settle neF nF0 bF5 hF5
        have dcs1 := dc5.settle (o := .lst us) neF bF5
        have bL1 : upd B5 F (.lst us) L = none := by rw [upd_ne nLF]; exact bL
        have gs2 := gs1.settle neL nL0 bL1 hL
        have dcs2 := dcs1.settle (o := .lst vs) neL bL1
        have s1 := same_new (o := .lst us) bF5
        have s2 := same_new (o := .lst vs) bL1
        have hFv : LO I2 fs (.ref F) (upd (upd B5 F (.lst us)) L (.lst vs)) := ⟨F, us, rfl, s2 _ _ upd_same, (rs.mn g5.bb).mn (s1.trans s2)⟩
        have hLv : LO I2 ys (.ref L) (upd (upd B5 F (.lst us)) L (.lst vs)) := ⟨L, vs, rfl, upd_same, r5.mn (s1.trans s2)⟩
        have hyl : ys.length ≤ 1000 := by
          have h1 := hys.length_le
          have h2 : (pairs.filter fun p => !decide (p ∈ fs)).length ≤ pairs.length := List.length_filter_le _ _
          omega
        have hyp : ∀ p ∈ ys, p ∈ pairs ∧ p ∉ fs := fun p hp => by
          obtain ⟨h1, h2⟩ := List.mem_filter.mp (hys.subset hp)
          exact ⟨h1, by simpa using h2⟩
        refine s_ret (D := { nx := _, rt := _ }) (ev_tupSrt (ev_sortP (ev_catL (R := I2) (ev_var 4 rfl hFv) (ev_var 10 rfl hLv) (by omega)))) gs2.sub fun w B6 H6 g6 ⟨ts, pm, asc, hts⟩ => ?_
        have nd : (fs ++ ys).Nodup := by
          rw [List.nodup_append]
          refine ⟨ti.fnd, (hnd.filter _).sublist hys, fun a ha b hb e => ?_⟩
          subst e
          exact (hyp a hb).2 ha
        have hsub : ∀ t ∈ ts, t ∈ pairs := fun t ht => by
          rcases List.mem_append.mp (pm.mem_iff.mp ht) with h | h
          · exact ti.sub t h
          · exact (hyp t h).1
        refine kk w B6 H6 (gs2.trans (dcs2.gd g6)) (dcs2.grow g6) (.inr ⟨ts, ⟨asc nd, fun p hp => hpp p (hsub p hp)⟩, hsub, fun k hk => (hconn k hk).congr fun a b e => ?_, hts⟩)
        exact e.elim (fun e => .inl (pm.mem_iff.mpr (List.mem_append.mpr (.inl e)))) (fun e => .inr (pm.mem_iff.mpr (List.mem_append.mpr (.inl e))))
end
end Lw
/-! Nh: the case, plain. -/
namespace Lw
section
variable {n many : Nat} {ps ts : List (Nat × Nat)} {os : List (Option Nat)}
def landOf (n : Nat) (os : List (Option Nat)) (c : Nat) : List Nat := (List.range n).filter fun s => decide (own os s = some c)
def landsOf (n many : Nat) (os : List (Option Nat)) : List (List Nat) := (List.range many).map (landOf n os)
theorem mem_landOf {c s : Nat} (h : os.length = n) : s ∈ landOf n os c ↔ own os s = some c := by
  unfold landOf
  rw [List.mem_filter, List.mem_range, decide_eq_true_iff]
  exact ⟨fun z => z.2, fun e => ⟨own_lt h e, e⟩⟩
theorem landsOf_get {i : Nat} {l : List Nat} (h : (landsOf n many os)[i]? = some l) : i < many ∧ l = landOf n os i := by
  unfold landsOf at h
  rw [List.getElem?_map] at h
  cases e : (List.range many)[i]? with
  | none => rw [e] at h; cases h
  | some k =>
    rw [e] at h
    obtain ⟨h1, h2⟩ := List.getElem?_eq_some_iff.mp e
    rw [List.getElem_range] at h2
    rw [List.length_range] at h1
    subst h2
    exact ⟨h1, (Option.some.inj h).symm⟩
theorem landsOf_at {i : Nat} (h : i < many) : (landsOf n many os)[i]? = some (landOf n os i) := by
  unfold landsOf
  rw [List.getElem?_map, List.getElem?_range h]; rfl
theorem told_of (h : OwnOk n ps many os) : Told n ps (landsOf n many os) := by
  refine ⟨fun l hl => ?_, fun i j li lj s hi hj h1 h2 => ?_, fun l hl x hx y hy => ?_⟩
  · obtain ⟨i, hi⟩ := List.getElem?_of_mem hl
    obtain ⟨him, rfl⟩ := landsOf_get hi
    refine ⟨fun e => ?_, fun s hs => ?_, List.Pairwise.filter _ List.pairwise_lt_range⟩
    · obtain ⟨s, hs, eo⟩ := h.ex i him
      have := (mem_landOf (os := os) h.len).mpr eo
      rw [e] at this; simp at this
    · exact own_lt h.len ((mem_landOf h.len).mp hs)
  · obtain ⟨_, rfl⟩ := landsOf_get hi
    obtain ⟨_, rfl⟩ := landsOf_get hj
    have e1 := (mem_landOf h.len).mp h1
    have e2 := (mem_landOf h.len).mp h2
    rw [e1] at e2
    exact Option.some.inj e2
  · obtain ⟨i, hi⟩ := List.getElem?_of_mem hl
    obtain ⟨_, rfl⟩ := landsOf_get hi
    exact (h.con x y i ((mem_landOf h.len).mp hx) ((mem_landOf h.len).mp hy)).mono fun z hz => (mem_landOf h.len).mpr hz
theorem tch_some {x y : Option Nat} {p : Nat × Nat} (h : tch x y = some p) : p.1 < p.2 ∧ ((x = some p.1 ∧ y = some p.2) ∨ (x = some p.2 ∧ y = some p.1)) := by
  cases x with
  | none => cases h
  | some a =>
    cases y with
    | none => cases h
    | some b =>
      have h : (if a = b then none else some (min a b, max a b)) = some p := h
      by_cases e : a = b
      · rw [if_pos e] at h; cases h
      · rw [if_neg e] at h
        cases h
        refine ⟨by show min a b < max a b; omega, ?_⟩
        by_cases hab : a < b
        · left
          exact ⟨congrArg some (by show a = min a b; omega), congrArg some (by show b = max a b; omega)⟩
        · right
          exact ⟨congrArg some (by show a = max a b; omega), congrArg some (by show b = min a b; omega)⟩
theorem mem_tchs {p : Nat × Nat} : p ∈ tchs os ps ↔ ∃ q ∈ ps, tch (own os q.1) (own os q.2) = some p := by
  unfold tchs
  rw [List.mem_filterMap]
theorem pairs_ok (h : OwnOk n ps many os) {p : Nat × Nat} (hp : p ∈ tchs os ps) : p.1 < p.2 ∧ p.2 < many := by
  obtain ⟨q, hq, e⟩ := mem_tchs.mp hp
  obtain ⟨h1, h2⟩ := tch_some e
  refine ⟨h1, ?_⟩
  rcases h2 with ⟨_, h2⟩ | ⟨h2, _⟩
  · exact h.lt _ _ h2
  · exact h.lt _ _ h2
theorem ties_of (h : OwnOk n ps many os) (hs : ∀ t ∈ ts, t ∈ tchs os ps) : TiesOk ps (landsOf n many os) ts := fun t ht => by
  have hp := hs t ht
  obtain ⟨h1, h2⟩ := pairs_ok h hp
  obtain ⟨q, hq, e⟩ := mem_tchs.mp hp
  obtain ⟨_, h3⟩ := tch_some e
  rcases h3 with ⟨ea, eb⟩ | ⟨ea, eb⟩
  · exact ⟨_, _, q.1, q.2, landsOf_at (by omega), landsOf_at h2, (mem_landOf h.len).mpr ea, (mem_landOf h.len).mpr eb, .inl hq⟩
  · exact ⟨_, _, q.2, q.1, landsOf_at (by omega), landsOf_at h2, (mem_landOf h.len).mpr eb, (mem_landOf h.len).mpr ea, .inr hq⟩
/-- where all is owned, the contents hang together -/
theorem conn_of (h : OwnOk n ps many os) (ht : Tree n ps) (hall : ∀ s, s < n → own os s ≠ none) (hn : 1 ≤ n) {pairs : List (Nat × Nat)} (hp : ∀ p, p ∈ tchs os ps → p ∈ pairs) : Conn many pairs := by
  have adj : ∀ s t a b, Adj ps s t → own os s = some a → own os t = some b → a ≠ b → Adj pairs a b := fun s t a b e ea eb ne => by
    have key : ∀ s t a b, (s, t) ∈ ps → own os s = some a → own os t = some b → a ≠ b → Adj pairs a b := fun s t a b e ea eb ne => by
      have m : (min a b, max a b) ∈ tchs os ps := mem_tchs.mpr ⟨(s, t), e, by show tch (own os s) (own os t) = _; rw [ea, eb]; exact if_neg ne⟩
      have m' := hp _ m
      by_cases hab : a < b
      · have e1 : min a b = a := by omega
        have e2 : max a b = b := by omega
        rw [e1, e2] at m'
        exact .inl m'
      · have e1 : min a b = b := by omega
        have e2 : max a b = a := by omega
        rw [e1, e2] at m'
        exact .inr m'
    rcases e with e | e
    · exact key s t a b e ea eb ne
    · exact Adj.symm _ _ (key t s b a e eb ea fun z => ne z.symm)
  obtain ⟨c0, hc0⟩ : ∃ c0, own os 0 = some c0 := by
    cases e : own os 0 with
    | none => exact absurd e (hall 0 (by omega))
    | some c => exact ⟨c, rfl⟩
  have reach : ∀ s, s < n → ∀ c, own os s = some c → Rch (Adj pairs) (· < many) c0 c := by
    intro s
    induction s using Nat.strongRecOn with
    | ind s ih =>
      intro hs c hc
      by_cases h0 : s = 0
      · subst h0
        rw [hc0] at hc; cases hc; exact .refl
      · obtain ⟨a, ha, hm⟩ := ht s (by omega) hs
        cases ea : own os a with
        | none => exact absurd ea (hall a (by omega))
        | some ca =>
          have r := ih a ha (by omega) ca ea
          by_cases e : ca = c
          · subst e; exact r
          · exact .step r (adj a s ca c (.inl hm) ea hc e) (h.lt s c hc)
  intro k hk
  obtain ⟨s0, hs0, e0⟩ := h.ex 0 (by omega)
  obtain ⟨sk, hsk, ek⟩ := h.ex k hk
  exact ((reach s0 hs0 0 e0).symm Adj.symm (h.lt 0 c0 hc0)).trans (reach sk hsk k ek)
end
end Lw
/-! Ni: _law_case. -/
namespace Lw
open PySem PySem.Spec PyProof.Rows L2
section
variable {P : Program} {w : World} {K : PySem.W.Frag} {mg : Str → Option Value} {base : Heap}
variable {B H B0 H0 B1 H1 B2 H2 B' H' : Hp} {σ : Slo} {te ta tb tl td tv tk : TE} {a C CB dx d D : Addr} {b : Bool} {x v : V} {m n i j k : Nat} {fs : List (Str × V)} {f kf : Str} {PV : VP} {ps ts : List (Nat × Nat)} {told : List (List Nat)}
/-- name = 1 + draw -/
theorem s_1draw {E : XK} {Z : Ends} (dc : Dice D B H) (s : Same B H) (hd : Ev td σ B H (RX (.ref D))) (hk : Ev tk σ B H (RX (vn k))) (h1 : 1 ≤ k) (h2 : k ≤ 1000)
    (kk : ∀ r B' H', r < k → GD D B H B' H' → Dice D B' H' → Z.nx (σ.set i (some (vn (1 + r)))) H') : tAsg (tOp (rI0 fun i j => .int (i + j)) (tC (.int 1)) (tCall spDraw [] E (tCons td (tCons tk tNil)))) (gName i) Z σ H :=
  go_draw (Q := fun v H' => ∃ i' j' : Int, V.int 1 = .int i' ∧ v = .int j' ∧ Z.nx (σ.set i (some (.int (i' + j')))) H') dc s hd hk h1 h2 fun r B' H' hr gd dc' => ⟨1, (r : Int), rfl, rfl, by
    have e : ((1 : Int) + (r : Int)) = ((1 + r : Nat) : Int) := by omega
    rw [e]; exact kk r B' H' hr gd dc'⟩
theorem s_dweb {E : XK} {Z : Ends} (dc : Dice D B H) (s : Same B H) (hd : Ev td σ B H (RX (.ref D))) (hk : Ev tk σ B H (RX (vn n))) (h1 : 1 ≤ n) (h2 : n ≤ 30)
    (kk : ∀ u B' H' ps, GD D B H B' H' → Dice D B' H' → PsOk n ps → Tree n ps → TO I2 ps u B' → Z.nx (σ.set i (some u)) H') : tAsg (tCall spDWeb [] E (tCons td (tCons tk tNil))) (gName i) Z σ H :=
  go_call (Q := fun v H' => Z.nx (σ.set i (some v)) H') (ea_x hd (ea_x hk ea_nil)) s fun vs B1 H1 g e => by
    cases e
    exact ⟨B1, D, n, rfl, dc.grow g, g.sub, h1, h2, fun u B' H' ps gd dc' hp ht hu => kk u B' H' ps ((dc.gd g).trans gd) dc' hp ht hu⟩
/-- owners = _law_owners(dice, rows, many, turns), the turns known -/
theorem s_owners {E : XK} {Z : Ends} {tr tm tt : TE} {rows : List (List Nat)} {r : V} {many turns : Nat} (dc : Dice D B H) (s : Same B H) (hd : Ev td σ B H (RX (.ref D))) (hr : Ev tr σ B H (RX r)) (hm : Ev tm σ B H (RX (vn many))) (ht : Ev tt σ B H (RX (vn turns)))
    (rv : LO (fun r => IL r) rows r B) (ro : RowsOk n ps rows) (hp : PsOk n ps) (tree : Tree n ps) (h1 : 1 ≤ many) (h2 : many ≤ n) (h3 : n ≤ 30) (h4 : turns ≤ n)
    (kk : ∀ u B' H' os, GD D B H B' H' → Dice D B' H' → OwnOk n ps many os → (turns = n → ∀ s, s < n → own os s ≠ none) → OL os u B' → Z.nx (σ.set i (some u)) H') : tAsg (tCall spOwners [] E (tCons td (tCons tr (tCons tm (tCons tt tNil))))) (gName i) Z σ H :=
  go_call (Q := fun v H' => Z.nx (σ.set i (some v)) H') (ea_x hd (ea_x hr (ea_x hm (ea_x ht ea_nil)))) s fun vs B1 H1 g e => by
    cases e
    exact ⟨B1, D, n, ps, rows, r, many, turns, rfl, dc.grow g, g.sub, Mn.mn g.bb rv, ro, hp, tree, h1, h2, h3, h4, fun u B' H' os gd dc' ho ha hu => kk u B' H' os ((dc.gd g).trans gd) dc' ho ha hu⟩
/-- ties = _law_drawn_ties(dice, many, _law_touching(owners, pushes)) -/
theorem s_ties {E E' : XK} {Z : Ends} {tm tu tp' : TE} {os : List (Option Nat)} {u p : V} {many : Nat} (dc : Dice D B H) (s : Same B H) (hd : Ev td σ B H (RX (.ref D))) (hm : Ev tm σ B H (RX (vn many))) (hu : Ev tu σ B H (RX u)) (hp' : Ev tp' σ B H (RX p))
    (ov : OL os u B) (pv' : TO I2 ps p B) (hp : PsOk n ps) (oo : OwnOk n ps many os) (h1 : 1 ≤ many) (h2 : many ≤ n) (h3 : n ≤ 30)
    (kk : ∀ u B' H', GD D B H B' H' → Dice D B' H' → ((u = .non ∧ ¬ ∃ pairs : List (Nat × Nat), (∀ p, p ∈ tchs os ps → p ∈ pairs) ∧ (∀ p ∈ pairs, p ∈ tchs os ps) ∧ Conn many pairs) ∨ ∃ ts, PsOk many ts ∧ (∀ t ∈ ts, t ∈ tchs os ps) ∧ Conn many ts ∧ TO I2 ts u B') → Z.nx (σ.set i (some u)) H') :
    tAsg (tCall spDTies [] E (tCons td (tCons tm (tCons (tCall spLTouching [] E' (tCons tu (tCons tp' tNil))) tNil)))) (gName i) Z σ H :=
  go_call (Q := fun v H' => Z.nx (σ.set i (some v)) H') (ea_c hd (ea_c hm (ea_c (P := SrtV (insPs (tchs os ps)) fun ks' => LO I2 ks') (ev_call (ea_c (P := OL os) (hu.imp fun v B' s e => by cases e; exact Mn.mn s ov) (ea_c (P := TO I2 ps) (hp'.imp fun v B' s e => by cases e; exact Mn.mn s pv') ea_nil)) fun vs B' s' hvs => by
    obtain ⟨u', _, rfl, hu', t', _, rfl, ht', rfl⟩ := hvs
    exact ⟨u', t', n, ps, os, rfl, hu', ht', hp, oo.len, hp.le1000 h3, by omega, rfl⟩) ea_nil))) s fun vs B1 H1 g e => by
    obtain ⟨_, _, rfl, rfl, _, _, rfl, rfl, w', _, rfl, ⟨ks', pm, _, hk⟩, rfl⟩ := e
    have hmem : ∀ p, p ∈ ks' ↔ p ∈ tchs os ps := fun p => by rw [pm.mem_iff, mem_insPs]
    have hlen : ks'.length ≤ 1000 := by
      rw [pm.length_eq]
      exact Nat.le_trans (insPs_len _) (Nat.le_trans (tchs_len os ps) (hp.le1000 h3))
    refine ⟨B1, D, many, w', ks', rfl, dc.grow g, g.sub, hk, pm.nodup_iff.mpr (insPs_nodup _), fun p hp => pairs_ok oo ((hmem p).mp hp), hlen, h1, by omega, fun u B' H' gd dc' hres => ?_⟩
    refine kk u B' H' ((dc.gd g).trans gd) dc' ?_
    rcases hres with ⟨e, hn⟩ | ⟨ts, h1, h2, h3, h4⟩
    · refine .inl ⟨e, fun ⟨pairs, h5, h6, h7⟩ => hn fun k hk => (h7 k hk).congr fun a b e => ?_⟩
      exact e.elim (fun e => .inl ((hmem _).mpr (h6 _ e))) (fun e => .inr ((hmem _).mpr (h6 _ e)))
    · exact .inr ⟨ts, h1, fun t ht => (hmem t).mp (h2 t ht), h3, h4⟩
/-- what a case is, as a value -/
def CaseV (n : Nat) (ps : List (Nat × Nat)) (m : Nat) (ts : List (Nat × Nat)) (told : List (List Nat)) : VP := fun v B => ∃ a p t u, v = .ref a ∧ B a = some (.tup [vn n, p, vn m, t, u]) ∧ TO I2 ps p B ∧ TO I2 ts t B ∧ TO (fun l => IT l) told u B
instance : Mn (CaseV n ps m ts told) := ⟨fun s ⟨a, p, t, u, e, h, k1, k2, k3⟩ => ⟨a, p, t, u, e, s _ _ h, Mn.mn s k1, Mn.mn s k2, Mn.mn s k3⟩⟩
abbrev spCase : Sp := fun vs H Q _ => ∃ B D most contents, vs = [.ref D, vn most, vn contents] ∧ Dice D B H ∧ Same B H ∧ 1 ≤ most ∧ most ≤ 30 ∧ 1 ≤ contents ∧ contents ≤ 6 ∧
  ∀ u B' H' n ps m ts told, GD D B H B' H' → Dice D B' H' → CaseOk n ps m ts told → CaseV n ps m ts told u B' → Q u H'
theorem sc__law_case : FnScope ["_law_dice_here", "_law_most", "_law_contents", "_law_size", "_law_many", "_law_pushes", "_law_rows_here", "_law_owners_here", "_law_ties", "_law_told", "_law_content", "_law_standing"] ["_law_dice_here", "_law_most", "_law_contents"] (defScope (tp 57)) := ⟨rfl, rfl, rfl, by decide +kernel, rfl, by decide +kernel, by decide +kernel⟩
set_option maxHeartbeats 2000000 in
theorem ok_law_case (Dd : Dn K mg "_law_case" "_law_case" (tp 57)) (T : Tx mg) (c__law_draw : Cal P w K mg base 1 "_law_draw" spDraw) (c__law_drawn_web : Cal P w K mg base 2 "_law_drawn_web" spDWeb) (c__law_rows : Cal P w K mg base 1 "_law_rows" spLawRows)
    (c__law_owners : Cal P w K mg base 2 "_law_owners" spOwners) (c__law_touching : Cal P w K mg base 1 "_law_touching" spLTouching) (c__law_drawn_ties : Cal P w K mg base 2 "_law_drawn_ties" spDTies) : Cal P w K mg base 3 "_law_case" spCase := by
  refine cal_of Dd sc__law_case (fun _ _ _ _ _ _ us hl => match us, hl with | [_, _, _], _ => rfl) (fun vs H Q E h => ?_) (fun cdv A outer s f H vs Q E hr h => ?_)
  · obtain ⟨B, D, most, contents, rfl, _⟩ := h
    rfl
  · obtain ⟨B0, D, most, contents, rfl, dc0, s0, hm1, hm2, hc1, hc2, kk⟩ := h
    refine ⟨_, (pss_cons (ps_set (i := 3) sc__law_case.nd rfl (.inl rfl) (pe_op op_add pe_int (pe_k c__law_draw hr (by decide) rfl (pa_cons (pv 0) (pa_cons (pv 1) pa_nil)))))
      (pss_cons (ps_set (i := 4) sc__law_case.nd rfl (.inl rfl) (pe_op op_add pe_int (pe_k c__law_draw hr (by decide) rfl (pa_cons (pv 0) (pa_cons (pe_callB (call_min2 rfl) (by rfl) T.min (by decide +kernel) (pa_cons (pv 3) (pa_cons (pv 2) pa_nil))) pa_nil)))))
      (pss_cons (ps_set (i := 5) sc__law_case.nd rfl (.inl rfl) (pe_k c__law_drawn_web hr (by decide) rfl (pa_cons (pv 0) (pa_cons (pv 3) pa_nil))))
      (pss_cons (ps_set (i := 6) sc__law_case.nd rfl (.inl rfl) (pe_k c__law_rows hr (by decide) rfl (pa_cons (pv 3) (pa_cons (pv 5) pa_nil))))
      (pss_cons (ps_set (i := 7) sc__law_case.nd rfl (.inr rfl) (pe_k c__law_owners hr (by decide) rfl (pa_cons (pv 0) (pa_cons (pv 6) (pa_cons (pv 4) (pa_cons (pe_k c__law_draw hr (by decide) rfl (pa_cons (pv 0) (pa_cons (pe_op op_add (pv 3) pe_int) pa_nil))) pa_nil))))))
      (pss_cons (ps_set (i := 8) sc__law_case.nd rfl (.inl rfl) (pe_k c__law_drawn_ties hr (by decide) rfl (pa_cons (pv 0) (pa_cons (pv 4) (pa_cons (pe_k c__law_touching hr (by decide) rfl (pa_cons (pv 7) (pa_cons (pv 5) pa_nil))) pa_nil)))))
      (pss_cons (ps_if (pt_cmpR op_isN (pv 8) pe_non (nomark _)) (pss_cons (ps_set (i := 7) sc__law_case.nd rfl (.inr rfl) (pe_k c__law_owners hr (by decide) rfl (pa_cons (pv 0) (pa_cons (pv 6) (pa_cons (pv 4) (pa_cons (pv 3) pa_nil))))))
        (pss_one (ps_set (i := 8) sc__law_case.nd rfl (.inl rfl) (pe_k c__law_drawn_ties hr (by decide) rfl (pa_cons (pv 0) (pa_cons (pv 4) (pa_cons (pe_k c__law_touching hr (by decide) rfl (pa_cons (pv 7) (pa_cons (pv 5) pa_nil))) pa_nil))))))) pss_nil)
      (pss_cons (ps_set (i := 9) sc__law_case.nd rfl (.inl rfl) (pe_lst pa_nil))
      (pss_cons (ps_for PassesOwn.never rfl (pi_range1 rfl T.range (pa_cons (pv 4) pa_nil)) (pg_name (i := 10) sc__law_case.nd rfl (.inr rfl))
        (pss_one (ps_expr (bmK K PySem.F.plainAttrs_list PySem.F.slot_list_append PySem.F.type_list_append mt_append (pv 9) (pa_cons (pe_callTy (tupOf K) (by rfl) T.tuple (by decide +kernel) (pa_cons (pe_lc (own := [("_law_standing", 11)]) rfl sc__law_case.nd (pi_range1 rfl T.range (pa_cons (pv 3) pa_nil)) (blkOk_by (by kernel_rfl)) (fun _ _ _ _ _ => (pg_name (i := 11) sc__law_case.nd rfl (.inl rfl))) (fun _ _ _ _ _ => (pts_one (pt_cmpR op_eq (pe_ix (ixL K) (pv 7) (pv 11) (fun _ _ => rfl)) (pv 10) (nomark _)))) (fun _ _ _ _ _ => (pv 11))) pa_nil)) pa_nil)))))
      (pss_one (ps_ret (pe_tup (pa_cons (pv 3) (pa_cons (pv 5) (pa_cons (pv 4) (pa_cons (pv 8) (pa_cons (pe_callTy (tupOf K) (by rfl) T.tuple (by decide +kernel) (pa_cons (pv 9) pa_nil)) pa_nil))))))))))))))))), ?_⟩
    refine s_1draw (Z := { nx := _, rt := _ }) dc0 s0 (evx 0 rfl) (evx 1 rfl) hm1 (by omega) fun r1 B1 H1 hr1 g1 dc1 => ?_
    refine s_1draw (Z := { nx := _, rt := _ }) (k := min (1 + r1) contents) dc1 g1.sub (evx 0 rfl) (ev_min2 (evx 3 rfl) (evx 2 rfl)) (by omega) (by omega) fun r2 B2 H2 hr2 g2 dc2 => ?_
    have hn1 : 1 ≤ 1 + r1 := by omega
    have hn2 : 1 + r1 ≤ 30 := by omega
    have hmn : 1 + r2 ≤ 1 + r1 := by omega
    have hm6 : 1 + r2 ≤ 6 := by omega
    have hm0 : 1 ≤ 1 + r2 := by omega
    generalize 1 + r1 = n at hn1 hn2 hmn
    generalize 1 + r2 = m at hmn hm6 hm0
    refine s_dweb (Z := { nx := _, rt := _ }) dc2 g2.sub (evx 0 rfl) (evx 3 rfl) hn1 hn2 fun p B3 H3 ps g3 dc3 hps htree hp => ?_
    have gd3 := (g1.trans g2).trans g3
    refine s_asg (D := { nx := _, rt := _ }) (P := fun v B' => ∃ rows, RowsOk n ps rows ∧ LO (fun r => IL r) rows v B') (ev_call (ea_c (evx 3 rfl) (ea_c (P := TO I2 ps) (ev_var 5 rfl hp) ea_nil)) fun vs B' s' hvs => ?_) g3.sub fun rv B4 H4 g4 ⟨rows, hro, hrv⟩ => ?_
    · obtain ⟨_, _, rfl, rfl, t', _, rfl, ht', rfl⟩ := hvs
      exact ⟨t', ps, n, rfl, ht', hps, hps.le1000 hn2, by omega, rfl⟩
    have dc4 := dc3.grow g4
    have gd4 := gd3.trans (dc3.gd g4)
    have hp4 : TO I2 ps p B4 := Mn.mn g4.bb hp
    dsimp only
    refine s_seq (E := { nx := _, rt := _ }) (fun σ H1 => ∃ ov B5 os, σ = [some (.ref D), some (vn most), some (vn contents), some (vn n), some (vn m), some p, some rv, some ov, none, none, none, none] ∧ GD D B4 H4 B5 H1 ∧ Dice D B5 H1 ∧ OwnOk n ps m os ∧ OL os ov B5) (fun R hJ => ?_) fun σ H5 => ?_
    · refine ⟨.ref D, rfl, rv, rfl, vn m, rfl, go_draw (k := n + 1) dc4 g4.sub (evx 0 rfl) (ev_addN (evx 3 rfl) ev_1) (by omega) (by omega) fun r B5 H5 hr g5 dc5 => ?_⟩
      exact ⟨B5, D, n, ps, rows, rv, m, r, rfl, dc5, g5.sub, Mn.mn g5.bb hrv, hro, hps, htree, hm0, hmn, hn2, by omega, fun u B' H' os gd dc' oo _ hu => hJ _ _ ⟨u, B', os, rfl, g5.trans gd, dc', oo, hu⟩⟩
    · rintro ⟨ov, B5, os, rfl, g5, dc5, oo, hov⟩
      have gd5 := gd4.trans g5
      have hp5 : TO I2 ps p B5 := Mn.mn g5.bb hp4
      have hrv5 : LO (fun r => IL r) rows rv B5 := Mn.mn g5.bb hrv
      refine s_ties (Z := { nx := _, rt := _ }) dc5 g5.sub (evx 0 rfl) (evx 4 rfl) (evx 7 rfl) (evx 5 rfl) hov hp5 hps oo hm0 hmn hn2 fun tv B6 H6 g6 dc6 hres => ?_
      have gd6 := gd5.trans g6
      dsimp only
      refine s_seq (E := { nx := _, rt := _ }) (fun σ H1 => ∃ ov tv B7 os ts, σ = [some (.ref D), some (vn most), some (vn contents), some (vn n), some (vn m), some p, some rv, some ov, some tv, none, none, none] ∧ GD D B0 H B7 H1 ∧ Dice D B7 H1 ∧ Same B6 B7 ∧ OwnOk n ps m os ∧ OL os ov B7 ∧ PsOk m ts ∧ (∀ t ∈ ts, t ∈ tchs os ps) ∧ Conn m ts ∧ TO I2 ts tv B7) (fun R hJ => ?_) fun σ H7 => ?_
      · rcases hres with ⟨rfl, hno⟩ | ⟨ts, hts, hsub, hcon, htv⟩
        · refine s_if (b := true) (et_val ((ev_isN (x := .non) (evx 8 rfl)).eq (by simp))) g6.sub (fun _ B7 H7 g7 => ?_) fun e => nomatch e
          have dc7 := dc6.grow g7
          have s57 := g6.bb.trans g7.bb
          refine s_owners dc7 g7.sub (evx 0 rfl) (evx 6 rfl) (evx 4 rfl) (evx 3 rfl) (Mn.mn s57 hrv5) hro hps htree hm0 hmn hn2 (Nat.le_refl n) fun ov2 B8 H8 os2 g8 dc8 oo2 hall hov2 => ?_
          refine s_ties dc8 g8.sub (evx 0 rfl) (evx 4 rfl) (evx 7 rfl) (evx 5 rfl) hov2 (Mn.mn (s57.trans g8.bb) hp5) hps oo2 hm0 hmn hn2 fun tv2 B9 H9 g9 dc9 hres2 => ?_
          have hconn : Conn m (tchs os2 ps) := conn_of oo2 htree (hall rfl) hn1 fun p hp => hp
          rcases hres2 with ⟨_, hno2⟩ | ⟨ts, hts, hsub, hcon, htv⟩
          · exact absurd ⟨tchs os2 ps, fun p hp => hp, fun p hp => hp, hconn⟩ hno2
          · exact hJ _ _ ⟨ov2, tv2, B9, os2, ts, rfl, ((gd6.trans (dc6.gd g7)).trans g8).trans g9, dc9, (g7.bb.trans g8.bb).trans g9.bb, oo2, Mn.mn g9.bb hov2, hts, hsub, hcon, htv⟩
        · obtain ⟨at_, tvs, rfl, hat, rt⟩ := id htv
          refine s_if (b := false) (et_val ((ev_isN (x := .ref at_) (evx 8 rfl)).eq (by simp))) g6.sub (fun e => nomatch e) fun _ B7 H7 g7 => ?_
          exact hJ _ _ ⟨ov, .ref at_, B7, os, ts, rfl, gd6.trans (dc6.gd g7), dc6.grow g7, g7.bb, oo, Mn.mn (g6.bb.trans g7.bb) hov, hts, hsub, hcon, Mn.mn g7.bb htv⟩
      · rintro ⟨ov, tv, B7, os, ts, rfl, gd7, dc7, s67, oo, hov, hts, hsub, hcon, htv⟩
        have hp7 : TO I2 ps p B7 := Mn.mn (g6.bb.trans s67) hp5
        have ok : CaseOk n ps m ts (landsOf n m os) := ⟨hps, hts, by unfold landsOf; rw [List.length_map, List.length_range], told_of oo, ties_of oo hsub, hcon, hn1, hn2, hm0, hm6⟩
        refine s_asgM (D := { nx := _, rt := _ }) (em_lst (xs := []) ea_nil) gd7.sub fun L vs B8 H8 g8 nL bL hL e => ?_
        cases e
        have neL := dc7.ne nL
        have nL0 : H L = none := gd7.free neL nL
        have gd8 := gd7.trans (dc7.gd g8)
        have dc8 := dc7.grow g8
        refine s_for (D := { nx := _, rt := _ }) (ei_rng1 (B := B8) (n := m) (ea_x (evx 4 rfl) ea_nil) (by omega)) g8.sub (fun i σ B' H' => ∃ x10 us, σ = [some (.ref D), some (vn most), some (vn contents), some (vn n), some (vn m), some p, some rv, some ov, some tv, some (.ref L), x10, none] ∧ GD D B0 H B' H' ∧ Dice D B' H' ∧ Same B7 B' ∧ B' L = none ∧ H' L = some (.lst us) ∧ Rs (fun l => IT l) ((List.range i).map (landOf n os)) us B')
          (fun B' H' g => ?_) (fun c c' c'v σ B9 H9 hc s9 => ?_) (fun σ B9 H9 s9 => ?_)
        · exact ⟨_, [], rfl, gd8.trans (dc8.gd g), dc8.grow g, g8.bb.trans g.bb, (g.own bL hL mo_lst).1, g.hh _ _ hL, True.intro⟩
        · rintro ⟨x10, us, rfl, gd9, dc9, s79, bL9, hL9, rs⟩ e
          cases e
          have hc3 : c = c' ∧ c < m := by
            obtain ⟨h1, h2⟩ := List.getElem?_eq_some_iff.mp hc
            rw [List.getElem_range] at h2
            rw [List.length_range] at h1
            exact ⟨h2, h1⟩
          obtain ⟨rfl, hcm⟩ := hc3
          have hov9 : OL os ov B9 := Mn.mn s79 hov
          refine s_app (P := IT (landOf n os c)) (evx 9 rfl) (ev_tupOfL ((em_lcN (R := RN) (R' := fun s => RX (vn s)) (ei_rng1 (n := n) (ea_x (evx 3 rfl) ea_nil) (by omega)) (fun s => decide (own os s = some c)) id (by rw [List.length_range]; omega) (fun _ => rfl) fun s sv B' H' hm g hs => ⟨?_, fun _ => ?_⟩).vals.vl.imp fun v B' _ h => by rw [List.map_id] at h; exact h)) s9 hL9 ?_ fun v2 B10 H10 g10 h10 p10 => ?_
          · cases hs
            have hsn := List.mem_range.mp hm
            refine et_val ((ev_eq (ev_ixVL (v := vo (own os s)) (ev_var 7 rfl (Mn.mn g.bb hov9)) (evx 11 rfl) (os_at (by rw [oo.len]; exact hsn))) (evx 10 rfl) (scal_vo _ (some c))).eq ?_)
            rw [dec_vo]
          · cases hs
            exact evx 11 rfl
          · rw [rs.len, List.length_map, List.length_range]; omega
          · have bL10 := (g10.own bL9 hL9 mo_lst).1
            have gd10 := (gd9.trans (dc9.gd g10)).put (o := .lst (us ++ [v2])) neL nL0 bL10
            refine ⟨B10, g10.bb, gd10.sub, _, us ++ [v2], rfl, gd10, (dc9.grow g10).put neL, s79.trans g10.bb, bL10, upd_same, ?_⟩
            rw [List.range_succ, List.map_append]
            exact (rs.mn g10.bb).app (Rs.one p10)
        · rintro ⟨x10, us, rfl, gd9, dc9, s79, bL9, hL9, rs⟩
          rw [List.length_range] at rs
          have gs := gd9.settle neL nL0 bL9 hL9
          have dcs := dc9.settle (o := .lst us) neL bL9
          have sL := same_new (o := .lst us) bL9
          have htold : LO (fun l => IT l) (landsOf n m os) (.ref L) (upd B9 L (.lst us)) := ⟨L, us, rfl, upd_same, rs.mn sL⟩
          refine s_ret (D := { nx := _, rt := _ }) (ev_tup (PL := AC (RX (vn n)) (AC (TO I2 ps) (AC (RX (vn m)) (AC (TO I2 ts) (AC (TO (fun l => IT l) (landsOf n m os)) (AX [])))))) (ea_c (evx 3 rfl) (ea_c (P := TO I2 ps) (ev_var 5 rfl (Mn.mn (s79.trans sL) hp7)) (ea_c (evx 4 rfl) (ea_c (P := TO I2 ts) (ev_var 8 rfl (Mn.mn (s79.trans sL) htv)) (ea_c (P := TO (fun l => IT l) (landsOf n m os)) (ev_tupOfLO (ev_var 9 rfl htold)) ea_nil))))) (fun vs B' h => ?_) (fun vs B B' s h => ?_)) gs.sub fun w B10 H10 g10 hw => ?_
          · obtain ⟨_, _, rfl, _, _, _, rfl, _, _, _, rfl, _, _, _, rfl, _, _, _, rfl, _, rfl⟩ := h
            show (5 : Nat) ≤ _
            decide
          · obtain ⟨_, _, rfl, rfl, _, _, rfl, h1, _, _, rfl, rfl, _, _, rfl, h2, _, _, rfl, h3, rfl⟩ := h
            exact ⟨_, _, rfl, rfl, _, _, rfl, Mn.mn s h1, _, _, rfl, rfl, _, _, rfl, Mn.mn s h2, _, _, rfl, Mn.mn s h3, rfl⟩
          · obtain ⟨aw, vs, rfl, haw, _, _, rfl, rfl, _, _, rfl, h1, _, _, rfl, rfl, _, _, rfl, h2, _, _, rfl, h3, rfl⟩ := hw
            exact kk _ B10 H10 n ps m ts (landsOf n m os) (gs.trans (dcs.gd g10)) (dcs.grow g10) ok ⟨aw, _, _, _, rfl, haw, h1, h2, h3⟩
end
end Lw
/-! Nj: what the law's own def still needs. -/
namespace Lw
open PySem PySem.Spec PyProof.Rows L2
theorem eqvAll_bools : ∀ a b : List Bool, PyData.eqvAll (a.map PyData.bool) (b.map PyData.bool) = decide (a = b)
  | [], [] => by simp [PyData.eqvAll]
  | [], _ :: _ => by simp [PyData.eqvAll]
  | _ :: _, [] => by simp [PyData.eqvAll]
  | x :: a, y :: b => by
    rw [List.map_cons, List.map_cons, PyData.eqvAll, eqvAll_bools a b]
    have e : PyData.eqv (.bool x) (.bool y) = decide (x = y) := by
      cases x <;> cases y <;> simp [PyData.eqv]
    rw [e]
    by_cases h : x = y <;> by_cases k : a = b <;> simp [h, k]
theorem lay_bools : ∀ a : List Bool, PyData.canLayAll0 (a.map PyData.bool) = true
  | [] => by simp [PyData.canLayAll0]
  | x :: a => by
    rw [List.map_cons, PyData.canLayAll0, lay_bools a]
    simp [PyData.canLay0]
theorem depth_bools : ∀ a : List Bool, PyData.depthAll (a.map PyData.bool) = 0
  | [] => by simp [PyData.depthAll]
  | x :: a => by
    rw [List.map_cons, PyData.depthAll, depth_bools a]
    simp [PyData.depth]
theorem shaped_bools (a : List Bool) : SeqAt.shaped (.list (a.map PyData.bool)) = true := by
  unfold SeqAt.shaped
  rw [PyData.canLay0, lay_bools, PyData.depth, depth_bools]; decide
theorem shaped_intsL (a : List Nat) : SeqAt.shaped (.list (a.map fun n : Nat => .int n)) = true := by
  unfold SeqAt.shaped
  rw [PyData.canLay0, canLay_ints, PyData.depth, depth_nats]; decide
section
variable {P : Program} {w : World} {K : PySem.W.Frag} {mg : Str → Option Value} {base : Heap}
variable {B H B0 H0 B1 H1 B2 H2 B' H' : Hp} {σ : Slo} {te ta tb tl td tv tk : TE} {a C CB dx d D : Addr} {b : Bool} {x v : V} {m n i j k : Nat} {fs : List (Str × V)} {f kf : Str} {PV : VP} {ps ts : List (Nat × Nat)} {told : List (List Nat)}
theorem dpAll_bools (K : PySem.W.Frag) (H : Hp) : ∀ l : List Bool, DpAll K H (l.map V.bl) (l.map PyData.bool)
  | [] => .nil
  | _ :: l => .cons (.bl _) (dpAll_bools K H l)
/-- [..] != [..] of bools, the left one's own -/
theorem ev_neB {l l' : List Bool} (ha : Ev ta σ B H (RX (.ref a))) (hl : H a = some (.lst (l.map V.bl))) (hb : Ev tb σ B H (VL (l'.map V.bl))) : Ev (tOp (rNeD K) ta tb) σ B H (RX (.bl (!decide (l = l')))) :=
  ev_opx ha hb fun x y B' H' g hx ⟨p, e, hy⟩ Q q => by
    cases hx; subst e
    exact ⟨_, _, .lst (SqL.of (g.hh _ _ hl)) (dpAll_bools K H' l), .lst (SqL.of (g.sub _ _ hy)) (dpAll_bools K H' l'), shaped_bools l, shaped_bools l', by
      rw [PyData.eqv, eqvAll_bools]; exact q⟩
/-- .. of numbers -/
theorem ev_neIM {l l' : List Nat} (ha : Ev ta σ B H (RX (.ref a))) (hl : H a = some (.lst (l.map vn))) (hb : Ev tb σ B H (IL l')) : Ev (tOp (rNeD K) ta tb) σ B H (RX (.bl (!decide (l = l')))) :=
  ev_opx ha hb fun x y B' H' g hx ⟨p, e, hy⟩ Q q => by
    cases hx; subst e
    exact ⟨_, _, .lst (SqL.of (g.hh _ _ hl)) (dpAll_ints K H' l), .lst (SqL.of (g.sub _ _ hy)) (dpAll_ints K H' l'), shaped_intsL l, shaped_intsL l', by
      rw [PyData.eqv, eqvAll_ints]; exact q⟩
/-- sorted(bs), bs one's own -/
theorem ev_sortB {bs : List Bool} (h : Ev te σ B H (RX (.ref a))) (hl : H a = some (.lst (bs.map V.bl))) (h64 : bs.length ≤ 64) : Ev (tCB (rSortB K) (tCons te tNil)) σ B H (fun v B' => ∃ ys : List Bool, (ys.Perm bs ∧ ys.Pairwise fun x y => x = true → y = true) ∧ VL (ys.map V.bl) v B') :=
  ev_cb (ea_x h ea_nil) fun vs B' H' g e Q q => by
    cases e
    exact ⟨a, bs, rfl, SqL.of (g.hh _ _ hl), h64, fun ys p pm pw np => q _ (upd B' p (.lst (ys.map V.bl))) _ (Gr.new g.sub np) ⟨ys, ⟨pm, pw⟩, p, rfl, upd_same⟩⟩
theorem desc_eq {bs ys : List Bool} (pm : ys.Perm bs) (pw : ys.Pairwise fun x y => x = true → y = true) (hb : bs.Pairwise fun x y => y = true → x = true) : ys.reverse = bs := by
  refine List.Perm.eq_of_pairwise (le := fun x y : Bool => y = true → x = true) (fun a b _ _ h1 h2 => ?_) (List.pairwise_reverse.mpr pw) hb ((List.reverse_perm ys).trans pm)
  cases a <;> cases b <;> simp_all
end
end Lw
/-! Nk: the law's own steps. -/
namespace Lw
open PySem PySem.Spec PyProof.Rows L2
section
variable {P : Program} {w : World} {K : PySem.W.Frag} {mg : Str → Option Value} {base : Heap}
variable {B H B0 H0 B1 H1 B2 H2 B' H' : Hp} {σ : Slo} {te ta tb tl td tv tk : TE} {a C CB dx d D : Addr} {b : Bool} {x v : V} {m n i j k : Nat} {fs : List (Str × V)} {f kf : Str} {PV : VP} {ps ts : List (Nat × Nat)} {told : List (List Nat)}
theorem ev_revDesc {bs : List Bool} (h : Ev te σ B H (fun v B' => ∃ ys : List Bool, (ys.Perm bs ∧ ys.Pairwise fun x y => x = true → y = true) ∧ VL (ys.map V.bl) v B')) (hb : bs.Pairwise fun x y => y = true → x = true) : Ev (tRevL K te) σ B H (VL (bs.map V.bl)) := fun B1 H1 g1 Q q =>
  h B1 H1 g1 _ fun v B2 H2 g2 ⟨ys, ⟨pm, pw⟩, p, e, hp⟩ => by
    subst e
    refine ⟨p, _, rfl, SqL.of (g2.sub _ _ hp), fun r nr => ?_⟩
    have e : (ys.map V.bl).reverse = bs.map V.bl := by rw [← List.map_reverse, desc_eq pm pw hb]
    rw [e]
    exact q _ (upd B2 r (.lst (bs.map V.bl))) _ (g2.trans (Gr.new g2.sub nr)) ⟨r, rfl, upd_same⟩
/-- name = Web(n, pushes): cold -/
theorem go_web {E : XK} {Q : VK} {p : V} (hn : Ev ta σ B H (RX (vn n))) (hp : Ev tb σ B H (RX p)) (s : Same B H) (pv' : TO I2 ps p B) (hps : PsOk n ps) (hl : ps.length ≤ 1000) (h1 : 1 ≤ n) (h2 : n ≤ 1000)
    (kk : ∀ x d B' H', Gr B H B' H' → WebO C n ps d (.ref x) B' → H d = none → B' d = none → H' d = some (.dK []) → Q (.ref x) H') : tMake C (spWeb C) [] E (tCons ta (tCons tb tNil)) σ H Q :=
  (ea_x hn (ea_x hp ea_nil)) B H (Gr.refl s) _ fun vs B2 H2 g2 e x dx hx hd ne => by
    cases e
    exact ⟨B2, H2, x, dx, p, n, ps, rfl, Ob.new g2.sub hx hd ne, Mn.mn g2.bb pv', hps, hl, h1, h2, fun B' H' d g hw n0 nb hd' => ⟨rfl, kk x d B' H' (g2.trans g) hw (g2.hh.free n0) nb hd'⟩⟩
theorem s_web {E : XK} {Z : Ends} {p : V} (hn : Ev ta σ B H (RX (vn n))) (hp : Ev tb σ B H (RX p)) (s : Same B H) (pv' : TO I2 ps p B) (hps : PsOk n ps) (hl : ps.length ≤ 1000) (h1 : 1 ≤ n) (h2 : n ≤ 1000)
    (kk : ∀ x d B' H', Gr B H B' H' → WebO C n ps d (.ref x) B' → H d = none → B' d = none → H' d = some (.dK []) → Z.nx (σ.set i (some (.ref x))) H') : tAsg (tMake C (spWeb C) [] E (tCons ta (tCons tb tNil))) (gName i) Z σ H :=
  go_web (Q := fun v H' => Z.nx (σ.set i (some v)) H') hn hp s pv' hps hl h1 h2 kk
theorem evw_bears {E : XK} {tr : TA} {v bk u : V} (h : EvA tr σ B H (AX [v, bk, u, vn k])) (ar : LArgs C CB n m ps ts told d v bk u B) (s : Same B H) (st : WSt d n ps B H) (h3 : k ≤ 3) (hk : told.flatten.length ≤ 10 ∨ k ≤ 1) : EvW d n ps (tCall (spBears C CB) [] E tr) σ B H (BT (BearsL ps ts told k)) := fun Q q =>
  go_call h s fun vs B1 H1 g1 e => by
    cases e
    have gw := GW.of s g1 st
    exact ⟨B1, n, m, ps, ts, told, d, v, bk, u, k, rfl, ar.mn g1.bb, g1.sub, gw.st, h3, hk, fun w B' H' g hot hb => q w B' H' (gw.trans (GW.warm g hot)) hot hb⟩
open Classical in
/-- _law_flag(bears(..), due) -/
theorem evw_flag {E : XK} {T : Prop} (h : EvW d n ps te σ B H (BT T)) (hj : σ[j]? = some (some (.bl (decide T)))) : EvW d n ps (tCall spFlag [] E (tCons te (tCons (tVar j) tNil))) σ B H (RX (.bl true)) := fun Q q =>
  h _ fun v B' H' gw hot ⟨c, e, hc⟩ => by
    subst e
    refine ⟨_, hj, ?_⟩
    refine ⟨B', RX (.bl (decide (c = decide T))), gw.sub, ⟨c, decide T, rfl, rfl⟩, fun v B2 H2 g2 e => ?_⟩
    rw [bt_dec hc, decide_eq_true rfl] at e
    exact q v B2 H2 (gw.trans (GW.of gw.sub g2 gw.st)) (hot.mn g2.bb) e
theorem s_orW {tt : TT} {tu tw : TS} {Z : Ends} (h0 : EvT tt σ B H false) (s : Same B H) (st : WSt d n ps B H) (h : ∀ B' H', GW d n ps B H B' H' → EvW d n ps te σ B' H' (RX (.bl true))) (kk : ∀ B' H', GW d n ps B H B' H' → WHot d n ps B' → tw Z σ H') : tIfS (tOr tt (tNot (tB te))) tu tw Z σ H :=
  h0.go s fun B1 H1 g1 => by
    have gw1 := GW.of s g1 st
    exact (h B1 H1 gw1) (fun x H3 => ∃ b, x = .bl b ∧ (if (!b) = true then tu Z σ H3 else tw Z σ H3)) fun v B' H' g hot e => ⟨true, e, kk B' H' (gw1.trans g) hot⟩
end
end Lw
/-! Nl: law. -/
namespace Lw
open PySem PySem.Spec PyProof.Rows L2
section
variable {P : Program} {w : World} {K : PySem.W.Frag} {mg : Str → Option Value} {base : Heap}
variable {B H B0 H0 B1 H1 B2 H2 B' H' : Hp} {σ : Slo} {te ta tb tl td tv tk t1 t2 : TE} {a C CB dx d D : Addr} {b : Bool} {x v : V} {m n i j k : Nat} {fs : List (Str × V)} {f kf : Str} {PV : VP} {ps ts : List (Nat × Nat)} {told : List (List Nat)}
theorem s_eqdraw {E : XK} {Z : Ends} (dc : Dice D B H) (s : Same B H) (hd : Ev td σ B H (RX (.ref D))) (hk : Ev tk σ B H (RX (vn k))) (h1 : 1 ≤ k) (h2 : k ≤ 1000)
    (kk : ∀ (gb : Bool) B' H', GD D B H B' H' → Dice D B' H' → Z.nx (σ.set i (some (.bl gb))) H') : tAsg (tOp rEq (tCall spDraw [] E (tCons td (tCons tk tNil))) (tC (.int 0))) (gName i) Z σ H :=
  go_draw (Q := fun v H' => scal v (.int 0) = true ∧ Z.nx (σ.set i (some (.bl (decide (v = .int 0))))) H') dc s hd hk h1 h2 fun r B' H' hr gd dc' => ⟨rfl, kk _ B' H' gd dc'⟩
theorem s_case {E : XK} {Z : Ends} {g : TG} {most contents : Nat} (dc : Dice D B H) (s : Same B H) (hd : Ev td σ B H (RX (.ref D))) (h1 : Ev t1 σ B H (RX (vn most))) (h2 : Ev t2 σ B H (RX (vn contents))) (a1 : 1 ≤ most) (a2 : most ≤ 30) (a3 : 1 ≤ contents) (a4 : contents ≤ 6)
    (kk : ∀ u B' H' n ps m ts told, GD D B H B' H' → Dice D B' H' → CaseOk n ps m ts told → CaseV n ps m ts told u B' → g u σ H' Z.nx) : tAsg (tCall spCase [] E (tCons td (tCons t1 (tCons t2 tNil)))) g Z σ H :=
  go_call (Q := fun v H' => g v σ H' Z.nx) (ea_x hd (ea_x h1 (ea_x h2 ea_nil))) s fun vs B1 H1 gg e => by
    cases e
    exact ⟨B1, D, most, contents, rfl, dc.grow gg, gg.sub, a1, a2, a3, a4, fun u B' H' n ps m ts told gd dc' ok hv => kk u B' H' n ps m ts told ((dc.gd gg).trans gd) dc' ok hv⟩
theorem s_weak {E : XK} {Z : Ends} {tr : TA} {v bk u : V} (h : EvA tr σ B H (AX [v, bk, u])) (ar : LArgs C CB n m ps ts told d v bk u B) (s : Same B H) (st : WSt d n ps B H)
    (kk : ∀ L B' H', GW d n ps B H B' H' → WHot d n ps B' → L ≠ d → H L = none → B' L = none → H' L = some (.lst ((weakL ps ts told).map vn)) → Z.nx (σ.set i (some (.ref L))) H') : tAsg (tCall (spWeak C CB) [] E tr) (gName i) Z σ H :=
  go_call (Q := fun v H' => Z.nx (σ.set i (some v)) H') h s fun vs B1 H1 g1 e => by
    cases e
    have gw := GW.of s g1 st
    refine ⟨B1, n, m, ps, ts, told, d, v, bk, u, rfl, ar.mn g1.bb, g1.sub, gw.st, fun L B' H' g hot nL bL hL => ?_⟩
    have hd := gw.st.at g1.sub
    have nLd : L ≠ d := fun e => by
      subst e
      obtain ⟨l, rows, hb, _⟩ := hot
      rw [bL] at hb; cases hb
    rw [offd_ne nLd] at nL
    exact kk L B' H' (gw.trans (GW.warm g hot)) hot nLd (g1.hh.free nL) bL hL
theorem evw_weak {E : XK} {tr : TA} {v bk u : V} (h : EvA tr σ B H (AX [v, bk, u])) (ar : LArgs C CB n m ps ts told d v bk u B) (s : Same B H) (st : WSt d n ps B H) : EvW d n ps (tCall (spWeak C CB) [] E tr) σ B H (IL (weakL ps ts told)) := fun Q q =>
  go_call h s fun vs B1 H1 g1 e => by
    cases e
    have gw := GW.of s g1 st
    refine ⟨B1, n, m, ps, ts, told, d, v, bk, u, rfl, ar.mn g1.bb, g1.sub, gw.st, fun L B' H' g hot nL bL hL => ?_⟩
    have gs := g.settle nL bL hL
    exact q _ _ _ (gw.trans (GW.warm gs (hot.mn (same_new bL)))) (hot.mn (same_new bL)) ⟨L, rfl, upd_same⟩
theorem s_neW {tu tw : TS} {Z : Ends} {l : List Nat} (h : EvW d n ps te σ B H (IL l)) (h2 : ∀ B' H', GW d n ps B H B' H' → Ev tb σ B' H' (IL l)) (kk : ∀ B' H', GW d n ps B H B' H' → WHot d n ps B' → tw Z σ H') : tIfS (tTest (tOp (rNeD K) te tb)) tu tw Z σ H :=
  h _ fun v B1 H1 gw hot hv => (h2 B1 H1 gw).go gw.sub fun y B2 H2 g2 hy => by
    obtain ⟨p, rfl, hp⟩ := hv
    obtain ⟨q, rfl, hq⟩ := hy
    refine ⟨_, _, .lst (SqL.of (g2.sub _ _ (g2.bb _ _ hp))) (dpAll_ints K H2 l), .lst (SqL.of (g2.sub _ _ hq)) (dpAll_ints K H2 l), shaped_intsL l, shaped_intsL l, false, ?_, ?_⟩
    · rw [PyData.eqv, eqvAll_ints, decide_eq_true rfl]; rfl
    · exact kk B2 H2 (gw.trans (GW.of gw.sub g2 gw.st)) (hot.mn g2.bb)
theorem Dice.gw (h : Dice D B H) (g : GW d n ps B H B' H') (hd : D ≠ d) : Dice D B' H' := by
  obtain ⟨bD, L, cells, p, b, s, c, h1, h2⟩ := h
  obtain ⟨b', h'⟩ := g.own hd bD h1 mo_dice
  exact ⟨b', L, cells, p, b, s, c, h', g.bb _ _ h2⟩
abbrev spLaw (K : PySem.W.Frag) : Sp := fun vs H Q _ => ∃ (a : Addr) (ns : List Int), vs = [.ref a] ∧ SqL K H a (ns.map V.int) ∧ ns.length ≤ 63 ∧ ∀ H', Q (.bl true) H'
theorem sc_law : FnScope ["_law_script", "_law_dice_here", "_law_turn", "_law_great", "_law_size", "_law_pushes", "_law_many", "_law_ties", "_law_told", "_law_rows_here", "_law_web", "_law_book", "_law_every", "_law_land", "_law_found", "_law_number", "_law_due", "_law_alone", "_law_standing", "_law_listed"] ["_law_script"] (defScope (tp 65)) := ⟨rfl, rfl, rfl, by decide +kernel, rfl, by decide +kernel, by decide +kernel⟩
set_option maxHeartbeats 4000000 in
open Classical in
theorem ok_law {fa : Addr} {fd : FuncData} (Fd : Fun K "law" "law" (tp 65) fa fd) (T : Tx mg) (c__law_dice : Cal P w K mg base 1 "_law_dice" (spDice (K := K))) (c__law_draw : Cal P w K mg base 1 "_law_draw" spDraw) (c__law_case : Cal P w K mg base 3 "_law_case" spCase) (c__law_rows : Cal P w K mg base 1 "_law_rows" spLawRows)
    (c_Web : Mak P w K mg base 6 "Web" C (spWeb C)) (c_Book : Mak P w K mg base 6 "Book" CB (spBook CB)) (c__law_bears : Cal P w K mg base 4 "_law_bears" spLBears) (c__law_flag : Cal P w K mg base 1 "_law_flag" spFlag) (c_bears : Cal P w K mg base 7 "bears" (spBears C CB))
    (c__law_remain : Cal P w K mg base 2 "_law_remain" spRemain) (c__law_left : Cal P w K mg base 3 "_law_left" spLLeft) (c_weak : Cal P w K mg base 7 "weak" (spWeak C CB)) : FnOk P w K mg base CX0 8 fa fd ["_law_script"] (spLaw K) := by
  refine Fd.ok sc_law (fun vs H Q E h => ?_) (fun cdv A outer s H vs Q E hr h => ?_)
  · obtain ⟨a, ns, rfl, _⟩ := h
    rfl
  · obtain ⟨a, ns, rfl, ha, hl, kk⟩ := h
    refine ⟨_, (pss_cons (ps_set (i := 1) sc_law.nd rfl (.inl rfl) (pe_k c__law_dice hr (by decide) rfl (pa_cons (pv 0) pa_nil)))
      (pss_cons (ps_for PassesOwn.never rfl (pi_range1 rfl T.range (pa_cons pe_int pa_nil)) (pg_name (i := 2) sc_law.nd rfl (.inl rfl))
        (pss_cons (ps_set (i := 3) sc_law.nd rfl (.inl rfl) (pe_cmpR op_eq (pe_k c__law_draw hr (by decide) rfl (pa_cons (pv 1) (pa_cons pe_int pa_nil))) pe_int (nomark _)))
        (pss_cons (ps_asg (pe_k c__law_case hr (by decide) rfl (pa_cons (pv 1) (pa_cons (pe_ifExp (pt_val (pv 3)) pe_int pe_int) (pa_cons (pe_ifExp (pt_val (pv 3)) pe_int pe_int) pa_nil)))) (pgT K rfl (pgs_cons (pg_name (i := 4) sc_law.nd rfl (.inl rfl)) (pgs_cons (pg_name (i := 5) sc_law.nd rfl (.inl rfl)) (pgs_cons (pg_name (i := 6) sc_law.nd rfl (.inl rfl)) (pgs_cons (pg_name (i := 7) sc_law.nd rfl (.inr rfl)) (pgs_cons (pg_name (i := 8) sc_law.nd rfl (.inr rfl)) pgs_nil))))) (n := 5)))
        (pss_cons (ps_set (i := 9) sc_law.nd rfl (.inr rfl) (pe_k c__law_rows hr (by decide) rfl (pa_cons (pv 4) (pa_cons (pv 5) pa_nil))))
        (pss_cons (ps_set (i := 10) sc_law.nd rfl (.inl rfl) (pe_mk c_Web hr (by decide) rfl (pa_cons (pv 4) (pa_cons (pv 5) pa_nil))))
        (pss_cons (ps_set (i := 11) sc_law.nd rfl (.inl rfl) (pe_mk c_Book hr (by decide) rfl (pa_cons (pv 6) (pa_cons (pv 7) pa_nil))))
        (pss_cons (ps_set (i := 12) sc_law.nd rfl (.inl rfl) (pe_callB (srtI K) (by rfl) T.sorted (by decide +kernel) (pa_cons (pe_callB (cr_sumL K rfl) (by rfl) T.sum (by decide +kernel) (pa_cons (pe_lc (own := [("_law_land", 13)]) rfl sc_law.nd (piT K (pv 8)) (blkOk_by (by kernel_rfl)) (fun _ _ _ _ _ => (pg_name (i := 13) sc_law.nd rfl (.inl rfl))) (fun _ _ _ _ _ => pts_nil) (fun _ _ _ _ _ => (pe_callTy (lstOf K) (by rfl) T.list (by decide +kernel) (pa_cons (pv 13) pa_nil)))) (pa_cons (pe_lst pa_nil) pa_nil))) pa_nil)))
        (pss_cons (ps_set (i := 14) sc_law.nd rfl (.inl rfl) (pe_lst pa_nil))
        (pss_cons (ps_for PassesOwn.never rfl (pi_range1 rfl T.range (pa_cons (pe_ifExp (pt_cmpR op_gt (pe_callB (lenS K) (by rfl) T.len PySem.boot_len (pa_cons (pv 12) pa_nil)) pe_int (nomark _)) pe_int pe_int) pa_nil)) (pg_name (i := 15) sc_law.nd rfl (.inl rfl))
          (pss_cons (ps_set (i := 16) sc_law.nd rfl (.inl rfl) (pe_k c__law_bears hr (by decide) rfl (pa_cons (pv 9) (pa_cons (pv 7) (pa_cons (pv 8) (pa_cons (pv 15) (pa_cons (pe_cmpR op_lt (pe_callB (lenS K) (by rfl) T.len PySem.boot_len (pa_cons (pv 12) pa_nil)) pe_int (nomark _)) pa_nil)))))))
          (pss_cons (ps_if (PW.pt (pw_or (pt_cmpR op_isN (pv 16) pe_non (nomark _)) (pw_or1 (pt_not (pt_val (pe_k c__law_flag hr (by decide) rfl (pa_cons (pe_k c_bears hr (by decide) rfl (pa_cons (pv 10) (pa_cons (pv 11) (pa_cons (pv 8) (pa_cons (pv 15) pa_nil))))) (pa_cons (pv 16) pa_nil)))))))) (pss_one (ps_ret pe_bl)) pss_nil)
          (pss_one (ps_expr (bmK K PySem.F.plainAttrs_list PySem.F.slot_list_append PySem.F.type_list_append mt_append (pv 14) (pa_cons (pv 16) pa_nil)))))))
        (pss_cons (ps_if (PW.pt (pw_or (pt_cmpR (neD K hr.units) (pv 14) (revK K (pe_callB (cr_sortedB K hr.units) (by rfl) T.sorted (by decide +kernel) (pa_cons (pv 14) pa_nil))) (nomark _)) (pw_or1 (pt_not (pt_val (pe_ix (ixL K) (pv 14) pe_int (fun _ _ => rfl))))))) (pss_one (ps_ret pe_bl)) pss_nil)
        (pss_cons (ps_setLc (i := 17) (own := [("_law_standing", 18)]) rfl sc_law.nd rfl rfl (sw_true rfl rfl rfl (by decide +kernel)) (piL K (pv 12)) (blkOk_by (by kernel_rfl)) (fun _ _ _ _ _ => (pg_name (i := 18) sc_law.nd rfl (.inl rfl))) (fun _ _ _ _ _ => (pts_one (pt_not (pt_val (pe_k c__law_remain hr (by decide) rfl (pa_cons (pv 9) (pa_cons (pv 7) (pa_cons (pe_k c__law_left hr (by decide) rfl (pa_cons (pv 9) (pa_cons (pv 8) (pa_cons (pe_lst (pa_cons (pv 18) pa_nil)) pa_nil)))) pa_nil)))))))) (fun _ _ _ _ _ => (pv 18)))
        (pss_cons (ps_set (i := 19) sc_law.nd rfl (.inl rfl) (pe_k c_weak hr (by decide) rfl (pa_cons (pv 10) (pa_cons (pv 11) (pa_cons (pv 8) pa_nil)))))
        (pss_cons (ps_if (PW.pt (pw_or (pt_not (pt_val (pe_callB (isiK K) (by rfl) T.isinstance (by decide +kernel) (pa_cons (pv 19) (pa_cons (pe_bltn (v := .ty "list") (u := .type "list") (by rfl) T.list (by decide +kernel) rfl) pa_nil))))) (pw_or (pt_cmpR (neD K hr.units) (pv 19) (pv 17) (nomark _)) (pw_or1 (pt_cmpR op_ne (pe_cmpR op_eq (pe_callB (lenS K) (by rfl) T.len PySem.boot_len (pa_cons (pv 17) pa_nil)) pe_int (nomark _)) (pe_ix (ixL K) (pv 14) pe_int (fun _ _ => rfl)) (nomark _)))))) (pss_one (ps_ret pe_bl)) pss_nil)
        (pss_cons (ps_expr (bmK K PySem.F.plainAttrs_list PySem.F.slot_list_append PySem.F.type_list_append mt_append (pv 19) (pa_cons pe_non pa_nil)))
        (pss_one (ps_if (pt_cmpR (neD K hr.units) (pe_k c_weak hr (by decide) rfl (pa_cons (pv 10) (pa_cons (pv 11) (pa_cons (pv 8) pa_nil)))) (pv 17) (nomark _)) (pss_one (ps_ret pe_bl)) pss_nil))))))))))))))))
      (pss_one (ps_ret pe_bl)))), ?_⟩
    have s0 : Same (fun _ => none) H := fun _ _ e => nomatch e
    refine ⟨.ref a, rfl, fun _ => none, a, ns, rfl, ha, hl, s0, fun D B1 H1 g1 dc1 nD => ?_⟩
    refine s_for (D := { nx := _, rt := _ }) (ei_rng1 (B := B1) (n := 2) (ea_x ev_c ea_nil) (by decide)) g1.sub (fun i σ B' H' => ∃ x2 x3 x4 x5 x6 x7 x8 x9 x10 x11 x12 x14 x15 x16 x17 x19, σ = [some (.ref a), some (.ref D), x2, x3, x4, x5, x6, x7, x8, x9, x10, x11, x12, none, x14, x15, x16, x17, none, x19] ∧ Dice D B' H')
      (fun B' H' g => ?_) (fun i t tv σ B2 H2 hi s2 => ?_) (fun σ B2 H2 s2 => ?_)
    · exact ⟨_, _, _, _, _, _, _, _, _, _, _, _, _, _, _, _, rfl, dc1.grow g⟩
    · rintro ⟨x2, x3, x4, x5, x6, x7, x8, x9, x10, x11, x12, x14, x15, x16, x17, x19, rfl, dc⟩ e
      cases e
      refine s_eqdraw dc s2 (evx 1 rfl) ev_c (k := 4) (by decide) (by decide) fun gb B3 H3 g3 dc3 => ?_
      refine s_case (most := if gb = true then 30 else 10) (contents := if gb = true then 6 else 4) dc3 g3.sub (evx 1 rfl) (ev_if (et_B (evx 3 rfl)) (fun h => by subst h; exact ev_c) (fun h => by subst h; exact ev_c)) (ev_if (et_B (evx 3 rfl)) (fun h => by subst h; exact ev_c) (fun h => by subst h; exact ev_c)) (by split <;> decide) (by split <;> decide) (by split <;> decide) (by split <;> decide) fun u B4 H4 n ps m ts told g4 dc4 ok hu => ?_
      obtain ⟨au, p, t, uv, rfl, hau, hp, ht, huv⟩ := hu
      refine ⟨au, _, rfl, SqT.of (g4.sub _ _ hau), rfl, _, _, rfl, _, _, rfl, _, _, rfl, _, _, rfl, _, _, rfl, rfl, ?_⟩
      have hn30 : n ≤ 1000 := by have := ok.n2; omega
      refine s_asg (P := fun v B' => ∃ rows, RowsOk n ps rows ∧ LO (fun r => IL r) rows v B') (ev_call (ea_c (evx 4 rfl) (ea_c (P := TO I2 ps) (ev_var 5 rfl hp) ea_nil)) fun vs B' s' hvs => ?_) g4.sub fun rv B5 H5 g5 ⟨rows, hro, hrv⟩ => ?_
      · obtain ⟨_, _, rfl, rfl, t', _, rfl, ht', rfl⟩ := hvs
        exact ⟨t', ps, n, rfl, ht', ok.pok, ok.pl, hn30, rfl⟩
      have dc5 := dc4.grow g5
      refine s_web (evx 4 rfl) (evx 5 rfl) g5.sub (Mn.mn g5.bb hp) ok.pok ok.pl ok.n1 hn30 fun wx d B6 H6 g6 hw nd bd hd => ?_
      have dc6 := dc5.grow g6
      have ndD : d ≠ D := dc5.ne nd
      refine s_asg (P := BkR CB m ts) (ev_mk (PV := BkR CB m ts) (ea_c (evx 6 rfl) (ea_c (P := TO I2 ts) (ev_var 7 rfl (Mn.mn (g5.bb.trans g6.bb) ht)) ea_nil)) fun vs B' s' hvs => ?_) g6.sub fun bv B7 H7 g7 hbv => ?_
      · obtain ⟨_, _, rfl, rfl, t', _, rfl, ht', rfl⟩ := hvs
        exact ⟨t', m, ts, rfl, ht', ok.tok, ok.tsl, ok.m1, by have := ok.m2; omega, ok.con, rfl⟩
      have dc7 := dc6.grow g7
      have s47 : Same B4 B7 := (g5.bb.trans g6.bb).trans g7.bb
      have hfl : told.flatten.length ≤ 30 := Nat.le_trans ok.tld.flat_len ok.n2
      have htn : told ≠ [] := fun e => by have := ok.len; have := ok.m1; subst e; simp at *; omega
      have hm6 : told.length ≤ 6 := by rw [ok.len]; exact ok.m2
      refine s_asg (P := IL (srt told.flatten)) (em_sorted (ev_sumL (ls := told) ((em_lcM (R := fun l => IT l) (R' := fun l => IL l) (ei_tup (ev_var 8 rfl (Mn.mn s47 huv))) id (by omega) (fun _ => rfl) fun l lv B' H' hm g hl => ev_listOfT (ev_var 13 rfl hl)).lo.imp fun v B' _ h => id_lo h) (em_lst (xs := []) ea_nil).vl htn (by omega))).vl g7.sub fun ev B8 H8 g8 hev => ?_
      refine s_asgM (em_lst (xs := []) ea_nil) g8.sub fun F vs B9 H9 g9 nF bF hF e => ?_
      cases e
      have dc8 := dc7.grow g8
      have s48 : Same B4 B8 := s47.trans g8.bb
      have s68 : Same B6 B8 := g7.bb.trans g8.bb
      obtain ⟨bd7, hd7⟩ := g7.own bd hd mo_dK
      obtain ⟨bd8, hd8⟩ := g8.own bd7 hd7 mo_dK
      obtain ⟨bd9, hd9⟩ := g9.own bd8 hd8 mo_dK
      have nFd : F ≠ d := fun e => by
        rw [e, hd8] at nF; cases nF
      have neF : F ≠ D := dc8.ne nF
      have ar9 : LArgs C CB n m ps ts told d (.ref wx) bv uv B8 := ⟨Mn.mn s68 hw, Mn.mn g8.bb hbv, Mn.mn s48 huv, ok⟩
      have q9 : QArgs n ps ts m told rows rv t uv B8 := ⟨Mn.mn ((g6.bb.trans g7.bb).trans g8.bb) hrv, hro, Mn.mn s48 ht, Mn.mn s48 huv, ok⟩
      have hev9 : IL (srt told.flatten) ev B9 := Mn.mn g9.bb hev
      have hsl := srt_len told.flatten
      have st8 : WSt d n ps B8 H8 := .inl ⟨bd8, hd8⟩
      have gw9 : GW d n ps B8 H8 B9 H9 := GW.of g8.sub g9 st8
      refine s_for (ei_rng1 (B := B9) (n := if 10 < (srt told.flatten).length then 2 else 4) (ea_x (ev_if (b := decide (10 < (srt told.flatten).length)) (et_val (ev_gtN (n := 10) (ev_len (ev_var 12 rfl hev9) (pn_VL (List.length_map ..))) ev_c)) (fun h => by rw [if_pos (of_decide_eq_true h)]; exact ev_c) (fun h => by rw [if_neg (of_decide_eq_false h)]; exact ev_c)) ea_nil) (by split <;> decide)) g9.sub
        (fun i σ B' H' => ∃ x2 x15 x16, σ = [some (.ref a), some (.ref D), x2, some (.bl gb), some (vn n), some p, some (vn m), some t, some uv, some rv, some (.ref wx), some bv, some ev, none, some (.ref F), x15, x16, x17, none, x19] ∧ GW d n ps B8 H8 B' H' ∧ (0 < i → WHot d n ps B') ∧ B' F = none ∧ H' F = some (.lst (((List.range i).map fun k => decide (BearsL ps ts told k)).map V.bl)))
        (fun B' H' g => ?_) (fun k k' kv σ B10 H10 hk s10 => ?_) (fun σ B10 H10 s10 => ?_)
      · exact ⟨_, _, _, rfl, gw9.trans (GW.of g9.sub g gw9.st), fun h => absurd h (Nat.lt_irrefl _), (g.own bF hF mo_lst).1, g.hh _ _ hF⟩
      · rintro ⟨x2, x15, x16, rfl, gw, hot, bF, hF⟩ e
        cases e
        have hk2 : k = k' ∧ k < (if 10 < (srt told.flatten).length then 2 else 4) := by
          obtain ⟨h1, h2⟩ := List.getElem?_eq_some_iff.mp hk
          rw [List.getElem_range] at h2
          rw [List.length_range] at h1
          exact ⟨h2, h1⟩
        obtain ⟨rfl, hkl⟩ := hk2
        have hk3 : k ≤ 3 := by split at hkl <;> omega
        have hk10 : told.flatten.length ≤ 10 ∨ k ≤ 1 := by
          split at hkl
          · exact .inr (by omega)
          · exact .inl (by omega)
        have hevK : IL (srt told.flatten) ev B10 := Mn.mn gw.bb hev
        have qK := q9.mn gw.bb
        refine s_asgx (x := .bl (decide (BearsL ps ts told k))) (ev_call (P := BT (BearsL ps ts told k)) (ea_x (evx 9 rfl) (ea_x (evx 7 rfl) (ea_x (evx 8 rfl) (ea_x (evx 15 rfl) (ea_x (ev_ltN (n := 7) (ev_len (ev_var 12 rfl hevK) (pn_VL (n := (srt told.flatten).length) (List.length_map ..))) ev_c) ea_nil))))) fun vs B' s' e => by
          cases e
          exact ⟨rv, t, uv, n, ps, m, ts, rows, told, k, _, rfl, qK.mn s', hk10, fun h => by have := of_decide_eq_true h; omega, rfl⟩).bt s10 fun B11 H11 g11 => ?_
        have gw11 := gw.trans (GW.of gw.sub g11 gw.st)
        refine s_orW (d := d) (n := n) (ps := ps) (et_val ((ev_isN (x := .bl (decide (BearsL ps ts told k))) (evx 16 rfl)).eq (by simp))) g11.sub gw11.st (fun B' H' g => evw_flag (T := BearsL ps ts told k) (j := 16) (evw_bears (ea_x (evx 10 rfl) (ea_x (evx 11 rfl) (ea_x (evx 8 rfl) (ea_x (evx 15 rfl) ea_nil)))) (ar9.mn (gw11.trans g).bb) g.sub g.st hk3 hk10) rfl) fun B12 H12 g12 hot12 => ?_
        have gw12 := gw11.trans g12
        obtain ⟨bF12, hF12⟩ := ((GW.of gw.sub g11 gw.st).trans g12).own nFd bF hF mo_lst
        refine s_app (evx 14 rfl) (evx 16 rfl) gw12.sub hF12 (by rw [List.length_map, List.length_map, List.length_range]; omega) fun v13 B13 H13 g13 h13 e13 => ?_
        cases e13
        have bF13 := (g13.own bF12 hF12 mo_lst).1
        have gw13 := (gw12.trans (GW.of gw12.sub g13 gw12.st)).put (o := .lst ((((List.range k).map fun k => decide (BearsL ps ts told k)).map V.bl) ++ [.bl (decide (BearsL ps ts told k))])) nFd nF bF13
        refine ⟨B13, ((g11.bb.trans g12.bb).trans g13.bb), gw13.sub, _, _, _, rfl, gw13, fun _ => hot12.mn g13.bb, bF13, ?_⟩
        rw [upd_same, List.range_succ, List.map_append, List.map_append]; rfl
      · rintro ⟨x2, x15, x16, rfl, gw, hot, bF, hF⟩
        rw [List.length_range] at hF hot
        have hot := hot (by split <;> decide)
        have hN : 2 ≤ (if 10 < (srt told.flatten).length then 2 else 4) ∧ (if 10 < (srt told.flatten).length then 2 else 4) ≤ 4 := by split <;> decide
        generalize (if 10 < (srt told.flatten).length then 2 else 4) = N at hF hN
        have hdesc : ((List.range N).map fun k => decide (BearsL ps ts told k)).Pairwise fun x y => y = true → x = true := by
          rw [List.pairwise_map]
          refine List.pairwise_lt_range.imp fun {i j} hij hj => ?_
          exact decide_eq_true ((of_decide_eq_true hj : BearsL ps ts told j).mono (Nat.le_of_lt hij))
        have e0 : (((List.range N).map fun k => decide (BearsL ps ts told k)).map V.bl)[0]? = some (.bl true) := by
          rw [List.getElem?_map, List.getElem?_map, List.getElem?_range (by omega)]
          show some (V.bl (decide (BearsL ps ts told 0))) = _
          rw [decide_eq_true (bears_zero ok.tld ok.tie)]
        have e1 : (((List.range N).map fun k => decide (BearsL ps ts told k)).map V.bl)[1]? = some (.bl (decide (BearsL ps ts told 1))) := by
          rw [List.getElem?_map, List.getElem?_map, List.getElem?_range (by omega)]; rfl
        have hlen64 : ((List.range N).map fun k => decide (BearsL ps ts told k)).length ≤ 64 := by rw [List.length_map, List.length_range]; omega
        generalize (List.range N).map (fun k => decide (BearsL ps ts told k)) = found at hF hdesc e0 e1 hlen64
        refine s_if (b := false) (et_or (b := false) (c := false) ((et_B (ev_neB (evx 14 rfl) hF (ev_revDesc (ev_sortB (evx 14 rfl) hF hlen64) hdesc))).eq (by simp)) fun _ => et_not (b := true) (et_B (ev_ixVM (evx 14 rfl) ev_0 hF e0))) s10 (fun e => nomatch e) fun _ B11 H11 g11 => ?_
        have gw11 := gw.trans (GW.of gw.sub g11 gw.st)
        have hot11 := hot.mn g11.bb
        obtain ⟨bF11, hF11⟩ := g11.own bF hF mo_lst
        have q11 := q9.mn gw11.bb
        have ar11 := ar9.mn gw11.bb
        have hev11 : IL (srt told.flatten) ev B11 := Mn.mn gw11.bb hev
        refine s_asg (P := IL (weakL ps ts told)) ((em_lcN (R := fun s => RX (vn s)) (R' := fun s => RX (vn s)) (ei_VL (f := vn) (ev_var 12 rfl hev11)) (fun s => !decide (Rem ps ts told [s])) id (by omega) (fun _ => rfl) fun s sv B' H' hm g hs => ⟨?_, fun _ => ?_⟩).vals.vl.imp fun v B' _ h => by rw [List.map_id] at h; exact h) g11.sub fun av B12 H12 g12 hav => ?_
        · cases hs
          exact et_not (et_B (ev_remain (lost := [s]) (q11.mn g.bb) (evx 9 rfl) (evx 7 rfl) (evx 9 rfl) (evx 8 rfl) ((em_lst (xs := [vn s]) (ea_x (evx 18 rfl) ea_nil)).vl.imp fun v B' _ h => .inl h)).bt)
        · cases hs
          exact evx 18 rfl
        have gw12 := gw11.trans (GW.of gw11.sub g12 gw11.st)
        obtain ⟨bF12, hF12⟩ := g12.own bF11 hF11 mo_lst
        refine s_weak (d := d) (ea_x (evx 10 rfl) (ea_x (evx 11 rfl) (ea_x (evx 8 rfl) ea_nil))) (ar11.mn g12.bb) g12.sub gw12.st fun W B13 H13 g13 hot13 nWd nW bW hW => ?_
        have gw13 := gw12.trans g13
        have hav13 : IL (weakL ps ts told) av B13 := Mn.mn g13.bb hav
        obtain ⟨bF13, hF13⟩ := g13.own nFd bF12 hF12 mo_lst
        have hone : ((weakL ps ts told).length = 0) ↔ BearsL ps ts told 1 := by
          rw [bears_one ok.tld ok.tie, List.length_eq_zero_iff]
          unfold weakL
          rw [List.filter_eq_nil_iff]
          exact ⟨fun h s hs => Classical.byContradiction fun hn => h s hs (by rw [decide_eq_false hn]; rfl), fun h s hs => by rw [decide_eq_true (h s hs)]; decide⟩
        have hdec : decide ((weakL ps ts told).length = 0) = decide (BearsL ps ts told 1) := decide_eq_decide.mpr hone
        refine s_if (b := false) (et_or (b := false) (c := false) (et_not (b := true) (et_B (ev_isi (evx 19 rfl) (fun _ _ g => .base (.lst (g.hh _ _ hW))) (kit_ty (by decide +kernel))))) fun _ => et_or (b := false) (c := false) ((et_B (ev_neIM (evx 19 rfl) hW (ev_var 17 rfl hav13))).eq (by simp)) fun _ =>
          (et_B (ev_ne (ev_eqN (ev_len (ev_var 17 rfl hav13) (pn_VL (n := (weakL ps ts told).length) (List.length_map ..))) ev_0) (ev_ixVM (evx 14 rfl) ev_1 hF13 e1) rfl)).eq (by rw [hdec]; simp)) gw13.sub (fun e => nomatch e) fun _ B14 H14 g14 => ?_
        have gw14 := gw13.trans (GW.of gw13.sub g14 gw13.st)
        obtain ⟨bW14, hW14⟩ := g14.own bW hW mo_lst
        refine s_app (evx 19 rfl) ev_c g14.sub hW14 (by rw [List.length_map]; have := List.length_filter_le (fun s => !decide (Rem ps ts told [s])) (srt told.flatten); unfold weakL; omega) fun v15 B15 H15 g15 h15 e15 => ?_
        have bW15 := (g15.own bW14 hW14 mo_lst).1
        have nW8 : H8 W = none := by
          have h1 := none_of_same gw12.gr.hh (p := W) (by rw [offd_ne nWd]; exact nW)
          rw [offd_ne nWd] at h1; exact h1
        have gw15 := (gw14.trans (GW.of gw14.sub g15 gw14.st)).put (o := .lst (((weakL ps ts told).map vn) ++ [v15])) nWd nW8 bW15
        have s1315 := g14.bb.trans g15.bb
        refine s_neW (d := d) (n := n) (ps := ps) (l := weakL ps ts told) (evw_weak (ea_x (evx 10 rfl) (ea_x (evx 11 rfl) (ea_x (evx 8 rfl) ea_nil))) (ar9.mn gw15.bb) gw15.sub gw15.st) (fun B' H' g => ev_var 17 rfl (Mn.mn (s1315.trans g.bb) hav13)) fun B16 H16 g16 hot16 => ?_
        have gw16 := gw15.trans g16
        have s28 : Same B2 B8 := ((g3.bb.trans g4.bb)).trans s48
        exact ⟨B16, s28.trans gw16.bb, gw16.sub, _, _, _, _, _, _, _, _, _, _, _, _, _, _, _, _, rfl, dc8.gw gw16 (fun e => ndD e.symm)⟩
    · rintro ⟨x2, x3, x4, x5, x6, x7, x8, x9, x10, x11, x12, x14, x15, x16, x17, x19, rfl, dc⟩
      exact kk H2
end
end Lw
/-! Nm: all together, from the facts of the module. -/
namespace Lw
open PySem PySem.Spec PyProof.Rows L2
/-- the facts of the module's heap -/
structure Facts (K : PySem.W.Frag) (mg : Str → Option Value) (C CB fW fB : Addr) : Prop where
  T : Tx mg
  d1 : Dn K mg "is_integer" "is_integer" (tp 1)
  d2 : Dn K mg "is_within" "is_within" (tp 2)
  d3 : Dn K mg "is_index" "is_index" (tp 3)
  d4 : Dn K mg "is_rising_pair" "is_rising_pair" (tp 4)
  d5 : Dn K mg "are_rising_pairs" "are_rising_pairs" (tp 5)
  d6 : Dn K mg "beside_lists" "beside_lists" (tp 6)
  d7 : Dn K mg "reached_checks" "reached" (tp 7)
  d20 : Dn K mg "tied_of" "tied_of" (tp 20)
  d25 : Dn K mg "beside_of" "beside_of" (tp 25)
  d27 : Dn K mg "is_land" "is_land" (tp 27)
  d28 : Dn K mg "land_numbers" "land_numbers" (tp 28)
  d29 : Dn K mg "touching" "touching" (tp 29)
  d30 : Dn K mg "reached_lands" "reached" (tp 30)
  d32 : Dn K mg "are_lands" "are_lands" (tp 32)
  d36 : Dn K mg "pieces_of" "pieces_of" (tp 36)
  d37 : Dn K mg "pieces_left" "pieces_left" (tp 37)
  d38 : Dn K mg "touch" "touch" (tp 38)
  d39 : Dn K mg "fits_chosen" "fits_chosen" (tp 39)
  d40 : Dn K mg "chosen_pieces" "chosen_pieces" (tp 40)
  d41 : Dn K mg "lots_of" "lots_of" (tp 41)
  d42 : Dn K mg "check_lands" "check_lands" (tp 42)
  d43 : Dn K mg "all_standings" "all_standings" (tp 43)
  d44 : Dn K mg "bears" "bears" (tp 44)
  d45 : Dn K mg "weak" "weak" (tp 45)
  d47 : Dn K mg "_law_dice" "_law_dice" (tp 47)
  d48 : Dn K mg "_law_draw" "_law_draw" (tp 48)
  d49 : Dn K mg "_law_rows" "_law_rows" (tp 49)
  d50 : Dn K mg "_law_piece" "_law_piece" (tp 50)
  d51 : Dn K mg "_law_pieces" "_law_pieces" (tp 51)
  d52 : Dn K mg "_law_touch" "_law_touch" (tp 52)
  d53 : Dn K mg "_law_drawn_web" "_law_drawn_web" (tp 53)
  d54 : Dn K mg "_law_touching" "_law_touching" (tp 54)
  d55 : Dn K mg "_law_owners" "_law_owners" (tp 55)
  d56 : Dn K mg "_law_drawn_ties" "_law_drawn_ties" (tp 56)
  d57 : Dn K mg "_law_case" "_law_case" (tp 57)
  d58 : Dn K mg "_law_left" "_law_left" (tp 58)
  d59 : Dn K mg "_law_remain" "_law_remain" (tp 59)
  d60 : Dn K mg "_law_lots" "_law_lots" (tp 60)
  d61 : Dn K mg "_law_flag" "_law_flag" (tp 61)
  d62 : Dn K mg "_law_all_parts" "_law_all_parts" (tp 62)
  d63 : Dn K mg "_law_by_parts" "_law_by_parts" (tp 63)
  d64 : Dn K mg "_law_bears" "_law_bears" (tp 64)
  cW : Ck K mg "Web" C "kept_pushes"
  cB : Ck K mg "Book" CB "kept_ties"
  mW : Mk K C fW
  mB : Mk K CB fB
  iW : ∃ fd, Fun K "__init__" "Web.__init__" (inClass (tp 24) 0) fW fd
  iB : ∃ fd, Fun K "__init__" "Book.__init__" (inClass (tp 19) 0) fB fd
  pWs : ∀ (P : Program) (w : World) (base : Heap), Prp P w K mg base C "size" "kept_size"
  pWp : ∀ (P : Program) (w : World) (base : Heap), Prp P w K mg base C "pushes" "kept_pushes"
  pBs : ∀ (P : Program) (w : World) (base : Heap), Prp P w K mg base CB "size" "kept_size"
  pBt : ∀ (P : Program) (w : World) (base : Heap), Prp P w K mg base CB "ties" "kept_ties"
theorem law_cal {P : Program} {w : World} {K : PySem.W.Frag} {mg : Str → Option Value} {base : Heap} {C CB fW fB : Addr} {fa : Addr} {fd : FuncData} (F : Facts K mg C CB fW fB) (Fd : Fun K "law" "law" (tp 65) fa fd) : FnOk P w K mg base CX0 8 fa fd ["_law_script"] (spLaw K) := by
  obtain ⟨fdW, iW⟩ := F.iW
  obtain ⟨fdB, iB⟩ := F.iB
  have T := F.T
  have c1 := ok_is_integer (P := P) (w := w) (base := base) F.d1 T
  have c2 := ok_is_within F.d2 T c1
  have c3 := ok_is_index F.d3 T c2
  have c4 := ok_is_rising_pair F.d4 T c3
  have c5 := ok_are_rising_pairs F.d5 T c4
  have c6 := ok_beside_lists (P := P) (w := w) (base := base) F.d6 T
  have c7 := ok_reached (P := P) (w := w) (base := base) F.d7 T
  have cBook := mk_book F.cB F.mB iB T c2 c5 c6 c7
  have cWeb := mk_web F.cW F.mW iW T c2 c5
  have c20 := ok_tied_of (P := P) (w := w) (base := base) F.d20 F.cB
  have c25 := ok_beside_of F.d25 F.cW c6
  have c27 := ok_is_land F.d27 T c3 (F.pWs P w base)
  have c28 := ok_land_numbers F.d28 T (F.pWs P w base)
  have c29 := ok_touching F.d29 T (F.pWp P w base)
  have c30 := ok_reached_lands F.d30 T c25
  have c32 := ok_are_lands F.d32 T c27 c28 c30 c29 (F.pBs P w base) (F.pBt P w base)
  have c36 := ok_pieces_of F.d36 T c25 c7
  have c37 := ok_pieces_left F.d37 T c36
  have c38 := ok_touch F.d38 T c25
  have c39 := ok_fits_chosen F.d39 T c20 c38
  have c40 := ok_chosen_pieces F.d40 T c39
  have c41 := ok_lots_of (P := P) (w := w) (base := base) F.d41 T
  have c42 := ok_check_lands F.d42 T c32
  have c43 := ok_all_standings (P := P) (w := w) (base := base) F.d43 T
  have c44 := ok_bears F.d44 T c2 c42 c43 c41 c40 c37
  have c45 := ok_weak F.d45 T c42 c43 c40 c37
  have c47 := ok_law_dice (P := P) (w := w) (base := base) F.d47 T
  have c48 := ok_law_draw (P := P) (w := w) (base := base) F.d48 T
  have c49 := ok_law_rows (P := P) (w := w) (base := base) F.d49 T
  have c50 := ok_law_piece (P := P) (w := w) (base := base) F.d50 T
  have c51 := ok_law_pieces F.d51 T c50
  have c52 := ok_law_touch (P := P) (w := w) (base := base) F.d52 T
  have c53 := ok_law_drawn_web F.d53 T c48
  have c54 := ok_law_touching (P := P) (w := w) (base := base) F.d54 T
  have c55 := ok_law_owners F.d55 T c48
  have c56 := ok_law_drawn_ties F.d56 T c48
  have c57 := ok_law_case F.d57 T c48 c53 c49 c55 c54 c56
  have c58 := ok_law_left F.d58 T c51
  have c59 := ok_law_remain F.d59 T c52
  have c60 := ok_law_lots (P := P) (w := w) (base := base) F.d60 T
  have c61 := ok_law_flag (P := P) (w := w) (base := base) F.d61 T
  have c62 := ok_law_all_parts F.d62 T c50
  have c63 := ok_law_by_parts F.d63 T c62 c59
  have c64 := ok_law_bears F.d64 T c60 c59 c58 c63
  exact ok_law Fd T c47 c48 c57 c49 cWeb cBook c64 c61 c44 c59 c58 c45
end Lw
/-! Nn: the facts, each from what k_is gives. -/
namespace Lw
open PySem PySem.Spec PyProof.Rows L2
section
variable {K : PySem.W.Frag} {mg : Str → Option Value} {h : Heap}
theorem tx_mk (X : K.In h) (G : h.Ns mainGlobals mg) {t1 t2 t3 t4 t5 t6 : Tok} (hn : ∀ x ∈ (["isinstance", "int", "bool", "tuple", "list", "set", "len", "all", "any", "range", "sorted", "sum", "min", "max", "abs", "enumerate", "reversed"] : List Str), PySem.W.nsIn K mainGlobals x = some none)
    (h1 : PySem.W.nsIn K mainGlobals "MOST_CONTENTS" = some (some (.int 8 t1))) (h2 : PySem.W.nsIn K mainGlobals "MOST_TIES" = some (some (.int 28 t2))) (h3 : PySem.W.nsIn K mainGlobals "MOST_STANDINGS" = some (some (.int 10000 t3)))
    (h4 : PySem.W.nsIn K mainGlobals "MOST_PUSHES" = some (some (.int 100000 t4))) (h5 : PySem.W.nsIn K mainGlobals "MOST_BROKEN" = some (some (.int 3 t5))) (h6 : PySem.W.nsIn K mainGlobals "MOST_TOGETHER" = some (some (.int 40 t6))) : Tx mg :=
  let no : ∀ x ∈ (["isinstance", "int", "bool", "tuple", "list", "set", "len", "all", "any", "range", "sorted", "sum", "min", "max", "abs", "enumerate", "reversed"] : List Str), mg x = none := fun x hx => PySem.W.mg_none_of X G (hn x hx)
  ⟨no _ (by simp), no _ (by simp), no _ (by simp), no _ (by simp), no _ (by simp), no _ (by simp), no _ (by simp), no _ (by simp), no _ (by simp), no _ (by simp), no _ (by simp), no _ (by simp), no _ (by simp), no _ (by simp), no _ (by simp), no _ (by simp), no _ (by simp),
    ⟨_, PySem.W.mg_of X G h1⟩, ⟨_, PySem.W.mg_of X G h2⟩, ⟨_, PySem.W.mg_of X G h3⟩, ⟨_, PySem.W.mg_of X G h4⟩, ⟨_, PySem.W.mg_of X G h5⟩, ⟨_, PySem.W.mg_of X G h6⟩⟩
theorem ck_mk (X : K.In h) (G : h.Ns mainGlobals mg) {x fp : Str} {C : Addr} (a : PySem.W.nsIn K mainGlobals x = some (some (.ref C))) (b : PySem.W.plainGet K C Str.empty = true) (c : PySem.W.hasDictIn K C = true) (d : PySem.W.plainOver K C = true)
    (e : PySem.W.findIn K (.ref C) "__setattr__" = some (some (.builtin "object.__setattr__"))) (n1 : PySem.W.findIn K (.ref C) "kept_size" = some none) (n2 : PySem.W.findIn K (.ref C) fp = some none) (n3 : PySem.W.findIn K (.ref C) "kept_facts" = some none) : Ck K mg x C fp :=
  ⟨PySem.W.mg_of X G a, ⟨b, c, d, e⟩, n1, n2, n3⟩
theorem init_mk {qual : Str} {st : Stmt} {f : Addr} {oc : Value} {od an : Option Addr} {osl : Array (Option Value)} {kV doc pm cdv ct : Value}
    (l : K.lookup f = some ⟨oc, od, .func (PySem.W.fnOf "__init__" qual (defArgs st) (defBody st) (defScope st) .none kV doc pm an cdv ct), osl⟩) (c : PySem.W.codeIn K cdv qual = true) (k : PySem.W.keepIn K (.ref f) = true) : ∃ fd, Fun K "__init__" qual st f fd := ⟨_, fun_mk l c k⟩
/-- a property as it stands in a class -/
structure PrF (K : PySem.W.Frag) (C : Addr) (f qual : Str) (st : Stmt) : Prop where
  ex : ∃ p g fd, PropOf K C f p g ∧ Fun K f qual st g fd
theorem pr_mk {C p g : Addr} {f qual : Str} {rest : List Value} {st : Stmt} {oc : Value} {od an : Option Addr} {osl : Array (Option Value)} {kV doc pm cdv ct : Value}
    (a : PySem.W.findIn K (.ref C) f = some (some (.ref p))) (b : PySem.W.specialIn K (.ref p) "__get__" = some (some (.builtin "property.__get__"))) (c : PySem.W.takesIn K (.ref p) = some true) (d : PySem.W.recIn K p "property" = some (.ref g :: rest))
    (e : K.lookup g = some ⟨oc, od, .func (PySem.W.fnOf f qual (defArgs st) (defBody st) (defScope st) .none kV doc pm an cdv ct), osl⟩) (k : PySem.W.codeIn K cdv qual = true) (kp : PySem.W.keepIn K (.ref g) = true) : PrF K C f qual st :=
  ⟨p, g, _, ⟨a, b, c, rest, d⟩, fun_mk e k kp⟩
theorem prp_of {C : Addr} {f kf qual : Str} {st : Stmt} {p1 p2 p3 : Pos} (F : PrF K C f qual st) (cl : Cls K C) (n : NoAttr K C kf) (S : FnScope ["self"] ["self"] (defScope st)) (hb : defBody st = [.Return (some (.Attribute (.Name "self" p1) kf p2)) p3])
    (hbind : ∀ (kV doc pm : Value) (an : Option Addr) (cdv ct : Value) (us : List Value), us.length = 1 → bindArgs (PySem.W.fnOf f qual (defArgs st) (defBody st) (defScope st) .none kV doc pm an cdv ct) ⟨us, []⟩ = pure ((["self"] : List Str).zip us))
    (P : Program) (w : World) (base : Heap) : Prp P w K mg base C f kf := by
  obtain ⟨p, g, fd, hp, Fn⟩ := F.ex
  have bi := Fn.binds (ps := ["self"]) hbind
  obtain ⟨oc, od, kV, doc, pm, an, cdv, ct, osl, rfl, lk, hcd⟩ := Fn.ex
  exact ⟨p, g, _, ["self"], cl, hp, fn_getter (k := 0) lk hcd S rfl hb cl n, bi⟩
theorem all17 (n1 : PySem.W.nsIn K mainGlobals "isinstance" = some none) (n2 : PySem.W.nsIn K mainGlobals "int" = some none) (n3 : PySem.W.nsIn K mainGlobals "bool" = some none) (n4 : PySem.W.nsIn K mainGlobals "tuple" = some none) (n5 : PySem.W.nsIn K mainGlobals "list" = some none) (n6 : PySem.W.nsIn K mainGlobals "set" = some none) (n7 : PySem.W.nsIn K mainGlobals "len" = some none) (n8 : PySem.W.nsIn K mainGlobals "all" = some none) (n9 : PySem.W.nsIn K mainGlobals "any" = some none) (n10 : PySem.W.nsIn K mainGlobals "range" = some none) (n11 : PySem.W.nsIn K mainGlobals "sorted" = some none) (n12 : PySem.W.nsIn K mainGlobals "sum" = some none) (n13 : PySem.W.nsIn K mainGlobals "min" = some none) (n14 : PySem.W.nsIn K mainGlobals "max" = some none) (n15 : PySem.W.nsIn K mainGlobals "abs" = some none) (n16 : PySem.W.nsIn K mainGlobals "enumerate" = some none) (n17 : PySem.W.nsIn K mainGlobals "reversed" = some none) :
    ∀ x ∈ (["isinstance", "int", "bool", "tuple", "list", "set", "len", "all", "any", "range", "sorted", "sum", "min", "max", "abs", "enumerate", "reversed"] : List Str), PySem.W.nsIn K mainGlobals x = some none := by
  intro x hx
  simp only [List.mem_cons, List.not_mem_nil, or_false] at hx
  rcases hx with rfl | rfl | rfl | rfl | rfl | rfl | rfl | rfl | rfl | rfl | rfl | rfl | rfl | rfl | rfl | rfl | rfl
  all_goals assumption
theorem facts_law {P : Program} {w : World} {fa C CB fW fB : Addr} (_X : K.In h) (_G : h.Ns mainGlobals mg) (hmg : mg "law" = some (.ref fa)) (T : Tx mg)
    (d1 : Dn K mg "is_integer" "is_integer" (tp 1))
    (d2 : Dn K mg "is_within" "is_within" (tp 2))
    (d3 : Dn K mg "is_index" "is_index" (tp 3))
    (d4 : Dn K mg "is_rising_pair" "is_rising_pair" (tp 4))
    (d5 : Dn K mg "are_rising_pairs" "are_rising_pairs" (tp 5))
    (d6 : Dn K mg "beside_lists" "beside_lists" (tp 6))
    (d7 : Dn K mg "reached_checks" "reached" (tp 7))
    (d20 : Dn K mg "tied_of" "tied_of" (tp 20))
    (d25 : Dn K mg "beside_of" "beside_of" (tp 25))
    (d27 : Dn K mg "is_land" "is_land" (tp 27))
    (d28 : Dn K mg "land_numbers" "land_numbers" (tp 28))
    (d29 : Dn K mg "touching" "touching" (tp 29))
    (d30 : Dn K mg "reached_lands" "reached" (tp 30))
    (d32 : Dn K mg "are_lands" "are_lands" (tp 32))
    (d36 : Dn K mg "pieces_of" "pieces_of" (tp 36))
    (d37 : Dn K mg "pieces_left" "pieces_left" (tp 37))
    (d38 : Dn K mg "touch" "touch" (tp 38))
    (d39 : Dn K mg "fits_chosen" "fits_chosen" (tp 39))
    (d40 : Dn K mg "chosen_pieces" "chosen_pieces" (tp 40))
    (d41 : Dn K mg "lots_of" "lots_of" (tp 41))
    (d42 : Dn K mg "check_lands" "check_lands" (tp 42))
    (d43 : Dn K mg "all_standings" "all_standings" (tp 43))
    (d44 : Dn K mg "bears" "bears" (tp 44))
    (d45 : Dn K mg "weak" "weak" (tp 45))
    (d47 : Dn K mg "_law_dice" "_law_dice" (tp 47))
    (d48 : Dn K mg "_law_draw" "_law_draw" (tp 48))
    (d49 : Dn K mg "_law_rows" "_law_rows" (tp 49))
    (d50 : Dn K mg "_law_piece" "_law_piece" (tp 50))
    (d51 : Dn K mg "_law_pieces" "_law_pieces" (tp 51))
    (d52 : Dn K mg "_law_touch" "_law_touch" (tp 52))
    (d53 : Dn K mg "_law_drawn_web" "_law_drawn_web" (tp 53))
    (d54 : Dn K mg "_law_touching" "_law_touching" (tp 54))
    (d55 : Dn K mg "_law_owners" "_law_owners" (tp 55))
    (d56 : Dn K mg "_law_drawn_ties" "_law_drawn_ties" (tp 56))
    (d57 : Dn K mg "_law_case" "_law_case" (tp 57))
    (d58 : Dn K mg "_law_left" "_law_left" (tp 58))
    (d59 : Dn K mg "_law_remain" "_law_remain" (tp 59))
    (d60 : Dn K mg "_law_lots" "_law_lots" (tp 60))
    (d61 : Dn K mg "_law_flag" "_law_flag" (tp 61))
    (d62 : Dn K mg "_law_all_parts" "_law_all_parts" (tp 62))
    (d63 : Dn K mg "_law_by_parts" "_law_by_parts" (tp 63))
    (d64 : Dn K mg "_law_bears" "_law_bears" (tp 64))
    (d65 : Dn K mg "law" "law" (tp 65)) (cW : Ck K mg "Web" C "kept_pushes") (cB : Ck K mg "Book" CB "kept_ties") (mW : Mk K C fW) (mB : Mk K CB fB) (iW : ∃ fd, Fun K "__init__" "Web.__init__" (inClass (tp 24) 0) fW fd) (iB : ∃ fd, Fun K "__init__" "Book.__init__" (inClass (tp 19) 0) fB fd)
    (pWs : PrF K C "size" "Web.size" (inClass (tp 24) 2)) (pWp : PrF K C "pushes" "Web.pushes" (inClass (tp 24) 3)) (pBs : PrF K CB "size" "Book.size" (inClass (tp 19) 2)) (pBt : PrF K CB "ties" "Book.ties" (inClass (tp 19) 3)) :
    ∃ fd : FuncData, (∀ (s : Shared) (u : Value), BindsTo s fd ⟨[u], []⟩ [("_law_script", u)]) ∧ ∀ base : Heap, K.In base → base.Ns mainGlobals mg → FnOk P w K mg base CX0 8 fa fd ["_law_script"] (spLaw K) := by
  obtain ⟨f, fd, Fn, m⟩ := d65.ex
  have e : f = fa := by
    rw [m] at hmg
    cases hmg
    rfl
  subst e
  have F : Facts K mg C CB fW fB := ⟨T, d1, d2, d3, d4, d5, d6, d7, d20, d25, d27, d28, d29, d30, d32, d36, d37, d38, d39, d40, d41, d42, d43, d44, d45, d47, d48, d49, d50, d51, d52, d53, d54, d55, d56, d57, d58, d59, d60, d61, d62, d63, d64, cW, cB, mW, mB, iW, iB,
    prp_of pWs cW.cl cW.nS ⟨rfl, rfl, rfl, by decide +kernel, rfl, by decide +kernel, by decide +kernel⟩ rfl (fun _ _ _ _ _ _ us hl => match us, hl with | [_], _ => rfl),
    prp_of pWp cW.cl cW.nP ⟨rfl, rfl, rfl, by decide +kernel, rfl, by decide +kernel, by decide +kernel⟩ rfl (fun _ _ _ _ _ _ us hl => match us, hl with | [_], _ => rfl),
    prp_of pBs cB.cl cB.nS ⟨rfl, rfl, rfl, by decide +kernel, rfl, by decide +kernel, by decide +kernel⟩ rfl (fun _ _ _ _ _ _ us hl => match us, hl with | [_], _ => rfl),
    prp_of pBt cB.cl cB.nP ⟨rfl, rfl, rfl, by decide +kernel, rfl, by decide +kernel, by decide +kernel⟩ rfl (fun _ _ _ _ _ _ us hl => match us, hl with | [_], _ => rfl)⟩
  have ok : ∀ base : Heap, FnOk P w K mg base CX0 8 f fd ["_law_script"] (spLaw K) := fun base => law_cal F Fn
  obtain ⟨oc, od, kV, doc, pm, an, cdv, ct, osl, rfl, _, _⟩ := Fn.ex
  exact ⟨_, fun s v => .of_eq rfl, fun base _ _ => ok base⟩
theorem walk {l : PySem.W.OpenLaw} {q : Program} {loose : List Str} {XP : (Str → Option Value) → Heap → Prop} {YP : World → Heap → Prop} {d : DefRec} {K : Params → PySem.W.Frag} (hn : l.most = some 63) (hdf : d.params.defaults = [])
    (hY : ∀ (w : World) (h : Heap), YP w h → (K w.params).In h)
    (F : ∀ (w : World) (mg : Str → Option Value) (fa : Addr) (h : Heap), (K w.params).In h → h.Ns mainGlobals mg → mg d.name = some (.ref fa) →
      ∃ fd : FuncData, (∀ (s : Shared) (u : Value), BindsTo s fd ⟨[u], []⟩ [("_law_script", u)]) ∧ ∀ base : Heap, (K w.params).In base → base.Ns mainGlobals mg → FnOk l.prog w (K w.params) mg base CX0 8 fa fd ["_law_script"] (spLaw (K w.params))) :
    PySem.W.WalkO q loose XP YP l.row.toRowW d [] (fun f vs => PySem.call f vs) :=
  L2.walk_of (n := 63) (k := 8) (x := "_law_script") (CX := fun _ => CX0) (sp := fun w => spLaw (K w.params)) hn (by decide) hdf ⟨rfl, by decide, by decide⟩ hY F (fun _ _ a ns hl _ hS => ⟨a, ns, rfl, hS, hl, fun _ => rfl⟩) fun _ _ _ _ _ z => z
end
end Lw
set_option maxHeartbeats 0
open PySem PySem.W PyProof.Rows
open_top headLw for PySem.Challenge.rw_storelands_k81_whole_which_lands_bear
theorem PySem.Challenge.cw_storelands_k81_whole_which_lands_bear_holds : PySem.Challenge.rw_storelands_k81_whole_which_lands_bear.Holds := by
  refine headLw ?_
  k_fill
  refine Lw.walk (l := PySem.Challenge.rw_storelands_k81_whole_which_lands_bear) rfl rfl (fun w h Y => PySem.W.kIn_of Y) ?F
  case F =>
    intro w mg fa h KX G hmg
    refine' Lw.facts_law KX G hmg ?T ?d1 ?d2 ?d3 ?d4 ?d5 ?d6 ?d7 ?d20 ?d25 ?d27 ?d28 ?d29 ?d30 ?d32 ?d36 ?d37 ?d38 ?d39 ?d40 ?d41 ?d42 ?d43 ?d44 ?d45 ?d47 ?d48 ?d49 ?d50 ?d51 ?d52 ?d53 ?d54 ?d55 ?d56 ?d57 ?d58 ?d59 ?d60 ?d61 ?d62 ?d63 ?d64 ?d65 ?cW ?cB ?mW ?mB ?iW ?iB ?pWs ?pWp ?pBs ?pBt
    (case T => (refine' Lw.tx_mk KX G ?hn ?h1 ?h2 ?h3 ?h4 ?h5 ?h6; (case hn => (refine' Lw.all17 ?n1 ?n2 ?n3 ?n4 ?n5 ?n6 ?n7 ?n8 ?n9 ?n10 ?n11 ?n12 ?n13 ?n14 ?n15 ?n16 ?n17; (case n1 => k_is); (case n2 => k_is); (case n3 => k_is); (case n4 => k_is); (case n5 => k_is); (case n6 => k_is); (case n7 => k_is); (case n8 => k_is); (case n9 => k_is); (case n10 => k_is); (case n11 => k_is); (case n12 => k_is); (case n13 => k_is); (case n14 => k_is); (case n15 => k_is); (case n16 => k_is); (case n17 => k_is))); (case h1 => k_is); (case h2 => k_is); (case h3 => k_is); (case h4 => k_is); (case h5 => k_is); (case h6 => k_is)))
    (case d1 => (refine' Lw.dn_mk KX G ?a ?b ?c ?d; (case a => k_is); (case b => k_is); (case c => k_is); (case d => k_is)))
    (case d2 => (refine' Lw.dn_mk KX G ?a ?b ?c ?d; (case a => k_is); (case b => k_is); (case c => k_is); (case d => k_is)))
    (case d3 => (refine' Lw.dn_mk KX G ?a ?b ?c ?d; (case a => k_is); (case b => k_is); (case c => k_is); (case d => k_is)))
    (case d4 => (refine' Lw.dn_mk KX G ?a ?b ?c ?d; (case a => k_is); (case b => k_is); (case c => k_is); (case d => k_is)))
    (case d5 => (refine' Lw.dn_mk KX G ?a ?b ?c ?d; (case a => k_is); (case b => k_is); (case c => k_is); (case d => k_is)))
    (case d6 => (refine' Lw.dn_mk KX G ?a ?b ?c ?d; (case a => k_is); (case b => k_is); (case c => k_is); (case d => k_is)))
    (case d7 => (refine' Lw.dn_mk KX G ?a ?b ?c ?d; (case a => k_is); (case b => k_is); (case c => k_is); (case d => k_is)))
    (case d20 => (refine' Lw.dn_mk KX G ?a ?b ?c ?d; (case a => k_is); (case b => k_is); (case c => k_is); (case d => k_is)))
    (case d25 => (refine' Lw.dn_mk KX G ?a ?b ?c ?d; (case a => k_is); (case b => k_is); (case c => k_is); (case d => k_is)))
    (case d27 => (refine' Lw.dn_mk KX G ?a ?b ?c ?d; (case a => k_is); (case b => k_is); (case c => k_is); (case d => k_is)))
    (case d28 => (refine' Lw.dn_mk KX G ?a ?b ?c ?d; (case a => k_is); (case b => k_is); (case c => k_is); (case d => k_is)))
    (case d29 => (refine' Lw.dn_mk KX G ?a ?b ?c ?d; (case a => k_is); (case b => k_is); (case c => k_is); (case d => k_is)))
    (case d30 => (refine' Lw.dn_mk KX G ?a ?b ?c ?d; (case a => k_is); (case b => k_is); (case c => k_is); (case d => k_is)))
    (case d32 => (refine' Lw.dn_mk KX G ?a ?b ?c ?d; (case a => k_is); (case b => k_is); (case c => k_is); (case d => k_is)))
    (case d36 => (refine' Lw.dn_mk KX G ?a ?b ?c ?d; (case a => k_is); (case b => k_is); (case c => k_is); (case d => k_is)))
    (case d37 => (refine' Lw.dn_mk KX G ?a ?b ?c ?d; (case a => k_is); (case b => k_is); (case c => k_is); (case d => k_is)))
    (case d38 => (refine' Lw.dn_mk KX G ?a ?b ?c ?d; (case a => k_is); (case b => k_is); (case c => k_is); (case d => k_is)))
    (case d39 => (refine' Lw.dn_mk KX G ?a ?b ?c ?d; (case a => k_is); (case b => k_is); (case c => k_is); (case d => k_is)))
    (case d40 => (refine' Lw.dn_mk KX G ?a ?b ?c ?d; (case a => k_is); (case b => k_is); (case c => k_is); (case d => k_is)))
    (case d41 => (refine' Lw.dn_mk KX G ?a ?b ?c ?d; (case a => k_is); (case b => k_is); (case c => k_is); (case d => k_is)))
    (case d42 => (refine' Lw.dn_mk KX G ?a ?b ?c ?d; (case a => k_is); (case b => k_is); (case c => k_is); (case d => k_is)))
    (case d43 => (refine' Lw.dn_mk KX G ?a ?b ?c ?d; (case a => k_is); (case b => k_is); (case c => k_is); (case d => k_is)))
    (case d44 => (refine' Lw.dn_mk KX G ?a ?b ?c ?d; (case a => k_is); (case b => k_is); (case c => k_is); (case d => k_is)))
    (case d45 => (refine' Lw.dn_mk KX G ?a ?b ?c ?d; (case a => k_is); (case b => k_is); (case c => k_is); (case d => k_is)))
    (case d47 => (refine' Lw.dn_mk KX G ?a ?b ?c ?d; (case a => k_is); (case b => k_is); (case c => k_is); (case d => k_is)))
    (case d48 => (refine' Lw.dn_mk KX G ?a ?b ?c ?d; (case a => k_is); (case b => k_is); (case c => k_is); (case d => k_is)))
    (case d49 => (refine' Lw.dn_mk KX G ?a ?b ?c ?d; (case a => k_is); (case b => k_is); (case c => k_is); (case d => k_is)))
    (case d50 => (refine' Lw.dn_mk KX G ?a ?b ?c ?d; (case a => k_is); (case b => k_is); (case c => k_is); (case d => k_is)))
    (case d51 => (refine' Lw.dn_mk KX G ?a ?b ?c ?d; (case a => k_is); (case b => k_is); (case c => k_is); (case d => k_is)))
    (case d52 => (refine' Lw.dn_mk KX G ?a ?b ?c ?d; (case a => k_is); (case b => k_is); (case c => k_is); (case d => k_is)))
    (case d53 => (refine' Lw.dn_mk KX G ?a ?b ?c ?d; (case a => k_is); (case b => k_is); (case c => k_is); (case d => k_is)))
    (case d54 => (refine' Lw.dn_mk KX G ?a ?b ?c ?d; (case a => k_is); (case b => k_is); (case c => k_is); (case d => k_is)))
    (case d55 => (refine' Lw.dn_mk KX G ?a ?b ?c ?d; (case a => k_is); (case b => k_is); (case c => k_is); (case d => k_is)))
    (case d56 => (refine' Lw.dn_mk KX G ?a ?b ?c ?d; (case a => k_is); (case b => k_is); (case c => k_is); (case d => k_is)))
    (case d57 => (refine' Lw.dn_mk KX G ?a ?b ?c ?d; (case a => k_is); (case b => k_is); (case c => k_is); (case d => k_is)))
    (case d58 => (refine' Lw.dn_mk KX G ?a ?b ?c ?d; (case a => k_is); (case b => k_is); (case c => k_is); (case d => k_is)))
    (case d59 => (refine' Lw.dn_mk KX G ?a ?b ?c ?d; (case a => k_is); (case b => k_is); (case c => k_is); (case d => k_is)))
    (case d60 => (refine' Lw.dn_mk KX G ?a ?b ?c ?d; (case a => k_is); (case b => k_is); (case c => k_is); (case d => k_is)))
    (case d61 => (refine' Lw.dn_mk KX G ?a ?b ?c ?d; (case a => k_is); (case b => k_is); (case c => k_is); (case d => k_is)))
    (case d62 => (refine' Lw.dn_mk KX G ?a ?b ?c ?d; (case a => k_is); (case b => k_is); (case c => k_is); (case d => k_is)))
    (case d63 => (refine' Lw.dn_mk KX G ?a ?b ?c ?d; (case a => k_is); (case b => k_is); (case c => k_is); (case d => k_is)))
    (case d64 => (refine' Lw.dn_mk KX G ?a ?b ?c ?d; (case a => k_is); (case b => k_is); (case c => k_is); (case d => k_is)))
    (case d65 => (refine' Lw.dn_mk KX G ?a ?b ?c ?d; (case a => k_is); (case b => k_is); (case c => k_is); (case d => k_is)))
    (case cW => (refine' Lw.ck_mk KX G ?a ?b ?c ?d ?e ?n1 ?n2 ?n3; (case a => k_is); (case b => k_is); (case c => k_is); (case d => k_is); (case e => k_is); (case n1 => k_is); (case n2 => k_is); (case n3 => k_is)))
    (case cB => (refine' Lw.ck_mk KX G ?a ?b ?c ?d ?e ?n1 ?n2 ?n3; (case a => k_is); (case b => k_is); (case c => k_is); (case d => k_is); (case e => k_is); (case n1 => k_is); (case n2 => k_is); (case n3 => k_is)))
    (case mW => (refine' L2.Mk.mk ?a ?b ?c ?d; (case a => k_is); (case b => k_is); (case c => k_is); (case d => k_is)))
    (case mB => (refine' L2.Mk.mk ?a ?b ?c ?d; (case a => k_is); (case b => k_is); (case c => k_is); (case d => k_is)))
    (case iW => (refine' Lw.init_mk ?a ?b ?c; (case a => k_is); (case b => k_is); (case c => k_is)))
    (case iB => (refine' Lw.init_mk ?a ?b ?c; (case a => k_is); (case b => k_is); (case c => k_is)))
    (case pWs => (refine' Lw.pr_mk ?a ?b ?c ?d ?e ?f ?g; (case a => k_is); (case b => k_is); (case c => k_is); (case d => k_is); (case e => k_is); (case f => k_is); (case g => k_is)))
    (case pWp => (refine' Lw.pr_mk ?a ?b ?c ?d ?e ?f ?g; (case a => k_is); (case b => k_is); (case c => k_is); (case d => k_is); (case e => k_is); (case f => k_is); (case g => k_is)))
    (case pBs => (refine' Lw.pr_mk ?a ?b ?c ?d ?e ?f ?g; (case a => k_is); (case b => k_is); (case c => k_is); (case d => k_is); (case e => k_is); (case f => k_is); (case g => k_is)))
    (case pBt => (refine' Lw.pr_mk ?a ?b ?c ?d ?e ?f ?g; (case a => k_is); (case b => k_is); (case c => k_is); (case d => k_is); (case e => k_is); (case f => k_is); (case g => k_is)))
