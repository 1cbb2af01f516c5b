import PyProof.Rows.All
import Wide.All
import OpenK.AllK
import Wide.FinOn
import HandS.ForMost
import HandS.ForExc
import HandS.CallSlots
import HandS.Walk
import HandS.Flow
import HandS.Lambda
import HandS.Deep
import HandS.TupAny
import HandS.TupMul
import HandS.Wide
import KE.GoesEnum
import HandS.Zip
import HandS.Style
import HandS.IsInst
import HandS.SortInts
import HandS.SortRule
import HandS.Text
import KE.KSuper
import KE.KExcSuper
import HandS.ExcInit
import HandS.ExcOwn
import HandS.ExcSuper
import HandS.ExcField
import HandS.EndTab
import PySem.Challenge.RW_beadrods_k00_whole_rods
set_option Elab.async false
set_option linter.all false
set_option maxRecDepth 100000
set_option maxHeartbeats 3900000
namespace PX
open PySem L2

/-! pure values; a flag tells what is owned -/
inductive PV where
  | non
  | bl (b : Bool)
  | int (i : Int)
  | str (x : Str)
  | lst (o : Bool) (xs : List PV)
  | tup (xs : List PV)
  | scr (xs : List PV)
  | ins (o : Bool) (c : Str) (fs : List Str) (xs : List PV)
  | dK (o : Bool) (ks : List Key) (xs : List PV)
  | dT (o : Bool) (ks : List (List Key)) (xs : List PV)

mutual
def frz : PV → PV
  | .non => .non
  | .bl b => .bl b
  | .int i => .int i
  | .str x => .str x
  | .lst _ xs => .lst false (frzL xs)
  | .tup xs => .tup (frzL xs)
  | .scr xs => .scr (frzL xs)
  | .ins _ c fs xs => .ins false c fs (frzL xs)
  | .dK _ ks xs => .dK false ks (frzL xs)
  | .dT _ ks xs => .dT false ks (frzL xs)
def frzL : List PV → List PV
  | [] => []
  | x :: xs => frz x :: frzL xs
end
mutual
def fz : PV → Bool
  | .non => true
  | .bl _ => true
  | .int _ => true
  | .str _ => true
  | .lst o xs => !o && fzL xs
  | .tup xs => fzL xs
  | .scr xs => fzL xs
  | .ins o _ _ xs => !o && fzL xs
  | .dK o _ xs => !o && fzL xs
  | .dT o _ xs => !o && fzL xs
def fzL : List PV → Bool
  | [] => true
  | x :: xs => fz x && fzL xs
end

abbrev Frag := PySem.W.Frag
abbrev Mg := Str → Option Value
def Sub (F H : Hp) : Prop := ∀ a o, F a = some o → H a = some o
theorem Sub.refl (F : Hp) : Sub F F := fun _ _ h => h
theorem Sub.trans {F G H : Hp} (a : Sub F G) (b : Sub G H) : Sub F H := fun c o h => b c o (a c o h)
theorem Sub.rd {F H : Hp} (s : Sub F H) {a : Addr} {u : HO} (r : Rd F a u) : Rd H a u := r.elim (fun h => .inl (s _ _ h)) fun ⟨o, h⟩ => .inr ⟨o, s _ _ h⟩
theorem Sub.seqL {F H : Hp} (s : Sub F H) {K : Frag} {a : Addr} {vs : List V} (r : Rd F a (.lst vs)) : SqL K H a vs := .inl (s.rd r)
theorem Sub.seqLL {F H : Hp} (s : Sub F H) {K : Frag} {a : Addr} {vs : List V} (r : SqL K F a vs) : SqL K H a vs := r.elim (fun h => .inl (s.rd h)) .inr
theorem Sub.seqT {F H : Hp} (s : Sub F H) {K : Frag} {a : Addr} {vs : List V} (r : SqT K F a vs) : SqT K H a vs := r.elim (fun h => .inl (s.rd h)) .inr

section
variable (K : Frag) (mg : Mg)
-- a value that never changes, by the frozen part F
mutual
def Fz (F : Hp) : PV → V → Prop
  | .non, v => v = .non
  | .bl b, v => v = .bl b
  | .int i, v => v = .int i
  | .str x, v => v = .str x
  | .lst o xs, v => o = false ∧ ∃ a vs, v = .ref a ∧ Rd F a (.lst vs) ∧ FzL F xs vs
  | .tup xs, v => ∃ a vs, v = .ref a ∧ SqT K F a vs ∧ FzL F xs vs
  | .scr xs, v => ∃ a vs, v = .ref a ∧ SqL K F a vs ∧ FzL F xs vs
  | .ins o c fs xs, v => o = false ∧ ∃ a C dx vs, v = .ref a ∧ mg c = some (.ref C) ∧ F a = some (.ins C dx (fs.zip vs)) ∧ fs.length = vs.length ∧ FzL F xs vs
  | .dK o ks xs, v => o = false ∧ ∃ a vs, v = .ref a ∧ F a = some (.dK (ks.zip vs)) ∧ ks.length = vs.length ∧ FzL F xs vs
  | .dT o ks xs, v => o = false ∧ ∃ a vs, v = .ref a ∧ F a = some (.dT (ks.zip vs)) ∧ ks.length = vs.length ∧ FzL F xs vs
def FzL (F : Hp) : List PV → List V → Prop
  | [], vs => vs = []
  | x :: xs, vs => ∃ v vr, vs = v :: vr ∧ Fz F x v ∧ FzL F xs vr
end
/-- the labels of an owned tree: its addresses, by the way to them -/
abbrev LM := Addr → Option (List Nat)
-- a value that may be owned in part
mutual
def Val (F H : Hp) (L : LM) : List Nat → PV → V → Prop
  | _, .non, v => v = .non
  | _, .bl b, v => v = .bl b
  | _, .int i, v => v = .int i
  | _, .str x, v => v = .str x
  | w, .lst o xs, v => ∃ a vs, v = .ref a ∧ (if o = true then L a = some w ∧ H a = some (.lst vs) ∧ ValL F H L w 0 xs vs else Rd F a (.lst vs) ∧ FzL K mg F xs vs)
  | _, .tup xs, v => ∃ a vs, v = .ref a ∧ SqT K F a vs ∧ FzL K mg F xs vs
  | _, .scr xs, v => ∃ a vs, v = .ref a ∧ SqL K F a vs ∧ FzL K mg F xs vs
  | w, .ins o c fs xs, v => ∃ a C dx vs, v = .ref a ∧ mg c = some (.ref C) ∧ fs.length = vs.length ∧ (if o = true then L a = some w ∧ H a = some (.ins C dx (fs.zip vs)) ∧ ValL F H L w 0 xs vs else F a = some (.ins C dx (fs.zip vs)) ∧ FzL K mg F xs vs)
  | w, .dK o ks xs, v => ∃ a vs, v = .ref a ∧ ks.length = vs.length ∧ (if o = true then L a = some w ∧ H a = some (.dK (ks.zip vs)) ∧ FzL K mg F xs vs else F a = some (.dK (ks.zip vs)) ∧ FzL K mg F xs vs)
  | w, .dT o ks xs, v => ∃ a vs, v = .ref a ∧ ks.length = vs.length ∧ (if o = true then L a = some w ∧ H a = some (.dT (ks.zip vs)) ∧ FzL K mg F xs vs else F a = some (.dT (ks.zip vs)) ∧ FzL K mg F xs vs)
def ValL (F H : Hp) (L : LM) : List Nat → Nat → List PV → List V → Prop
  | _, _, [], vs => vs = []
  | w, j, x :: xs, vs => ∃ v vr, vs = v :: vr ∧ Val F H L (w ++ [j]) x v ∧ ValL F H L w (j + 1) xs vr
end
end

section
variable {K : Frag} {mg : Mg} {F F' H H' : Hp} {L : LM}
mutual
theorem Fz.mono (s : Sub F F') : ∀ (p : PV) (v : V), Fz K mg F p v → Fz K mg F' p v
  | .non, _, h => by simpa [Fz] using h
  | .bl _, _, h => by simpa [Fz] using h
  | .int _, _, h => by simpa [Fz] using h
  | .str _, _, h => by simpa [Fz] using h
  | .lst o xs, v, h => by
    simp only [Fz] at h ⊢
    obtain ⟨ho, a, vs, e, q, r⟩ := h
    exact ⟨ho, a, vs, e, s.rd q, FzL.mono s xs vs r⟩
  | .tup xs, v, h => by
    simp only [Fz] at h ⊢
    obtain ⟨a, vs, e, q, r⟩ := h
    exact ⟨a, vs, e, s.seqT q, FzL.mono s xs vs r⟩
  | .scr xs, v, h => by
    simp only [Fz] at h ⊢
    obtain ⟨a, vs, e, q, r⟩ := h
    exact ⟨a, vs, e, s.seqLL q, FzL.mono s xs vs r⟩
  | .ins o c fs xs, v, h => by
    simp only [Fz] at h ⊢
    obtain ⟨ho, a, C, dx, vs, e, q1, q2, q3, r⟩ := h
    exact ⟨ho, a, C, dx, vs, e, q1, s _ _ q2, q3, FzL.mono s xs vs r⟩
  | .dK o ks xs, v, h => by
    simp only [Fz] at h ⊢
    obtain ⟨ho, a, vs, e, q1, q2, r⟩ := h
    exact ⟨ho, a, vs, e, s _ _ q1, q2, FzL.mono s xs vs r⟩
  | .dT o ks xs, v, h => by
    simp only [Fz] at h ⊢
    obtain ⟨ho, a, vs, e, q1, q2, r⟩ := h
    exact ⟨ho, a, vs, e, s _ _ q1, q2, FzL.mono s xs vs r⟩
theorem FzL.mono (s : Sub F F') : ∀ (xs : List PV) (vs : List V), FzL K mg F xs vs → FzL K mg F' xs vs
  | [], _, h => by simpa [FzL] using h
  | x :: xs, vs, h => by
    simp only [FzL] at h ⊢
    obtain ⟨v, vr, e, h1, h2⟩ := h
    exact ⟨v, vr, e, Fz.mono s x v h1, FzL.mono s xs vr h2⟩
end
mutual
theorem Fz.flag : ∀ (p : PV) (v : V), Fz K mg F p v → fz p = true ∧ frz p = p
  | .non, _, h => by simp [fz, frz]
  | .bl _, _, h => by simp [fz, frz]
  | .int _, _, h => by simp [fz, frz]
  | .str _, _, h => by simp [fz, frz]
  | .lst o xs, v, h => by
    simp only [Fz] at h
    obtain ⟨ho, a, vs, e, q, r⟩ := h
    have := FzL.flag xs vs r
    simp [fz, frz, ho, this]
  | .tup xs, v, h => by
    simp only [Fz] at h
    obtain ⟨a, vs, e, q, r⟩ := h
    have := FzL.flag xs vs r
    simp [fz, frz, this]
  | .scr xs, v, h => by
    simp only [Fz] at h
    obtain ⟨a, vs, e, q, r⟩ := h
    have := FzL.flag xs vs r
    simp [fz, frz, this]
  | .ins o c fs xs, v, h => by
    simp only [Fz] at h
    obtain ⟨ho, a, C, dx, vs, e, q1, q2, q3, r⟩ := h
    have := FzL.flag xs vs r
    simp [fz, frz, ho, this]
  | .dK o ks xs, v, h => by
    simp only [Fz] at h
    obtain ⟨ho, a, vs, e, q1, q2, r⟩ := h
    have := FzL.flag xs vs r
    simp [fz, frz, ho, this]
  | .dT o ks xs, v, h => by
    simp only [Fz] at h
    obtain ⟨ho, a, vs, e, q1, q2, r⟩ := h
    have := FzL.flag xs vs r
    simp [fz, frz, ho, this]
theorem FzL.flag : ∀ (xs : List PV) (vs : List V), FzL K mg F xs vs → fzL xs = true ∧ frzL xs = xs
  | [], _, h => by simp [fzL, frzL]
  | x :: xs, vs, h => by
    simp only [FzL] at h
    obtain ⟨v, vr, e, h1, h2⟩ := h
    have a := Fz.flag x v h1
    have b := FzL.flag xs vr h2
    simp [fzL, frzL, a, b]
end
/-- a frozen value, as one that may be owned -/
theorem Fz.val : ∀ {p : PV} {v : V} {w : List Nat}, Fz K mg F p v → Val K mg F H L w p v := by
  intro p v w h
  cases p with
  | non => simpa [Val, Fz] using h
  | bl _ => simpa [Val, Fz] using h
  | int _ => simpa [Val, Fz] using h
  | str _ => simpa [Val, Fz] using h
  | lst o xs =>
    simp only [Fz] at h
    obtain ⟨ho, a, vs, e, q, r⟩ := h
    subst ho
    simp only [Val]
    exact ⟨a, vs, e, by simp [q, r]⟩
  | tup xs => simpa [Val, Fz] using h
  | scr xs => simpa [Val, Fz] using h
  | ins o c fs xs =>
    simp only [Fz] at h
    obtain ⟨ho, a, C, dx, vs, e, q1, q2, q3, r⟩ := h
    subst ho
    simp only [Val]
    exact ⟨a, C, dx, vs, e, q1, q3, by simp [q2, r]⟩
  | dK o ks xs =>
    simp only [Fz] at h
    obtain ⟨ho, a, vs, e, q1, q2, r⟩ := h
    subst ho
    simp only [Val]
    exact ⟨a, vs, e, q2, by simp [q1, r]⟩
  | dT o ks xs =>
    simp only [Fz] at h
    obtain ⟨ho, a, vs, e, q1, q2, r⟩ := h
    subst ho
    simp only [Val]
    exact ⟨a, vs, e, q2, by simp [q1, r]⟩
mutual
theorem Val.fzz : ∀ (w : List Nat) (p : PV) (v : V), Val K mg F H L w p v → fz p = true → Fz K mg F p v
  | w, .non, _, h, _ => by simpa [Val, Fz] using h
  | w, .bl _, _, h, _ => by simpa [Val, Fz] using h
  | w, .int _, _, h, _ => by simpa [Val, Fz] using h
  | w, .str _, _, h, _ => by simpa [Val, Fz] using h
  | w, .lst o xs, v, h, hf => by
    simp only [fz, Bool.and_eq_true, Bool.not_eq_true'] at hf
    obtain ⟨ho, hf⟩ := hf
    subst ho
    simp only [Val] at h
    obtain ⟨a, vs, e, q⟩ := h
    simp only [Fz]
    exact ⟨trivial, a, vs, e, by simpa using q⟩
  | w, .tup xs, v, h, hf => by simpa [Val, Fz] using h
  | w, .scr xs, v, h, hf => by simpa [Val, Fz] using h
  | w, .ins o c fs xs, v, h, hf => by
    simp only [fz, Bool.and_eq_true, Bool.not_eq_true'] at hf
    obtain ⟨ho, hf⟩ := hf
    subst ho
    simp only [Val] at h
    obtain ⟨a, C, dx, vs, e, q1, q3, q⟩ := h
    simp only [Fz]
    simp only [Bool.false_eq_true, if_false] at q
    exact ⟨trivial, a, C, dx, vs, e, q1, q.1, q3, q.2⟩
  | w, .dK o ks xs, v, h, hf => by
    simp only [fz, Bool.and_eq_true, Bool.not_eq_true'] at hf
    obtain ⟨ho, hf⟩ := hf
    subst ho
    simp only [Val] at h
    obtain ⟨a, vs, e, q1, q⟩ := h
    simp only [Bool.false_eq_true, if_false] at q
    simp only [Fz]
    exact ⟨trivial, a, vs, e, q.1, q1, q.2⟩
  | w, .dT o ks xs, v, h, hf => by
    simp only [fz, Bool.and_eq_true, Bool.not_eq_true'] at hf
    obtain ⟨ho, hf⟩ := hf
    subst ho
    simp only [Val] at h
    obtain ⟨a, vs, e, q1, q⟩ := h
    simp only [Bool.false_eq_true, if_false] at q
    simp only [Fz]
    exact ⟨trivial, a, vs, e, q.1, q1, q.2⟩
end
/-- what is kept: the frozen part grows, the labelled addresses under w stand -/
def Under (w : List Nat) (x : Option (List Nat)) : Prop := ∃ r, x = some (w ++ r)
theorem Under.sub {w : List Nat} {j : Nat} {x : Option (List Nat)} (h : Under (w ++ [j]) x) : Under w x := by
  obtain ⟨r, e⟩ := h
  exact ⟨j :: r, by rw [e]; simp⟩
mutual
theorem Val.frame (s : Sub F F') : ∀ (w : List Nat) (p : PV) (v : V), (∀ a, Under w (L a) → H' a = H a) → Val K mg F H L w p v → Val K mg F' H' L w p v
  | w, .non, _, _, h => by simpa [Val] using h
  | w, .bl _, _, _, h => by simpa [Val] using h
  | w, .int _, _, _, h => by simpa [Val] using h
  | w, .str _, _, _, h => by simpa [Val] using h
  | w, .lst o xs, v, k, h => by
    simp only [Val] at h ⊢
    obtain ⟨a, vs, e, q⟩ := h
    refine ⟨a, vs, e, ?_⟩
    cases o with
    | true =>
      simp only [if_true] at q ⊢
      exact ⟨q.1, by rw [k a ⟨[], by rw [q.1]; simp⟩]; exact q.2.1, ValL.frame s w 0 xs vs k q.2.2⟩
    | false =>
      simp only [Bool.false_eq_true, if_false] at q ⊢
      exact ⟨s.rd q.1, FzL.mono s xs vs q.2⟩
  | w, .tup xs, v, k, h => by
    simp only [Val] at h ⊢
    obtain ⟨a, vs, e, q, r⟩ := h
    exact ⟨a, vs, e, s.seqT q, FzL.mono s xs vs r⟩
  | w, .scr xs, v, k, h => by
    simp only [Val] at h ⊢
    obtain ⟨a, vs, e, q, r⟩ := h
    exact ⟨a, vs, e, s.seqLL q, FzL.mono s xs vs r⟩
  | w, .ins o c fs xs, v, k, h => by
    simp only [Val] at h ⊢
    obtain ⟨a, C, dx, vs, e, q1, q2, q⟩ := h
    refine ⟨a, C, dx, vs, e, q1, q2, ?_⟩
    cases o with
    | true =>
      simp only [if_true] at q ⊢
      exact ⟨q.1, by rw [k a ⟨[], by rw [q.1]; simp⟩]; exact q.2.1, ValL.frame s w 0 xs vs k q.2.2⟩
    | false =>
      simp only [Bool.false_eq_true, if_false] at q ⊢
      exact ⟨s _ _ q.1, FzL.mono s xs vs q.2⟩
  | w, .dK o ks xs, v, k, h => by
    simp only [Val] at h ⊢
    obtain ⟨a, vs, e, q2, q⟩ := h
    refine ⟨a, vs, e, q2, ?_⟩
    cases o with
    | true =>
      simp only [if_true] at q ⊢
      exact ⟨q.1, by rw [k a ⟨[], by rw [q.1]; simp⟩]; exact q.2.1, FzL.mono s xs vs q.2.2⟩
    | false =>
      simp only [Bool.false_eq_true, if_false] at q ⊢
      exact ⟨s _ _ q.1, FzL.mono s xs vs q.2⟩
  | w, .dT o ks xs, v, k, h => by
    simp only [Val] at h ⊢
    obtain ⟨a, vs, e, q2, q⟩ := h
    refine ⟨a, vs, e, q2, ?_⟩
    cases o with
    | true =>
      simp only [if_true] at q ⊢
      exact ⟨q.1, by rw [k a ⟨[], by rw [q.1]; simp⟩]; exact q.2.1, FzL.mono s xs vs q.2.2⟩
    | false =>
      simp only [Bool.false_eq_true, if_false] at q ⊢
      exact ⟨s _ _ q.1, FzL.mono s xs vs q.2⟩
theorem ValL.frame (s : Sub F F') : ∀ (w : List Nat) (j : Nat) (xs : List PV) (vs : List V), (∀ a, Under w (L a) → H' a = H a) → ValL K mg F H L w j xs vs → ValL K mg F' H' L w j xs vs
  | w, j, [], _, _, h => by simpa [ValL] using h
  | w, j, x :: xs, vs, k, h => by
    simp only [ValL] at h ⊢
    obtain ⟨v, vr, e, h1, h2⟩ := h
    exact ⟨v, vr, e, Val.frame s (w ++ [j]) x v (fun a u => k a u.sub) h1, ValL.frame s w (j + 1) xs vr k h2⟩
end
/-- the owned part of L goes into the frozen part -/
def take (F H : Hp) (L : LM) : Hp := fun a => if (L a).isSome = true then H a else F a
theorem take_sub (hf : ∀ a, (L a).isSome = true → F a = none) : Sub F (take F H L) := fun a o h => by
  unfold take
  by_cases e : (L a).isSome = true
  · rw [hf a e] at h; cases h
  · rw [if_neg e]; exact h
theorem take_in (s : Sub F H) : Sub (take F H L) H := fun a o h => by
  unfold take at h
  by_cases e : (L a).isSome = true
  · rw [if_pos e] at h; exact h
  · rw [if_neg e] at h; exact s a o h
mutual
theorem Val.freeze (t : Sub F (take F H L)) : ∀ (w : List Nat) (p : PV) (v : V), Val K mg F H L w p v → Fz K mg (take F H L) (frz p) v
  | w, .non, _, h => by simpa [Val, Fz, frz] using h
  | w, .bl _, _, h => by simpa [Val, Fz, frz] using h
  | w, .int _, _, h => by simpa [Val, Fz, frz] using h
  | w, .str _, _, h => by simpa [Val, Fz, frz] using h
  | w, .lst o xs, v, h => by
    simp only [Val] at h
    simp only [frz, Fz]
    obtain ⟨a, vs, e, q⟩ := h
    refine ⟨trivial, a, vs, e, ?_⟩
    cases o with
    | true =>
      simp only [if_true] at q
      refine ⟨.inl ?_, ValL.freeze t w 0 xs vs q.2.2⟩
      unfold take
      rw [if_pos (by rw [q.1]; rfl)]
      exact q.2.1
    | false =>
      simp only [Bool.false_eq_true, if_false] at q
      exact ⟨t.rd q.1, by rw [(FzL.flag xs vs q.2).2]; exact FzL.mono t xs vs q.2⟩
  | w, .tup xs, v, h => by
    simp only [Val] at h
    simp only [frz, Fz]
    obtain ⟨a, vs, e, q, r⟩ := h
    exact ⟨a, vs, e, t.seqT q, by rw [(FzL.flag xs vs r).2]; exact FzL.mono t xs vs r⟩
  | w, .scr xs, v, h => by
    simp only [Val] at h
    simp only [frz, Fz]
    obtain ⟨a, vs, e, q, r⟩ := h
    exact ⟨a, vs, e, t.seqLL q, by rw [(FzL.flag xs vs r).2]; exact FzL.mono t xs vs r⟩
  | w, .ins o c fs xs, v, h => by
    simp only [Val] at h
    simp only [frz, Fz]
    obtain ⟨a, C, dx, vs, e, q1, q2, q⟩ := h
    refine ⟨trivial, a, C, dx, vs, e, q1, ?_⟩
    cases o with
    | true =>
      simp only [if_true] at q
      refine ⟨?_, q2, ValL.freeze t w 0 xs vs q.2.2⟩
      unfold take
      rw [if_pos (by rw [q.1]; rfl)]
      exact q.2.1
    | false =>
      simp only [Bool.false_eq_true, if_false] at q
      exact ⟨t _ _ q.1, q2, by rw [(FzL.flag xs vs q.2).2]; exact FzL.mono t xs vs q.2⟩
  | w, .dK o ks xs, v, h => by
    simp only [Val] at h
    simp only [frz, Fz]
    obtain ⟨a, vs, e, q2, q⟩ := h
    refine ⟨trivial, a, vs, e, ?_⟩
    cases o with
    | true =>
      simp only [if_true] at q
      refine ⟨?_, q2, by rw [(FzL.flag xs vs q.2.2).2]; exact FzL.mono t xs vs q.2.2⟩
      unfold take
      rw [if_pos (by rw [q.1]; rfl)]
      exact q.2.1
    | false =>
      simp only [Bool.false_eq_true, if_false] at q
      exact ⟨t _ _ q.1, q2, by rw [(FzL.flag xs vs q.2).2]; exact FzL.mono t xs vs q.2⟩
  | w, .dT o ks xs, v, h => by
    simp only [Val] at h
    simp only [frz, Fz]
    obtain ⟨a, vs, e, q2, q⟩ := h
    refine ⟨trivial, a, vs, e, ?_⟩
    cases o with
    | true =>
      simp only [if_true] at q
      refine ⟨?_, q2, by rw [(FzL.flag xs vs q.2.2).2]; exact FzL.mono t xs vs q.2.2⟩
      unfold take
      rw [if_pos (by rw [q.1]; rfl)]
      exact q.2.1
    | false =>
      simp only [Bool.false_eq_true, if_false] at q
      exact ⟨t _ _ q.1, q2, by rw [(FzL.flag xs vs q.2).2]; exact FzL.mono t xs vs q.2⟩
theorem ValL.freeze (t : Sub F (take F H L)) : ∀ (w : List Nat) (j : Nat) (xs : List PV) (vs : List V), ValL K mg F H L w j xs vs → FzL K mg (take F H L) (frzL xs) vs
  | w, j, [], _, h => by simpa [ValL, FzL, frzL] using h
  | w, j, x :: xs, vs, h => by
    simp only [ValL] at h
    simp only [frzL, FzL]
    obtain ⟨v, vr, e, h1, h2⟩ := h
    exact ⟨v, vr, e, Val.freeze t (w ++ [j]) x v h1, ValL.freeze t w (j + 1) xs vr h2⟩
end
/-- a list of frozen values, as children -/
theorem FzL.valL : ∀ {xs : List PV} {vs : List V} {w : List Nat} {j : Nat}, FzL K mg F xs vs → ValL K mg F H L w j xs vs
  | [], _, _, _, h => by simpa [ValL, FzL] using h
  | x :: xs, vs, w, j, h => by
    simp only [FzL] at h
    simp only [ValL]
    obtain ⟨v, vr, e, h1, h2⟩ := h
    exact ⟨v, vr, e, h1.val, FzL.valL h2⟩
theorem ValL.fzz : ∀ {xs : List PV} {vs : List V} {w : List Nat} {j : Nat}, ValL K mg F H L w j xs vs → fzL xs = true → FzL K mg F xs vs
  | [], _, _, _, h, _ => by simpa [ValL, FzL] using h
  | x :: xs, vs, w, j, h, hf => by
    simp only [fzL, Bool.and_eq_true] at hf
    simp only [ValL] at h
    simp only [FzL]
    obtain ⟨v, vr, e, h1, h2⟩ := h
    exact ⟨v, vr, e, Val.fzz _ x v h1 hf.1, ValL.fzz h2 hf.2⟩
theorem FzL.length : ∀ {xs : List PV} {vs : List V}, FzL K mg F xs vs → xs.length = vs.length
  | [], _, h => by simp only [FzL] at h; simp [h]
  | x :: xs, vs, h => by
    simp only [FzL] at h
    obtain ⟨v, vr, e, h1, h2⟩ := h
    simp [e, FzL.length h2]
theorem ValL.length : ∀ {xs : List PV} {vs : List V} {w : List Nat} {j : Nat}, ValL K mg F H L w j xs vs → xs.length = vs.length
  | [], _, _, _, h => by simp only [ValL] at h; simp [h]
  | x :: xs, vs, _, _, h => by
    simp only [ValL] at h
    obtain ⟨v, vr, e, h1, h2⟩ := h
    simp [e, ValL.length h2]
theorem FzL.append : ∀ {xs ys : List PV} {vs us : List V}, FzL K mg F xs vs → FzL K mg F ys us → FzL K mg F (xs ++ ys) (vs ++ us)
  | [], _, _, _, h, h' => by simp only [FzL] at h; subst h; simpa using h'
  | x :: xs, _, vs, _, h, h' => by
    simp only [FzL, List.cons_append] at h ⊢
    obtain ⟨v, vr, e, h1, h2⟩ := h
    subst e
    exact ⟨v, _, rfl, h1, FzL.append h2 h'⟩
theorem ValL.append : ∀ {xs ys : List PV} {vs us : List V} {w : List Nat} {j : Nat}, ValL K mg F H L w j xs vs → ValL K mg F H L w (j + xs.length) ys us → ValL K mg F H L w j (xs ++ ys) (vs ++ us)
  | [], _, _, _, _, _, h, h' => by simp only [ValL] at h; subst h; simpa using h'
  | x :: xs, _, vs, _, w, j, h, h' => by
    simp only [ValL, List.cons_append] at h ⊢
    obtain ⟨v, vr, e, h1, h2⟩ := h
    subst e
    exact ⟨v, _, rfl, h1, ValL.append h2 (by rw [List.length_cons] at h'; rw [show j + 1 + xs.length = j + (xs.length + 1) by omega]; exact h')⟩
theorem FzL.get : ∀ {xs : List PV} {vs : List V} {i : Nat} {x : PV}, FzL K mg F xs vs → xs[i]? = some x → ∃ v, vs[i]? = some v ∧ Fz K mg F x v
  | [], _, _, _, _,
      h => by simp at h
  | y :: xs, vs, 0, x, h, e => by
    simp only [FzL] at h
    obtain ⟨v, vr, e', h1, h2⟩ := h
    simp at e
    subst e
    exact ⟨v, by simp [e'], h1⟩
  | y :: xs, vs, i + 1, x, h, e => by
    simp only [FzL] at h
    obtain ⟨v, vr, e', h1, h2⟩ := h
    obtain ⟨u, hu, r⟩ := FzL.get (i := i) h2 (by simpa using e)
    exact ⟨u, by simp [e', hu], r⟩
theorem FzL.set : ∀ {xs : List PV} {vs : List V} {i : Nat} {x : PV} {v : V}, FzL K mg F xs vs → Fz K mg F x v → FzL K mg F (xs.set i x) (vs.set i v)
  | [], _, _, _, _, h, _ => by simp only [FzL] at h; subst h; simp [FzL]
  | y :: xs, vs, 0, x, v, h, e => by
    simp only [FzL, List.set_cons_zero] at h ⊢
    obtain ⟨v', vr, e', h1, h2⟩ := h
    exact ⟨v, vr, by simp [e'], e, h2⟩
  | y :: xs, vs, i + 1, x, v, h, e => by
    simp only [FzL, List.set_cons_succ] at h ⊢
    obtain ⟨v', vr, e', h1, h2⟩ := h
    exact ⟨v', vr.set i v, by simp [e'], h1, FzL.set h2 e⟩
end
end PX
set_option Elab.async false
set_option linter.all false
set_option maxRecDepth 100000
set_option maxHeartbeats 3900000
namespace PX
open PySem L2
abbrev Rho := List (Option PV)
inductive Er where
  | exc (c f : Str) (p : PV)
  | stuck
abbrev R := Except Er
inductive Fl where
  | nx
  | bk
  | ct
  | rt (p : PV)
abbrev ME := Rho → R (PV × Rho)
abbrev MT := Rho → R (Bool × Rho)
abbrev MA := Rho → R (List PV × Rho)
abbrev MS := Rho → R (Fl × Rho)
abbrev Lb := Nat → LM
def noL : LM := fun _ => none
def noB : Lb := fun _ => noL

/-- an object that is no table of code objects -/
def NT : HO → Prop
  | .tbl _ => False
  | .ext _ => False
  | _ => True
def Ob (H : Hp) (a : Addr) : Prop := ∃ o, H a = some o ∧ NT o
theorem Ob.ne {H : Hp} {a : Addr} (h : Ob H a) : H a ≠ none := by
  obtain ⟨o, e, _⟩ := h
  rw [e]; simp
theorem Ob.no {H : Hp} {a : Addr} (h : H a = none) : ¬ Ob H a := fun ⟨o, e, _⟩ => by rw [h] at e; cases e
theorem Ob.at_ {H : Hp} {a : Addr} {o : HO} (h : H a = some o) (n : NT o) : Ob H a := ⟨o, h, n⟩
theorem Ob.apart {H : Hp} {a b : Addr} {o : HO} (h : H b = some o) (n : NT o) (k : ¬ Ob H a) : b ≠ a := fun z => k (by rw [← z]; exact ⟨o, h, n⟩)
theorem Ob.upd {H : Hp} {a b : Addr} {o : HO} (h : Ob H b) (n : NT o) : Ob (upd H a o) b := by
  by_cases e : b = a
  · rw [e]; exact ⟨o, upd_same, n⟩
  · obtain ⟨u, q, k⟩ := h
    exact ⟨u, by rw [upd_ne e]; exact q, k⟩
theorem Ob.new {H : Hp} {a b : Addr} {o : HO} (h : Ob H b) (hn : H a = none) : Ob (L2.upd H a o) b := by
  obtain ⟨u, q, k⟩ := h
  exact ⟨u, by rw [upd_ne (ne_of_none q hn)]; exact q, k⟩
theorem Ob.here {H : Hp} {a : Addr} {o : HO} (n : NT o) : Ob (L2.upd H a o) a := ⟨o, upd_same, n⟩
theorem tabS_upd {H : Hp} {a P : Addr} {o : HO} {q : Str} (h : Ob H a) (t : LamX.TabS H P q) : LamX.TabS (L2.upd H a o) P q := by
  obtain ⟨u, e, n⟩ := h
  obtain ⟨ps, h1, h2, h3⟩ := t
  have k : ∀ {b : Addr} {w : HO}, H b = some w → ¬ NT w → L2.upd H a o b = some w := fun {b w} hb hw => by
    rw [upd_ne (fun z => by rw [z, e] at hb; cases hb; exact hw n)]
    exact hb
  refine ⟨ps, k h1 (fun z => z), h2, fun pos cv hc => ?_⟩
  obtain ⟨c, e1, e2⟩
      := h3 pos cv hc
  exact ⟨c, e1, k e2 (fun z => z)⟩
/-- the tables of code objects of the defs that make lambdas -/
class HasT where
  T : List (Addr × Str)
/-- what a def's state rests on besides: the caller's object at slot 0 -/
structure DX where
  io : Option Addr
variable [HasT]
/-- the state: the frozen part F, the heap H, the slots' labels Ls, the slots σ and their pure values ρ; D the caller's object at slot 0 -/
structure SA (K : Frag) (mg : Mg) (D : DX) (F H : Hp) (Ls : Lb) (σ : St) (ρ : Rho) : Prop where
  sub : Sub F H
  len : ρ.length = σ.length
  slot : ∀ (i : Nat) (p : PV), ρ[i]? = some (some p) → ∃ v, σ[i]? = some (some v) ∧ Val K mg F H (Ls i) [] p v
  own : ∀ (i : Nat) (a : Addr), (Ls i a).isSome = true → F a = none ∧ Ob H a
  dis : ∀ (i j : Nat) (a : Addr), (Ls i a).isSome = true → (Ls j a).isSome = true → i = j
  io : ∀ a, D.io = some a → σ[0]? = some (some (.ref a))
  fob : ∀ b o, F b = some o → NT o
  tab : LamX.Tabs HasT.T H

/-- a frozen part as it must be -/
structure FS (F H : Hp) : Prop where
  sub : Sub F H
  ob : ∀ b o, F b = some o → NT o
/-- how the heap goes on -/
structure Ev (F H : Hp) (Ls : Lb) (F' H' : Hp) (Ls' : Lb) : Prop where
  mono : Sub F F'
  frame : ∀ b o, H b = some o → NT o → (∀ i, Ls i b = none) → H' b = some o
  fnew : ∀ b, F' b ≠ none → F b ≠ none ∨ (∃ i, (Ls i b).isSome = true) ∨ ¬ Ob H b
  lnew : ∀ i b, (Ls' i b).isSome = true → (∃ j, (Ls j b).isSome = true) ∨ ¬ Ob H b
  obs : ∀ b, Ob H b → Ob H' b
  tabs : LamX.Tabs HasT.T H → LamX.Tabs HasT.T H'

section
variable {F F1 F2 H H1 H2 : Hp} {Ls Ls1 Ls2 : Lb}
theorem Ev.refl : Ev F H Ls F H Ls := ⟨Sub.refl F, fun _ _ h _ _ => h, fun _ h => .inl h, fun i _ h => .inl ⟨i, h⟩, fun _ h => h, fun h => h⟩
theorem Ev.un (e : Ev F H Ls F1 H1 Ls1) {b : Addr} (h : Ob H b) (u : ∀ i, Ls i b = none) : ∀ i, Ls1 i b = none := fun i => by
  cases q : Ls1 i b with
  | none => rfl
  | some r =>
    rcases e.lnew i b (by rw [q]; rfl) with ⟨j, hj⟩ | hn
    · rw [u j] at hj; cases hj
    · exact absurd h hn
theorem Ev.trans (a : Ev F H Ls F1 H1 Ls1) (b : Ev F1 H1 Ls1 F2 H2 Ls2) : Ev F H Ls F2 H2 Ls2 where
  mono := a.mono.trans b.mono
  frame := fun c o h n u => b.frame c o (a.frame c o h n u) n (a.un ⟨o, h, n⟩ u)
  obs := fun c h => b.obs c (a.obs c h)
  tabs := fun h => b.tabs (a.tabs h)
  fnew := fun c h => by
    by_cases hl : ∃ i, (Ls i c).isSome = true
    · exact .inr (.inl hl)
    · by_cases hn : Ob H c
      rotate_left
      · exact .inr (.inr hn)
      · rcases b.fnew c h with q | ⟨i, q⟩ | q
        · rcases a.fnew c q with r | r | r
          · exact .inl r
          · exact .inr (.inl r)
          · exact .inr (.inr r)
        · rcases a.lnew i c q with r | r
          · exact .inr (.inl r)
          · exact .inr (.inr r)
        · exact absurd (a.obs c hn) q
  lnew := fun i c h => by
    by_cases hn : Ob H c
    rotate_left
    · exact .inr hn
    · rcases b.lnew i c h with ⟨j, q⟩ | q
      · exact a.lnew j c q
      · exact absurd (a.obs c hn) q
/-- a new object -/
theorem Ev.alloc {p : Addr} {o : HO} (hp : H p = none) : Ev F H Ls F (upd H p o) Ls :=
  ⟨Sub.refl F, fun b u h _ _ => by rw [upd_ne (ne_of_none h hp)]; exact h, fun _ h => .inl h, fun i _ h => .inl ⟨i, h⟩, fun b h => h.new hp, fun t => t.ext fun b o h => by rw [upd_ne (ne_of_none h hp)]; exact h⟩
/-- a new object, frozen at once -/
theorem Ev.allocF {p : Addr} {o : HO} (s : Sub F H) (hp : H p = none) : Ev F H Ls (upd F p o) (upd H p o) Ls := by
  have hf : F p = none := by
    cases q : F p with
    | none => rfl
    | some u => rw [s _ _ q] at hp; cases hp
  exact ⟨fun b u h => by rw [upd_ne (ne_of_none h hf)]; exact h, (Ev.alloc (F := F) (Ls := Ls) hp).frame, fun b h => by
    by_cases e : b = p
    · rw [e]; exact .inr (.inr (Ob.no hp))
    · rw [upd_ne e] at h; exact .inl h, fun i _ h => .inl ⟨i, h⟩, (Ev.alloc (F := F) (Ls := Ls) hp).obs, (Ev.alloc (F := F) (Ls := Ls) hp).tabs⟩
end

section
variable {K : Frag} {mg : Mg} {D : DX} {F H F1 H1 : Hp} {Ls Ls1 : Lb} {σ : St} {ρ : Rho}
theorem Sub.non (s : Sub F H) {p : Addr} (hp : H p = none) : F p = none := by
  cases q : F p with
  | none => rfl
  | some u => rw [s _ _ q] at hp; cases hp
theorem SA.fs (S : SA K mg D F H Ls σ ρ) : FS F H := ⟨S.sub, S.fob⟩
theorem SA.nl (S : SA K mg D F H Ls σ ρ) {p : Addr} (hp : H p = none) (i : Nat) : Ls i p = none := by
  cases q : Ls i p with
  | none => rfl
  | some r => exact absurd hp (S.own i p (by rw [q]; rfl)).2.ne
theorem SA.nl' (S : SA K mg D F H Ls σ ρ) {p : Addr} (hp : ¬ Ob H p) (i : Nat) : Ls i p = none := by
  cases q : Ls i p with
  | none => rfl
  | some r => exact absurd (S.own i p (by rw [q]; rfl)).2 hp
theorem SA.alloc (S : SA K mg D F H Ls σ ρ) {p : Addr} {o : HO} (hp : H p = none) : SA K mg D F (upd H p o) Ls σ ρ where
  sub := fun b u h => by rw [upd_ne (ne_of_none (S.sub _ _ h) hp)]; exact S.sub _ _ h
  len := S.len
  slot := fun i q e => by
    obtain ⟨v, e1, h⟩ := S.slot i q e
    refine ⟨v, e1, h.frame (Sub.refl F) [] q v fun a u => upd_ne fun z => ?_⟩
    obtain ⟨r, e⟩ := u
    rw [z, S.nl hp] at e
    cases e
  own := fun i a h => ⟨(S.own i a h).1, (S.own i a h).2.new hp⟩
  dis := S.dis
  io := S.io
  fob := S.fob
  tab := S.tab.ext fun b o h => by rw [upd_ne (ne_of_none h hp)]; exact h
theorem SA.allocF (S : SA K mg D F H Ls σ ρ) {p : Addr} {o : HO} (hn : NT o) (hp : H p = none) : SA K mg D (upd F p o) (upd H p o) Ls σ ρ where
  sub := fun b u h => by
    by_cases e : b = p
    · rw [e, upd_same] at h ⊢; exact h
    · rw [upd_ne e] at h ⊢; exact S.sub _ _ h
  len := S.len
  slot := fun i q e => by
    obtain ⟨v, e1, h⟩ := S.slot i q e
    have hf := S.sub.non hp
    refine ⟨v, e1, h.frame (fun b u h => by rw [upd_ne (ne_of_none h hf)]; exact h) [] q v fun a u => upd_ne fun z => ?_⟩
    obtain ⟨r, e⟩ := u
    rw [z, S.nl hp] at e
    cases e
  own := fun i a h => by
    have ne : a ≠ p := fun z => by rw [z, S.nl hp] at h; cases h
    rw [upd_ne ne]
    exact ⟨(S.own i a h).1, (S.own i a h).2.new hp⟩
  dis := S.dis
  io := S.io
  fob := fun b u h => by
    by_cases e : b = p
    · rw [e, upd_same] at h; cases h; exact hn
    · rw [upd_ne e] at h; exact S.fob b u h
  tab := S.tab.ext fun b o h => by rw [upd_ne (ne_of_none h hp)]; exact h
/-- the labels of slot i go into the frozen part -/
def dropL (Ls : Lb) (i : Nat) : Lb := fun j => if j = i then noL else Ls j
theorem dropL_some {Ls : Lb} {i j : Nat} {a : Addr} (h : (dropL Ls i j a).isSome = true) : j ≠ i ∧ (Ls j a).isSome = true := by
  unfold dropL at h
  by_cases e : j = i
  · rw [if_pos e] at h; cases h
  · rw [if_neg e] at h; exact ⟨e, h⟩
theorem SA.takeSub (S : SA K mg D F H Ls σ ρ) (i : Nat) : Sub F (take F H (Ls i)) := take_sub fun a h => (S.own i a h).1
theorem SA.evTake (S : SA K mg D F H Ls σ ρ) (i : Nat) : Ev F H Ls (take F H (Ls i)) H (dropL Ls i) :=
  ⟨S.takeSub i, fun _ _ h _ _ => h, fun b h => by
    unfold take at h
    by_cases e : (Ls i b).isSome = true
    · exact .inr (.inl ⟨i, e⟩)
    · rw [if_neg e] at h; exact .inl h, fun j b h => .inl ⟨j, (dropL_some h).2⟩, fun _ h => h, fun h => h⟩
theorem SA.freeze (S : SA K mg D F H Ls σ ρ) {i : Nat} {p : PV} (e : ρ[i]? = some (some p)) : SA K mg D (take F H (Ls i)) H (dropL Ls i) σ (ρ.set i (some (frz p))) where
  sub := take_in S.sub
  len := by rw [List.length_set]; exact S.len
  slot := fun j q ej => by
    by_cases hj : i = j
    · subst hj
      rw [List.getElem?_set_self (List.getElem?_eq_some_iff.mp e).1] at ej
      cases ej
      obtain ⟨v, e1, h⟩ := S.slot i p e
      exact ⟨v, e1, (h.freeze (S.takeSub i) [] p v).val⟩
    · rw [List.getElem?_set_ne hj] at ej
      obtain ⟨v, e1, h⟩ := S.slot j q ej
      have : dropL Ls i j = Ls j := by unfold dropL; rw [if_neg (Ne.symm hj)]
      exact ⟨v, e1, by rw [this]; exact h.frame (S.takeSub i) [] q v fun _ _ => rfl⟩
  own := fun j a h => by
    obtain ⟨hj, h⟩ := dropL_some h
    refine ⟨?_, (S.own j a h).2⟩
    unfold take
    rw [if_neg fun z => hj (S.dis j i a h z)]
    exact (S.own j a h).1
  dis := fun j k a h1 h2 => S.dis j k a (dropL_some h1).2 (dropL_some h2).2
  io := S.io
  fob := fun b u h => by
    unfold take at h
    by_cases z : (Ls i b).isSome = true
    · rw [if_pos z] at h
      obtain ⟨w, q, n⟩ := (S.own i b z).2
      rw [q] at h; cases h; exact n
    · rw [if_neg z] at h; exact S.fob b u h
  tab := S.tab
end

/-- labels that no slot has, of objects that are new since H₀ -/
def Tmp (F H : Hp) (Ls : Lb) (L : LM) (H₀ : Hp) : Prop := ∀ b, (L b).isSome = true → ¬ Ob H₀ b ∧ F b = none ∧ (∀ i, Ls i b = none) ∧ Ob H b
theorem Tmp.no {F H : Hp} {Ls : Lb} {H₀ : Hp} : Tmp F H Ls noL H₀ := fun b h => by cases h

section
variable (K : Frag) (mg : Mg) (D : DX) (W : WX) (F H : Hp) (Ls : Lb) (σ : St)
/-- what is wanted of an exception -/
def OutX (F H : Hp) (Ls : Lb) (c f : Str) (pl : PV) : Prop := ∀ F' H' C d v, FS F' H' → Ev F H Ls F' H' noB → mg c = some (.ref C) → H' d = some (.xd [(f, v)]) → Fz K mg F' pl v → W (.ref C) (some d) σ H'
/-- what is wanted behind an expression -/
def OutE (Q : VK) (tmp : Bool) : R (PV × Rho) → Prop
  | .ok (p, ρ') => ∀ F' H' Ls' L v, SA K mg D F' H' Ls' σ ρ' → Ev F H Ls F' H' Ls' → Val K mg F' H' L [] p v → (tmp = true → Tmp F' H' Ls' L H) → Q v H'
  | .error (.exc c f pl) => OutX K mg W σ F H Ls c f pl
  | .error .stuck => False
def OutT (Q : Bool → Hp → Prop) : R (Bool × Rho) → Prop
  | .ok (b, ρ') => ∀ F' H' Ls', SA K mg D F' H' Ls' σ ρ' → Ev F H Ls F' H' Ls' → Q b H'
  | .error (.exc c f pl) => OutX K mg W σ F H Ls c f pl
  | .error .stuck => False
def OutA (Q : List V → Hp → Prop) : R (List PV × Rho) → Prop
  | .ok (ps, ρ') => ∀ F' H' Ls' vs, SA K mg D F' H' Ls' σ ρ' → Ev F H Ls F' H' Ls' → FzL K mg F' ps vs → Q vs H'
  | .error (.exc c f pl) => OutX K mg W σ F H Ls c f pl
  | .error .stuck => False
end
/-- what is wanted
    behind a statement -/
def OutS (K : Frag) (mg : Mg) (D : DX) (W : WX) (F H : Hp) (Ls : Lb) (N : Ends) : R (Fl × Rho) → Prop
  | .ok (.nx, ρ') => ∀ F' H' Ls' σ', SA K mg D F' H' Ls' σ' ρ' → Ev F H Ls F' H' Ls' → N.nx σ' H'
  | .ok (.bk, ρ') => ∀ F' H' Ls' σ', SA K mg D F' H' Ls' σ' ρ' → Ev F H Ls F' H' Ls' → N.bk σ' H'
  | .ok (.ct, ρ') => ∀ F' H' Ls' σ', SA K mg D F' H' Ls' σ' ρ' → Ev F H Ls F' H' Ls' → N.ct σ' H'
  | .ok (.rt p, ρ') => ∀ F' H' Ls' σ' L v, SA K mg D F' H' Ls' σ' ρ' → Ev F H Ls F' H' Ls' → Val K mg F' H' L [] p v → Tmp F' H' Ls' L H → N.rt v H'
  | .error (.exc c f pl) => ∀ σ', OutX K mg W σ' F H Ls c f pl
  | .error .stuck => False

section
variable {K : Frag} {mg : Mg} {D : DX} {W : WX} {F H F1 H1 : Hp} {Ls Ls1 : Lb} {σ : St} {Q : VK} {tmp : Bool}
theorem Tmp.back (e : Ev F H Ls F1 H1 Ls1) {F' H' : Hp} {Ls' : Lb} {L : LM} (t : Tmp F' H' Ls' L H1) : Tmp F' H' Ls' L H := fun b h => by
  obtain ⟨a, r⟩ := t b h
  exact ⟨fun z => a (e.obs b z), r⟩
theorem OutX.step (e : Ev F H Ls F1 H1 Ls1) {c f : Str} {pl : PV} (h : OutX K mg W σ F H Ls c f pl) : OutX K mg W σ F1 H1 Ls1 c f pl :=
  fun F' H' C d v s ev m hd r => h F' H' C d v s (e.trans ev) m hd r
theorem OutE.step (e : Ev F H Ls F1 H1 Ls1) : ∀ {r : R (PV × Rho)}, OutE K mg D W F H Ls σ Q tmp r → OutE K mg D W F1 H1 Ls1 σ Q tmp r
  | .ok (p, ρ'), h => fun F' H' Ls' L v S ev V t => h F' H' Ls' L v S (e.trans ev) V fun z => (t z).back e
  | .error (.exc c f pl), h => OutX.step e h
  | .error .stuck, h => h
theorem OutT.step (e : Ev F H Ls F1 H1 Ls1) {Q : Bool → Hp → Prop} : ∀ {r : R (Bool × Rho)}, OutT K mg D W F H Ls σ Q r → OutT K mg D W F1 H1 Ls1 σ Q r
  | .ok (p, ρ'), h => fun F' H' Ls' S ev => h F' H' Ls' S (e.trans ev)
  | .error (.exc c f pl), h => OutX.step e h
  | .error .stuck, h => h
theorem OutA.step (e : Ev F H Ls F1 H1 Ls1) {Q : List V → Hp → Prop} : ∀ {r : R (List PV × Rho)}, OutA K mg D W F H Ls σ Q r → OutA K mg D W F1 H1 Ls1 σ Q r
  | .ok (p, ρ'), h => fun F' H' Ls' vs S ev => h F' H' Ls' vs S (e.trans ev)
  | .error (.exc c f pl), h => OutX.step e h
  | .error .stuck, h => h
theorem OutS.step (e : Ev F H Ls F1 H1 Ls1) {N : Ends} : ∀ {r : R (Fl × Rho)}, OutS K mg D W F H Ls N r → OutS K mg D W F1 H1 Ls1 N r
  | .ok (.nx, ρ'), h => fun F' H' Ls' σ' S ev => h F' H' Ls' σ' S (e.trans ev)
  | .ok (.bk, ρ'), h => fun F' H' Ls' σ' S ev => h F' H' Ls' σ' S (e.trans ev)
  | .ok (.ct, ρ'), h => fun F' H' Ls' σ' S ev => h F' H' Ls' σ' S (e.trans ev)
  | .ok (.rt p, ρ'), h => fun F' H' Ls' σ' L v S ev V t => h F' H' Ls' σ' L v S (e.trans ev) V (t.back e)
  | .error (.exc c f pl), h => fun σ' => OutX.step e (h σ')
  | .error .stuck, h => h
end

/-! ### the judgements -/
/-- tmp: what comes is new (not a slot's own) -/
def DE' (tmp : Bool) (X : Cx) (D : DX) (W : WX) (e : Expr) (m : ME) : Prop :=
  ∃ t, PE X e t ∧ ∀ F H Ls σ ρ Q, SA X.K X.mg D F H Ls σ ρ → OutE X.K X.mg D W F H Ls σ Q tmp (m ρ) → t σ H Q
abbrev DE := DE' false
abbrev DM := DE' true
def DT (X : Cx) (D : DX) (W : WX) (e : Expr) (m : MT) : Prop :=
  ∃ t, PT X e t ∧ ∀ F H Ls σ ρ Q, SA X.K X.mg D F H Ls σ ρ → OutT X.K X.mg D W F H Ls σ Q (m ρ) → t σ H Q
def DA (X : Cx) (D : DX) (W : WX) (es : List Expr) (m : MA) : Prop :=
  ∃ t, PA X es t ∧ ∀ F H Ls σ ρ Q, SA X.K X.mg D F H Ls σ ρ → OutA X.K X.mg D W F H Ls σ Q (m ρ) → t σ H Q
def DS (X : Cx) (D : DX) (W : WX) (s : Stmt) (m : MS) : Prop :=
  ∃ t, PS X s t ∧ ∀ F H Ls σ ρ N, SA X.K X.mg D F H Ls σ ρ → OutS X.K X.mg D W F H Ls N (m ρ) → t N σ H
def DB (X : Cx) (D : DX) (W : WX) (s : List Stmt) (m : MS) : Prop :=
  ∃ t, PSs X s t ∧ ∀ F H Ls σ ρ N, SA X.K X.mg D F H Ls σ ρ → OutS X.K X.mg D W F H Ls N (m ρ) → t N σ H

section
variable {X : Cx} {D : DX} {W : WX} {e : Expr} {m : ME}
theorem DM.de {tmp : Bool} (h : DE' tmp X D W e m) : DE X D W e m := by
  obtain ⟨t, hp, hs⟩ := h
  refine ⟨t, hp, fun F H Ls σ ρ Q S o => hs F H Ls σ ρ Q S ?_⟩
  revert o
  rcases m ρ with (⟨c, f, pl⟩ | _) | ⟨p, ρ'⟩
  · exact fun o => o
  · exact fun o => o
  · exact fun o F' H' Ls' L v S ev V t => o F' H' Ls' L v S ev V fun z => by cases z
def mv (m : ME) : ME := fun ρ => m ρ >>= fun r => if fz r.1 = true then .ok r else .error .stuck
/-- a frozen value is as good as a new one -/
theorem DE.mv {tmp : Bool} (h : DE' tmp X D W e m) : DM X D W e (mv m) := by
  obtain ⟨t, hp, hs⟩ := DM.de h
  refine ⟨t, hp, fun F H Ls σ ρ Q S o => hs F H Ls σ ρ Q S ?_⟩
  revert o
  unfold PX.mv
  rcases m ρ with (⟨c, f, pl⟩ | _) | ⟨p, ρ'⟩
  · exact fun o => o
  · exact fun o => o
  · intro o F' H' Ls' L v S ev V t
    have o : OutE X.K X.mg D W F H Ls σ Q true (if fz p = true then .ok (p, ρ') else .error .stuck) := o
    by_cases q : fz p = true
    · rw [if_pos q] at o
      exact o F' H' Ls' noL v S ev (V.fzz _ _ _ q).val fun _ => Tmp.no
    · rw [if_neg q] at o
      exact o.elim
end

/-! ### sequencing -/
section
variable {K : Frag} {mg : Mg} {D : DX} {W : WX} {F H : Hp} {Ls : Lb} {σ : St} {ρ : Rho}
theorem seqE {Q1 : VK} {tmp1 : Bool} {α : Type} {ma : ME} {k : PV × Rho → R α} (Out : Hp → Hp → Lb → R α → Prop)
    (hx : ∀ c f pl, Out F H Ls (.error (.exc c f pl)) → OutX K mg W σ F H Ls c f pl) (hst : ∀ F1 H1 Ls1 r, Ev F H Ls F1 H1 Ls1 → Out F H Ls r → Out F1 H1 Ls1 r) (hs : ∀ F1 H1 Ls1, Out F1 H1 Ls1 (.error .stuck) → False)
    (h : Out F H Ls (ma ρ >>= k))
    (hk : ∀ p ρ1 F1 H1 Ls1 L x, SA K mg D F1 H1 Ls1 σ ρ1 → Ev F H Ls F1 H1 Ls1 → Val K mg F1 H1 L [] p x → (tmp1 = true → Tmp F1 H1 Ls1 L H) → Out F1 H1 Ls1 (k (p, ρ1)) → Q1 x H1) :
    OutE K mg D W F H Ls σ Q1 tmp1 (ma ρ) := by
  revert h
  rcases ma ρ with (⟨c, f, pl⟩ | _) | ⟨p, ρ1⟩
  · exact fun h => hx _ _ _ h
  · exact fun h => hs _ _ _ h
  · exact fun h F1 H1 Ls1 L x S1 e1 V1 t1 => hk p ρ1 F1 H1 Ls1 L x S1 e1 V1 t1 (hst _ _ _ _ e1 h)
theorem eE {Q1 : VK} {tmp1 tmp : Bool} {Q : VK} {ma : ME} {k : PV × Rho → R (PV × Rho)} (h : OutE K mg D W F H Ls σ Q tmp (ma ρ >>= k))
    (hk : ∀ p ρ1 F1 H1 Ls1 L x, SA K mg D F1 H1 Ls1 σ ρ1 → Ev F H Ls F1 H1 Ls1 → Val K mg F1 H1 L [] p x → (tmp1 = true → Tmp F1 H1 Ls1 L H) → OutE K mg D W F1 H1 Ls1 σ Q tmp (k (p, ρ1)) → Q1 x H1) :
    OutE K mg D W F H Ls σ Q1 tmp1 (ma ρ) := seqE (fun F H Ls r => OutE K mg D W F H Ls σ Q tmp r) (fun _ _ _ h => h) (fun _ _ _ _ e h => h.step e) (fun _ _ _ h => h) h hk
theorem eT {Q1 : VK} {tmp1 : Bool} {Q : Bool → Hp → Prop} {ma : ME} {k : PV × Rho → R (Bool × Rho)} (h : OutT K mg D W F H Ls σ Q (ma ρ >>= k))
    (hk : ∀ p ρ1 F1 H1 Ls1 L x, SA K mg D F1 H1 Ls1 σ ρ1 → Ev F H Ls F1 H1 Ls1 → Val K mg F1 H1 L [] p x → (tmp1 = true → Tmp F1 H1 Ls1 L H) → OutT K mg D W F1 H1 Ls1 σ Q (k (p, ρ1)) → Q1 x H1) :
    OutE K mg D W F H Ls σ Q1 tmp1 (ma ρ) := seqE (fun F H Ls r => OutT K mg D W F H Ls σ Q r) (fun _ _ _ h => h) (fun _ _ _ _ e h => h.step e) (fun _ _ _ h => h) h hk
theorem eA {Q1 : VK} {tmp1 : Bool} {Q : List V → Hp → Prop} {ma : ME} {k : PV × Rho → R (List PV × Rho)} (h : OutA K mg D W F H Ls σ Q (ma ρ >>= k))
    (hk : ∀ p ρ1 F1 H1 Ls1 L x, SA K mg D F1 H1 Ls1 σ ρ1 → Ev F H Ls F1 H1 Ls1 → Val K mg F1 H1 L [] p x → (tmp1 = true → Tmp F1 H1 Ls1 L H) → OutA K mg D W F1 H1 Ls1 σ Q (k (p, ρ1)) → Q1 x H1) :
    OutE K mg D W F H Ls σ Q1 tmp1 (ma ρ) := seqE (fun F H Ls r => OutA K mg D W F H Ls σ Q r) (fun _ _ _ h => h) (fun _ _ _ _ e h => h.step e) (fun _ _ _ h => h) h hk
theorem eS {Q1 : VK} {tmp1 : Bool} {N : Ends} {ma : ME} {k : PV × Rho → R (Fl × Rho)} (h : OutS K mg D W F H Ls N (ma ρ >>= k))
    (hk : ∀ p ρ1 F1 H1 Ls1 L x, SA K mg D F1 H1 Ls1 σ ρ1 → Ev F H Ls F1 H1 Ls1 → Val K mg F1 H1 L [] p x → (tmp1 = true → Tmp F1 H1 Ls1 L H) → OutS K mg D W F1 H1 Ls1 N (k (p, ρ1)) → Q1 x H1) :
    OutE K mg D W F H Ls σ Q1 tmp1 (ma ρ) := seqE (fun F H Ls r => OutS K mg D W F H Ls N r) (fun _ _ _ h => h σ) (fun _ _ _ _ e h => h.step e) (fun _ _ _ h => h) h hk
theorem seqT {Q1 : Bool → Hp → Prop} {α : Type} {ma : MT} {k : Bool × Rho → R α} (Out : Hp → Hp → Lb → R α → Prop)
    (hx : ∀ c f pl, Out F H Ls (.error (.exc c f pl)) → OutX K mg W σ F H Ls c f pl) (hst : ∀ F1 H1 Ls1 r, Ev F H Ls F1 H1 Ls1 → Out F H Ls r → Out F1 H1 Ls1 r) (hs : ∀ F1 H1 Ls1, Out F1 H1 Ls1 (.error .stuck) → False)
    (h : Out F H Ls (ma ρ >>= k)) (hk : ∀ p ρ1 F1 H1 Ls1, SA K mg D F1 H1 Ls1 σ ρ1 → Ev F H Ls F1 H1 Ls1 → Out F1 H1 Ls1 (k (p, ρ1)) → Q1 p H1) :
    OutT K mg D W F H Ls σ Q1 (ma ρ) := by
  revert h
  rcases ma ρ with (⟨c, f, pl⟩ | _) | ⟨p, ρ1⟩
  · exact fun h => hx _ _ _ h
  · exact fun h => hs _ _ _ h
  · exact fun h F1 H1 Ls1 S1 e1 => hk p ρ1 F1 H1 Ls1 S1 e1 (hst _ _ _ _ e1 h)
theorem tE {Q1 : Bool → Hp → Prop} {tmp : Bool} {Q : VK} {ma : MT} {k : Bool × Rho → R (PV × Rho)} (h : OutE K mg D W F H Ls σ Q tmp (ma ρ >>= k))
    (hk : ∀ p ρ1 F1 H1 Ls1, SA K mg D F1 H1 Ls1 σ ρ1 → Ev F H Ls F1 H1 Ls1 → OutE K mg D W F1 H1 Ls1 σ Q tmp (k (p, ρ1)) → Q1 p H1) :
    OutT K mg D W F H Ls σ Q1 (ma ρ) := seqT (fun F H Ls r => OutE K mg D W F H Ls σ Q tmp r) (fun _ _ _ h => h) (fun _ _ _ _ e h => h.step e) (fun _ _ _ h => h) h hk
theorem tT {Q1 : Bool → Hp → Prop} {Q : Bool → Hp → Prop} {ma : MT} {k : Bool × Rho → R (Bool × Rho)} (h : OutT K mg D W F H Ls σ Q (ma ρ >>= k))
    (hk : ∀ p ρ1 F1 H1 Ls1, SA K mg D F1 H1 Ls1 σ ρ1 → Ev F H Ls F1 H1 Ls1 → OutT K mg D W F1 H1 Ls1 σ Q (k (p, ρ1)) → Q1 p H1) :
    OutT K mg D W F H Ls σ Q1 (ma ρ) := seqT (fun F H Ls r => OutT K mg D W F H Ls σ Q r) (fun _ _ _ h => h) (fun _ _ _ _ e h => h.step e) (fun _ _ _ h => h) h hk
theorem tS {Q1 : Bool → Hp → Prop} {N : Ends} {ma : MT} {k : Bool × Rho → R (Fl × Rho)} (h : OutS K mg D W F H Ls N (ma ρ >>= k))
    (hk : ∀ p ρ1 F1 H1 Ls1, SA K mg D F1 H1 Ls1 σ ρ1 → Ev F H Ls F1 H1 Ls1 → OutS K mg D W F1 H1 Ls1 N (k (p, ρ1)) → Q1 p H1) :
    OutT K mg D W F H Ls σ Q1 (ma ρ) := seqT (fun F H Ls r => OutS K mg D W F H Ls N r) (fun _ _ _ h => h σ) (fun _ _ _ _ e h => h.step e) (fun _ _ _ h => h) h hk
theorem seqA {Q1 : List V → Hp → Prop} {α : Type} {ma : MA} {k : List PV × Rho → R α} (Out : Hp → Hp → Lb → R α → Prop)
    (hx : ∀ c f pl, Out F H Ls (.error (.exc c f pl)) → OutX K mg W σ F H Ls c f pl) (hst : ∀ F1 H1 Ls1 r, Ev F H Ls F1 H1 Ls1 → Out F H Ls r → Out F1 H1 Ls1 r) (hs : ∀ F1 H1 Ls1, Out F1 H1 Ls1 (.error .stuck) → False)
    (h : Out F H Ls (ma ρ >>= k)) (hk : ∀ ps ρ1 F1 H1 Ls1 vs, SA K mg D F1 H1 Ls1 σ ρ1 → Ev F H Ls F1 H1 Ls1 → FzL K mg F1 ps vs → Out F1 H1 Ls1 (k (ps, ρ1)) → Q1 vs H1) :
    OutA K mg D W F H Ls σ Q1 (ma ρ) := by
  revert h
  rcases ma ρ with (⟨c, f, pl⟩ | _) | ⟨p, ρ1⟩
  · exact fun h => hx _ _ _ h
  · exact fun h => hs _ _ _ h
  · exact fun h F1 H1 Ls1 vs S1 e1 V1 => hk p ρ1 F1 H1 Ls1 vs S1 e1 V1 (hst _ _ _ _ e1 h)
theorem aE {Q1 : List V → Hp → Prop} {tmp : Bool} {Q : VK} {ma : MA} {k : List PV × Rho → R (PV × Rho)} (h : OutE K mg D W F H Ls σ Q tmp (ma ρ >>= k))
    (hk : ∀ ps ρ1 F1 H1 Ls1 vs, SA K mg D F1 H1 Ls1 σ ρ1 → Ev F H Ls F1 H1 Ls1 → FzL K mg F1 ps vs → OutE K mg D W F1 H1 Ls1 σ Q tmp (k (ps, ρ1)) → Q1 vs H1) :
    OutA K mg D W F H Ls σ Q1 (ma ρ) := seqA (fun F H Ls r => OutE K mg D W F H Ls σ Q tmp r) (fun _ _ _ h => h) (fun _ _ _ _ e h => h.step e) (fun _ _ _ h => h) h hk
theorem aA {Q1 : List V → Hp → Prop} {Q : List V → Hp → Prop} {ma : MA} {k : List PV × Rho → R (List PV × Rho)} (h : OutA K mg D W F H Ls σ Q (ma ρ >>= k))
    (hk : ∀ ps ρ1 F1 H1 Ls1 vs, SA K mg D F1 H1 Ls1 σ ρ1 → Ev F H Ls F1 H1 Ls1 → FzL K mg F1 ps vs → OutA K mg D W F1 H1 Ls1 σ Q (k (ps, ρ1)) → Q1 vs H1) :
    OutA K mg D W F H Ls σ Q1 (ma ρ) := seqA (fun F H Ls r => OutA K mg D W F H Ls σ Q r) (fun _ _ _ h => h) (fun _ _ _ _ e h => h.step e) (fun _ _ _ h => h) h hk
theorem aS {Q1 : List V → Hp → Prop} {N : Ends} {ma : MA} {k : List PV × Rho → R (Fl × Rho)} (h : OutS K mg D W F H Ls N (ma ρ >>= k))
    (hk : ∀ ps ρ1 F1 H1 Ls1 vs, SA K mg D F1 H1 Ls1 σ ρ1 → Ev F H Ls F1 H1 Ls1 → FzL K mg F1 ps vs → OutS K mg D W F1 H1 Ls1 N (k (ps, ρ1)) → Q1 vs H1) :
    OutA K mg D W F H Ls σ Q1 (ma ρ) := seqA (fun F H Ls r => OutS K mg D W F H Ls N r) (fun _ _ _ h => h σ) (fun _ _ _ _ e h => h.step e) (fun _ _ _ h => h) h hk
end
end PX
set_option Elab.async false
set_option linter.all false
set_option maxRecDepth 100000
set_option maxHeartbeats 3900000
namespace PX
open PySem L2
variable [HasT]

mutual
def toD : PV → Option PyData
  | .non => some .none
  | .bl b => some (.bool b)
  | .int i => some (.int i)
  | .str x => some (.str x)
  | .lst _ xs => (toDL xs).map .list
  | .tup xs => (toDL xs).map .tuple
  | .scr xs => (toDL xs).map .list
  | .ins _ _ _ _ => none
  | .dK _ _ _ => none
  | .dT _ _ _ => none
def toDL : List PV → Option (List PyData)
  | [] => some []
  | x :: xs => (toD x).bind fun d => (toDL xs).map fun ds => d :: ds
end
section
variable {K : Frag} {mg : Mg} {F H : Hp} {L : LM}
mutual
theorem Fz.dp (s : Sub F H) : ∀ (p : PV) (v : V) (d : PyData), Fz K mg F p v → toD p = some d → Dp K H v d
  | .non, v, d, h, e => by simp only [Fz] at h; simp only [toD, Option.some.injEq] at e; subst h e; exact .non
  | .bl b, v, d, h, e => by simp only [Fz] at h; simp only [toD, Option.some.injEq] at e; subst h e; exact .bl b
  | .int b, v, d, h, e => by simp only [Fz] at h; simp only [toD, Option.some.injEq] at e; subst h e; exact .int b
  | .str b, v, d, h, e => by simp only [Fz] at h; simp only [toD, Option.some.injEq] at e; subst h e; exact .str b
  | .lst o xs, v, d, h, e => by
    simp only [Fz] at h
    obtain ⟨_, a, vs, rfl, q, r⟩ := h
    simp only [toD, Option.map_eq_some_iff] at e
    obtain ⟨ds, e, rfl⟩ := e
    exact .lst (s.seqL q) (FzL.dp s xs vs ds r e)
  | .tup xs, v, d, h, e => by
    simp only [Fz] at h
    obtain ⟨a, vs, rfl, q, r⟩ := h
    simp only [toD, Option.map_eq_some_iff] at e
    obtain ⟨ds, e, rfl⟩ := e
    exact .tup (s.seqT q) (FzL.dp s xs vs ds r e)
  | .scr xs, v, d, h, e => by
    simp only [Fz] at h
    obtain ⟨a, vs, rfl, q, r⟩ := h
    simp only [toD, Option.map_eq_some_iff] at e
    obtain ⟨ds, e, rfl⟩ := e
    exact .lst (s.seqLL q) (FzL.dp s xs vs ds r e)
  | .ins _ _ _ _, _, _, _, e => by simp [toD] at e
  | .dK _ _ _, _, _, _, e => by simp [toD] at e
  | .dT _ _ _, _, _, _, e => by simp [toD] at e
theorem FzL.dp (s : Sub F H) : ∀ (xs : List PV) (vs : List V) (ds : List PyData), FzL K mg F xs vs → toDL xs = some ds → DpAll K H vs ds
  | [], vs, ds, h, e => by simp only [FzL] at h; simp only [toDL, Option.some.injEq] at e; subst h e; exact .nil
  | x :: xs, vs, ds, h, e => by
    simp only [FzL] at h
    obtain ⟨v, vr, rfl, h1, h2⟩ := h
    simp only [toDL, Option.bind_eq_some_iff, Option.map_eq_some_iff] at e
    obtain ⟨d, e1, dr, e2, rfl⟩ := e
    exact .cons (Fz.dp s x v d h1 e1) (FzL.dp s xs vr dr h2 e2)
end
mutual
theorem Val.dp (s : Sub F H) : ∀ (w : List Nat) (p : PV) (v : V) (d : PyData), Val K mg F H L w p v → toD p = some d → Dp K H v d
  | _, .non, v, d, h, e => by simp only [Val] at h; simp only [toD, Option.some.injEq] at e; subst h e; exact .non
  | _, .bl b, v, d, h, e => by simp only [Val] at h; simp only [toD, Option.some.injEq] at e; subst h e; exact .bl b
  | _, .int b, v, d, h, e => by simp only [Val] at h; simp only [toD, Option.some.injEq] at e; subst h e; exact .int b
  | _, .str b, v, d, h, e => by simp only [Val] at h; simp only [toD, Option.some.injEq] at e; subst h e; exact .str b
  | w, .lst o xs, v, d, h, e => by
    simp only [Val] at h
    obtain ⟨a, vs, rfl, q⟩ := h
    simp only [toD, Option.map_eq_some_iff] at e
    obtain ⟨ds, e, rfl⟩ := e
    cases o with
    | true =>
      simp only [if_true] at q
      exact .lst (.inl (.inl q.2.1)) (ValL.dp s w 0 xs vs ds q.2.2 e)
    | false =>
      simp only [Bool.false_eq_true, if_false] at q
      exact .lst (s.seqL q.1) (FzL.dp s xs vs ds q.2 e)
  | _, .tup xs, v, d, h, e => by
    simp only [Val] at h
    obtain ⟨a, vs, rfl, q, r⟩ := h
    simp only [toD, Option.map_eq_some_iff] at e
    obtain ⟨ds, e, rfl⟩ := e
    exact .tup (s.seqT q) (FzL.dp s xs vs ds r e)
  | _, .scr xs, v, d, h, e => by
    simp only [Val] at h
    obtain ⟨a, vs, rfl, q, r⟩ := h
    simp only [toD, Option.map_eq_some_iff] at e
    obtain ⟨ds, e, rfl⟩ := e
    exact .lst (s.seqLL q) (FzL.dp s xs vs ds r e)
  | _, .ins _ _ _ _, _, _, _, e => by simp [toD] at e
  | _, .dK _ _ _, _, _, _, e => by simp [toD] at e
  | _, .dT _ _ _, _, _, _, e => by simp [toD] at e
theorem ValL.dp (s : Sub F H) : ∀ (w : List Nat) (j : Nat) (xs : List PV) (vs : List V) (ds : List PyData), ValL K mg F H L w j xs vs → toDL xs = some ds → DpAll K H vs ds
  | _, _, [], vs, ds, h, e => by simp only [ValL] at h; simp only [toDL, Option.some.injEq] at e; subst h e; exact .nil
  | w, j, x :: xs, vs, ds, h, e => by
    simp only [ValL] at h
    obtain ⟨v, vr, rfl, h1, h2⟩ := h
    simp only [toDL, Option.bind_eq_some_iff, Option.map_eq_some_iff] at e
    obtain ⟨d, e1, dr, e2, rfl⟩ := e
    exact .cons (Val.dp s (w ++ [j]) x v d h1 e1) (ValL.dp s w (j + 1) xs vr dr h2 e2)
end
/-- what a list (owned or not) reads as -/
theorem Val.list {w : List Nat} {o : Bool} {xs : List PV} {v : V} (s : Sub F H) (h : Val K mg F H L w (.lst o xs) v) : ∃ a vs, v = .ref a ∧ Rd H a (.lst vs) ∧ ValL K mg F H L w 0 xs vs := by
  simp only [Val] at h
  obtain ⟨a, vs, rfl, q⟩ := h
  cases o with
  | true =>
    simp only [if_true] at q
    exact ⟨a, vs, rfl, .inl q.2.1, q.2.2⟩
  | false =>
    simp only [Bool.false_eq_true, if_false] at q
    exact ⟨a, vs, rfl, s.rd q.1, q.2.valL⟩
theorem Val.tuple {w : List Nat} {xs : List PV} {v : V} (s : Sub F H) (h : Val K mg F H L w (.tup xs) v) : ∃ a vs, v = .ref a ∧ SqT K F a vs ∧ FzL K mg F xs vs := by
  simp only [Val] at h
  exact h
/-- the labels below w, seen from w -/
def shift (w : List Nat) (L : LM) : LM := fun a => (L a).bind fun u => if w.isPrefixOf u = true then some (u.drop w.length) else none
theorem shift_at {w u : List Nat} {a : Addr} (h : L a = some (w ++ u)) : shift w L a = some u := by
  unfold shift
  rw [h]
  have : w.isPrefixOf (w ++ u) = true := by rw [List.isPrefixOf_iff_prefix]; exact List.prefix_append w u
  simp [this]
mutual
theorem Val.shift : ∀ (w u : List Nat) (p : PV) (v : V), Val K mg F H L (w ++ u) p v → Val K mg F H (shift w L) u p v
  | w, u, .non, _, h => by simpa [Val] using h
  | w, u, .bl _, _, h => by simpa [Val] using h
  | w, u, .int _, _, h => by simpa [Val] using h
  | w, u, .str _, _, h => by simpa [Val] using h
  | w, u, .lst o xs, v, h => by
    simp only [Val] at h ⊢
    obtain ⟨a, vs, e, q⟩ := h
    refine ⟨a, vs, e, ?_⟩
    cases o with
    | true =>
      simp only [if_true] at q ⊢
      exact ⟨shift_at q.1, q.2.1, ValL.shift w u 0 xs vs q.2.2⟩
    | false => simpa using q
  | w, u, .tup xs, v, h => by simpa [Val] using h
  | w, u, .scr xs, v, h => by simpa [Val] using h
  | w, u, .ins o c fs xs, v, h => by
    simp only [Val] at h ⊢
    obtain ⟨a, C, dx, vs, e, q1, q2, q⟩ := h
    refine ⟨a, C, dx, vs, e, q1, q2, ?_⟩
    cases o with
    | true =>
      simp only [if_true] at q ⊢
      exact ⟨shift_at q.1, q.2.1, ValL.shift w u 0 xs vs q.2.2⟩
    | false => simpa using q
  | w, u, .dK o ks xs, v, h => by
    simp only [Val] at h ⊢
    obtain ⟨a, vs, e, q2, q⟩ := h
    refine ⟨a, vs, e, q2, ?_⟩
    cases o with
    | true =>
      simp only [if_true] at q ⊢
      exact ⟨shift_at q.1, q.2⟩
    | false => simpa using q
  | w, u, .dT o ks xs, v, h => by
    simp only [Val] at h ⊢
    obtain ⟨a, vs, e, q2, q⟩ := h
    refine ⟨a, vs, e, q2, ?_⟩
    cases o with
    | true =>
      simp only [if_true] at q ⊢
      exact ⟨shift_at q.1, q.2⟩
    | false => simpa using q
theorem ValL.shift : ∀ (w u : List Nat) (j : Nat) (xs : List PV) (vs : List V), ValL K mg F H L (w ++ u) j xs vs → ValL K mg F H (shift w L) u j xs vs
  | w, u, j, [], _, h => by simpa [ValL] using h
  | w, u, j, x :: xs, vs, h => by
    simp only [ValL] at h ⊢
    obtain ⟨v, vr, e, h1, h2⟩ := h
    exact ⟨v, vr, e, Val.shift w (u ++ [j]) x v (by rw [← List.append_assoc]; exact h1), ValL.shift w u (j + 1) xs vr h2⟩
end
theorem ValL.get : ∀ {xs : List PV} {vs : List V} {w : List Nat} {j i : Nat} {x : PV}, ValL K mg F H L w j xs vs → xs[i]? = some x → ∃ v, vs[i]? = some v ∧ Val K mg F H L (w ++ [j + i]) x v
  | [], _, _, _, _, _, _, h => by simp at h
  | y :: xs, vs, w, j, 0, x, h, e => by
    simp only [ValL] at h
    obtain ⟨v, vr, e', h1, h2⟩ := h
    simp at e
    subst e
    exact ⟨v, by simp [e'], by simpa using h1⟩
  | y :: xs, vs, w, j, i + 1, x, h, e => by
    simp only [ValL] at h
    obtain ⟨v, vr, e', h1, h2⟩ := h
    obtain ⟨u, hu, r⟩ := ValL.get (i := i) h2 (by simpa using e)
    exact ⟨u, by simp [e', hu], by rw [show j + (i + 1) = j + 1 + i by omega]; exact r⟩
end

/-! ### constants, names -/
def eC (p : PV) : ME := fun ρ => .ok (p, ρ)
def eVar (i : Nat) : ME := fun ρ => match ρ[i]? with
  | some (some p) => .ok (p, ρ)
  | _ => .error .stuck
/-- the name's value leaves the slot: it is frozen -/
def eMov (i : Nat) : ME := fun ρ => match ρ[i]? with
  | some (some p) => .ok (frz p, ρ.set i (some (frz p)))
  | _ => .error .stuck
section
variable {X : Cx} {D : DX} {W : WX} {pos : Pos}
theorem OutE.pure {K : Frag} {mg : Mg} {F H : Hp} {Ls : Lb} {σ : St} {ρ : Rho} {Q : VK} {tmp : Bool} {p : PV} {v : V} (h : OutE K mg D W F H Ls σ Q tmp (.ok (p, ρ))) (S : SA K mg D F H Ls σ ρ) (hv : Fz K mg F p v) : Q v H :=
  h F H Ls noL v S Ev.refl hv.val fun _ => Tmp.no
theorem de_int {i j} : DM X D W (.Constant (.int i) j pos) (eC (.int i)) := ⟨_, pe_int, fun F H Ls σ ρ Q S h => h.pure (v := .int i) S (by simp [Fz])⟩
theorem de_bl {b j} : DM X D W (.Constant (.bool b) j pos) (eC (.bl b)) := ⟨_, pe_bl, fun F H Ls σ ρ Q S h => h.pure (v := .bl b) S (by simp [Fz])⟩
theorem de_non {j} : DM X D W (.Constant .none j pos) (eC .non) := ⟨_, pe_non, fun F H Ls σ ρ Q S h => h.pure (v := .non) S (by simp [Fz])⟩
theorem de_str {x j} : DM X D W (.Constant (.str x) j pos) (eC (.str x)) := ⟨_, pe_str, fun F H Ls σ ρ Q S h => h.pure (v := .str x) S (by simp [Fz])⟩
/-- a slot that is seen -/
def Sl (X : Cx) (i : Nat) (x : Str) : Prop := X.N[i]? = some x ∧ Vis X.env.scope x ∧ (x == ("__debug__" : Str)) = false ∧ (x == ("__classdict__" : Str)) = false
theorem de_var {i : Nat} {x : Str} (h : Sl X i x) : DE X D W (.Name x pos) (eVar i) := by
  refine ⟨_, pe_var h.1 h.2.1 h.2.2.1 h.2.2.2, fun F H Ls σ ρ Q S o => ?_⟩
  unfold eVar at o
  split at o
  · rename_i p e
    obtain ⟨v, e1, hv⟩ := S.slot i p e
    exact ⟨v, e1, o F H Ls (Ls i) v S Ev.refl hv fun z => by cases z⟩
  · exact o.elim
theorem de_mov {i : Nat} {x : Str} (h : Sl X i x) : DM X D W (.Name x pos) (eMov i) := by
  refine ⟨_, pe_var h.1 h.2.1 h.2.2.1 h.2.2.2, fun F H Ls σ ρ Q S o => ?_⟩
  unfold eMov at o
  split at o
  · rename_i p e
    obtain ⟨v, e1, hv⟩ := S.slot i p e
    exact ⟨v, e1, o _ H _ noL v (S.freeze e) (S.evTake i) (hv.freeze (S.takeSub i) [] p v).val fun _ => Tmp.no⟩
  · exact o.elim
/-- a constant of the module -/
theorem de_glob {x : Str} {v : V} {u : Value} {p : PV} (hg : Gl X x) (hm : X.mg x = some u) (r : RelV v u) (hv : ∀ F, Fz X.K X.mg F p v) (hd : (x == ("__debug__" : Str)) = false := by decide) : DM X D W (.Name x pos) (eC p) :=
  ⟨_, pe_glob hg hm r hd, fun F H Ls σ ρ Q S h => h.pure (v := v) S (hv F)⟩
end

/-! ### two values -/
/-- a rule by values, as a function -/
def OpS (K : Frag) (mg : Mg) (r : R2) (g : PV → PV → R PV) : Prop := ∀ (D : DX) (W : WX) (F H : Hp) (Ls : Lb) (σ : St) (ρ : Rho) (Q : VK) (tmp : Bool) (p q : PV) (x y : V) (L1 L2 : LM),
  SA K mg D F H Ls σ ρ → Val K mg F H L1 [] p x → Val K mg F H L2 [] q y → OutE K mg D W F H Ls σ Q tmp (g p q >>= fun z => .ok (z, ρ)) → r x y H Q
def eBin (g : PV → PV → R PV) (ma mb : ME) : ME := fun ρ => ma ρ >>= fun a => mb a.2 >>= fun b => if fz a.1 = true then g a.1 b.1 >>= fun z => .ok (z, b.2) else .error .stuck
/-- the left one a name: read behind the right one -/
def eBinN (g : PV → PV → R PV) (i : Nat) (mb : ME) : ME := fun ρ => match ρ[i]? with
  | some (some _) => mb ρ >>= fun b => match b.2[i]? with
    | some (some p) => g p b.1 >>= fun z => .ok (z, b.2)
    | _ => .error .stuck
  | _ => .error .stuck
section
variable {X : Cx} {D : DX} {W : WX} {pos : Pos} {a b : Expr} {ma mb : ME} {tmp t1 t2 : Bool} {r : R2} {g : PV → PV → R PV}
theorem bin_spec {ta tb : TE} (hs : OpS X.K X.mg r g) (h1 : ∀ F H Ls σ ρ Q, SA X.K X.mg D F H Ls σ ρ → OutE X.K X.mg D W F H Ls σ Q t1 (ma ρ) → ta σ H Q) (h2 : ∀ F H Ls σ ρ Q, SA X.K X.mg D F H Ls σ ρ → OutE X.K X.mg D W F H Ls σ Q t2 (mb ρ) → tb σ H Q)
    {F H : Hp} {Ls : Lb} {σ : St} {ρ : Rho} {Q : VK} (S : SA X.K X.mg D F H Ls σ ρ) (o : OutE X.K X.mg D W F H Ls σ Q tmp (eBin g ma mb ρ)) : tOp r ta tb σ H Q := by
  refine h1 F H Ls σ ρ _ S (eE o fun p ρ1 F1 H1 Ls1 L1 x S1 e1 V1 _ o1 => ?_)
  refine h2 F1 H1 Ls1 σ ρ1 _ S1 (eE o1 fun q ρ2 F2 H2 Ls2 L2 y S2 e2 V2 _ o2 => ?_)
  dsimp only at o2
  by_cases hf : fz p = true
  · rw [if_pos hf] at o2
    exact hs D W F2 H2 Ls2 σ ρ2 Q tmp p q x y noL L2 S2 ((V1.fzz _ _ _ hf).mono e2.mono _ _).val V2 o2
  · rw [if_neg hf] at o2
    exact o2.elim
theorem de_bin {op : Operator} (ho : OpR X (binaryOp op) r) (hs : OpS X.K X.mg r g) (ha : DE' t1 X D W a ma) (hb : DE' t2 X D W b mb) : DE' tmp X D W (.BinOp a op b pos) (eBin g ma mb) := by
  obtain ⟨ta, pa, h1⟩ := ha
  obtain ⟨tb, pb, h2⟩ := hb
  exact ⟨_, pe_op ho pa pb, fun F H Ls σ ρ Q S o => bin_spec hs h1 h2 S o⟩
theorem binN_spec {tb : TE} {i : Nat} (hs : OpS X.K X.mg r g) (h2 : ∀ F H Ls σ ρ Q, SA X.K X.mg D F H Ls σ ρ → OutE X.K X.mg D W F H Ls σ Q t2 (mb ρ) → tb σ H Q)
    {F H : Hp} {Ls : Lb} {σ : St} {ρ : Rho} {Q : VK} (S : SA X.K X.mg D F H Ls σ ρ) (o : OutE X.K X.mg D W F H Ls σ Q tmp (eBinN g i mb ρ)) : tOp r (tVar i) tb σ H Q := by
  unfold eBinN at o
  split at o
  · rename_i p0 e0
    obtain ⟨v, e1, hv⟩ := S.slot i p0 e0
    refine ⟨v, e1, h2 F H Ls σ ρ _ S (eE o fun q ρ2 F2 H2 Ls2 L2 y S2 e2 V2 _ o2 => ?_)⟩
    dsimp only at o2
    split at o2
    · rename_i p e
      obtain ⟨v2, e3, hv2⟩ := S2.slot i p e
      rw [e1] at e3
      cases e3
      exact hs D W F2 H2 Ls2 σ ρ2 Q tmp p q v y (Ls2 i) L2 S2 hv2 V2 o2
    · exact o2.elim
  · exact o.elim
theorem de_binN {op : Operator} {i : Nat} {x : Str} {px : Pos} (ho : OpR X (binaryOp op) r) (hs : OpS X.K X.mg r g) (hx : Sl X i x) (hb : DE' t2 X D W b mb) : DE' tmp X D W (.BinOp (.Name x px) op b pos) (eBinN g i mb) := by
  obtain ⟨tb, pb, h2⟩ := hb
  exact ⟨_, pe_op ho (pe_var hx.1 hx.2.1 hx.2.2.1 hx.2.2.2) pb, fun F H Ls σ ρ Q S o => binN_spec hs h2 S o⟩
theorem de_cmp {op : CmpOp} (ho : OpR X (compareOp op) r) (hs : OpS X.K X.mg r g) (ha : DE' t1 X D W a ma) (hb : DE' t2 X D W b mb) (hm : behindInMarks op b = false := by rfl) : DE' tmp X D W (.Compare a [op] [b] pos) (eBin g ma mb) := by
  obtain ⟨ta, pa, h1⟩ := ha
  obtain ⟨tb, pb, h2⟩ := hb
  exact ⟨_, pe_cmpR ho pa pb hm, fun F H Ls σ ρ Q S o => bin_spec hs h1 h2 S o⟩
theorem de_cmpN {op : CmpOp} {i : Nat} {x : Str} {px : Pos} (ho : OpR X (compareOp op) r) (hs : OpS X.K X.mg r g) (hx : Sl X i x) (hb : DE' t2 X D W b mb) (hm : behindInMarks op b = false := by rfl) : DE' tmp X D W (.Compare (.Name x px) [op] [b] pos) (eBinN g i mb) := by
  obtain ⟨tb, pb, h2⟩ := hb
  exact ⟨_, pe_cmpR ho (pe_var hx.1 hx.2.1 hx.2.2.1 hx.2.2.2) pb hm, fun F H Ls σ ρ Q S o => binN_spec hs h2 S o⟩
/-- a value that is a bool, as a test -/
def tBool (m : ME) : MT := fun ρ => m ρ >>= fun a => match a.1 with
  | .bl k => .ok (k, a.2)
  | _ => .error .stuck
theorem tb_spec {K : Frag} {mg : Mg} {t : TE} {m : ME} {t1 : Bool} (h1 : ∀ F H Ls σ ρ Q, SA K mg D F H Ls σ ρ → OutE K mg D W F H Ls σ Q t1 (m ρ) → t σ H Q)
    {F H : Hp} {Ls : Lb} {σ : St} {ρ : Rho} {Q : Bool → Hp → Prop} (S : SA K mg D F H Ls σ ρ) (o : OutT K mg D W F H Ls σ Q (tBool m ρ)) : t σ H fun x H' => ∃ k, x = .bl k ∧ Q k H' := by
  refine h1 F H Ls σ ρ _ S (eT o fun p ρ1 F1 H1 Ls1 L1 x S1 e1 V1 _ o1 => ?_)
  dsimp only at o1
  split at o1
  · rename_i k
    simp only [Val] at V1
    exact ⟨k, V1, o1 F1 H1 Ls1 S1 Ev.refl⟩
  · exact o1.elim
theorem dt_cmp {op : CmpOp} (ho : OpR X (compareOp op) r) (hs : OpS X.K X.mg r g) (ha : DE' t1 X D W a ma) (hb : DE' t2 X D W b mb) (hm : behindInMarks op b = false := by rfl) : DT X D W (.Compare a [op] [b] pos) (tBool (eBin g ma mb)) := by
  obtain ⟨ta, pa, h1⟩ := ha
  obtain ⟨tb, pb, h2⟩ := hb
  exact ⟨_, pt_cmpR ho pa pb hm, fun F H Ls σ ρ Q S o => tb_spec (t1 := false) (fun F H Ls σ ρ Q S o => bin_spec hs h1 h2 S o) S o⟩
theorem dt_cmpN {op : CmpOp} {i : Nat} {x : Str} {px : Pos} (ho : OpR X (compareOp op) r) (hs : OpS X.K X.mg r g) (hx : Sl X i x) (hb : DE' t2 X D W b mb) (hm : behindInMarks op b = false := by rfl) : DT X D W (.Compare (.Name x px) [op] [b] pos) (tBool (eBinN g i mb)) := by
  obtain ⟨tb, pb, h2⟩ := hb
  exact ⟨_, pt_cmpR ho (pe_var hx.1 hx.2.1 hx.2.2.1 hx.2.2.2) pb hm, fun F H Ls σ ρ Q S o => tb_spec (t1 := false) (fun F H Ls σ ρ Q S o => binN_spec hs h2 S o) S o⟩
/-- a op b op' c -/
def eChain (g g' : PV → PV → R PV) (ma mb mc : ME) : ME := fun ρ => ma ρ >>= fun a => mb a.2 >>= fun b => if (fz a.1 && fz b.1) = true then g a.1 b.1 >>= fun k => match k with
    | .bl true => mc b.2 >>= fun c => g' b.1 c.1 >>= fun z => .ok (z, c.2)
    | .bl false => .ok (.bl false, b.2)
    | _ => .error .stuck
  else .error .stuck
theorem chain_spec {r' : R2} {g' : PV → PV → R PV} {mc : ME} {t3 : Bool} {ta tb tc : TE} (hs : OpS X.K X.mg r g) (hs' : OpS X.K X.mg r' g') (h1 : ∀ F H Ls σ ρ Q, SA X.K X.mg D F H Ls σ ρ → OutE X.K X.mg D W F H Ls σ Q t1 (ma ρ) → ta σ H Q) (h2 : ∀ F H Ls σ ρ Q, SA X.K X.mg D F H Ls σ ρ → OutE X.K X.mg D W F H Ls σ Q t2 (mb ρ) → tb σ H Q)
    (h3 : ∀ F H Ls σ ρ Q, SA X.K X.mg D F H Ls σ ρ → OutE X.K X.mg D W F H Ls σ Q t3 (mc ρ) → tc σ H Q)
    {F H : Hp} {Ls : Lb} {σ : St} {ρ : Rho} {Q : VK} (S : SA X.K X.mg D F H Ls σ ρ) (o : OutE X.K X.mg D W F H Ls σ Q tmp (eChain g g' ma mb mc ρ)) : tChain r r' ta tb tc σ H Q := by
  refine h1 F H Ls σ ρ _ S (eE o fun p ρ1 F1 H1 Ls1 L1 x S1 e1 V1 _ o1 => ?_)
  refine h2 F1 H1 Ls1 σ ρ1 _ S1 (eE o1 fun q ρ2 F2 H2 Ls2 L2 y S2 e2 V2 _ o2 => ?_)
  dsimp only at o2
  by_cases hf : (fz p && fz q) = true
  · rw [if_pos hf] at o2
    rw [Bool.and_eq_true] at hf
    have fx := (V1.fzz _ _ _ hf.1).mono e2.mono _ _
    have fy := V2.fzz _ _ _ hf.2
    refine hs D W F2 H2 Ls2 σ ρ2 _ false p q x y noL noL S2 fx.val fy.val ?_
    cases hg : g p q with
    | error e =>
      rw [hg] at o2
      cases e with
      | stuck => exact o2.elim
      | exc c f pl => exact o2
    | ok k =>
      rw [hg] at o2
      intro F3 H3 Ls3 L3 v S3 e3 V3 _
      cases k with
      | bl kb =>
        simp only [Val] at V3
        refine ⟨kb, V3, ?_⟩
        cases kb with
        | true =>
          rw [if_pos rfl]
          have o3 : OutE X.K X.mg D W F2 H2 Ls2 σ Q tmp (mc ρ2 >>= fun c => g' q c.1 >>= fun z => .ok (z, c.2)) := o2
          refine h3 F3 H3 Ls3 σ ρ2 _ S3 (eE (o3.step e3) fun c ρ4 F4 H4 Ls4 L4 z S4 e4 V4 _ o4 => ?_)
          exact hs' D W F4 H4 Ls4 σ ρ4 Q tmp q c y z noL L4 S4 ((fy.mono e3.mono _ _).mono e4.mono _ _).val V4 o4
        | false =>
          rw [if_neg
              Bool.false_ne_true]
          have o3 : OutE X.K X.mg D W F2 H2 Ls2 σ Q tmp (.ok (.bl false, ρ2)) := o2
          exact (o3.step e3).pure (v := .bl false) S3 (by simp [Fz])
      | _ => exact (show False from o2).elim
  · rw [if_neg hf] at o2
    exact o2.elim
theorem de_chain {op op' : CmpOp} {r' : R2} {g' : PV → PV → R PV} {c : Expr} {mc : ME} {t3 : Bool} (ho : OpR X (compareOp op) r) (ho' : OpR X (compareOp op') r') (hs : OpS X.K X.mg r g) (hs' : OpS X.K X.mg r' g') (ha : DE' t1 X D W a ma) (hb : DE' t2 X D W b mb) (hc : DE' t3 X D W c mc)
    (hm : lastMarks [op, op'] [b, c] = false := by with_unfolding_all rfl) : DE' tmp X D W (.Compare a [op, op'] [b, c] pos) (eChain g g' ma mb mc) := by
  obtain ⟨ta, pa, h1⟩ := ha
  obtain ⟨tb, pb, h2⟩ := hb
  obtain ⟨tc, pc, h3⟩ := hc
  exact ⟨_, pe_chain ho ho' pa pb pc hm, fun F H Ls σ ρ Q S o => chain_spec hs hs' h1 h2 h3 S o⟩
theorem dt_chain {op op' : CmpOp} {r' : R2} {g' : PV → PV → R PV} {c : Expr} {mc : ME} {t3 : Bool} (ho : OpR X (compareOp op) r) (ho' : OpR X (compareOp op') r') (hs : OpS X.K X.mg r g) (hs' : OpS X.K X.mg r' g') (ha : DE' t1 X D W a ma) (hb : DE' t2 X D W b mb) (hc : DE' t3 X D W c mc)
    (hm : lastMarks [op, op'] [b, c] = false := by with_unfolding_all rfl) : DT X D W (.Compare a [op, op'] [b, c] pos) (tBool (eChain g g' ma mb mc)) := by
  obtain ⟨ta, pa, h1⟩ := ha
  obtain ⟨tb, pb, h2⟩ := hb
  obtain ⟨tc, pc, h3⟩ := hc
  exact ⟨_, pt_chain ho ho' pa pb pc hm, fun F H Ls σ ρ Q S o => tb_spec (t1 := false) (fun F H Ls σ ρ Q S o => chain_spec hs hs' h1 h2 h3 S o) S o⟩
end
end PX
set_option Elab.async false
set_option linter.all false
set_option maxRecDepth 100000
set_option maxHeartbeats 3900000
namespace PX
open PySem L2
variable [HasT]

/-! ### the operations, by values -/
def pyAdd : PV → PV → R PV
  | .int i, .int j => .ok (.int (i + j))
  | .str x, .str y => if x.length + y.length ≤ sizeLine then .ok (.str (x ++ y)) else .error .stuck
  | .lst _ xs, .lst _ ys => if (fzL xs && fzL ys && decide (xs.length + ys.length ≤ sizeLine)) = true then .ok (.lst true (xs ++ ys)) else .error .stuck
  | .tup xs, .tup ys => if xs.length + ys.length ≤ sizeLine then .ok (.tup (xs ++ ys)) else .error .stuck
  | _, _ => .error .stuck
def pySub : PV → PV → R PV
  | .int i, .int j => .ok (.int (i - j))
  | _, _ => .error .stuck
def pyMul : PV → PV → R PV
  | .int i, .int j => if i.natAbs < 18446744073709551616 ∨ j.natAbs < 18446744073709551616 then .ok (.int (i * j)) else .error .stuck
  | .str x, .int n => if 0 ≤ n ∧ n ≤ 1000 ∧ x.length ≤ 1000 then .ok (.str (Txt.mul x n)) else .error .stuck
  | .tup xs, .int k => if xs ≠ [] ∧ 2 ≤ k ∧ k ≤ 1000 ∧ xs.length ≤ 1000 then .ok (.tup (List.replicate k.toNat xs).flatten) else .error .stuck
  | _, _ => .error .stuck
def pyDiv : PV → PV → R PV
  | .int i, .int j => if 0 < j ∧ j.natAbs.log2 < 9000 then .ok (.int (i / j)) else .error .stuck
  | _, _ => .error .stuck
def pyMod : PV → PV → R PV
  | .int i, .int j => if 0 < j then .ok (.int (i % j)) else .error .stuck
  | _, _ => .error .stuck
def pyPow : PV → PV → R PV
  | .int i, .int j => if 0 ≤ j ∧ j ≤ 1000000 ∧ i.natAbs < 18446744073709551616 then .ok (.int (i ^ j.toNat)) else .error .stuck
  | _, _ => .error .stuck
def pyEqB (p q : PV) : R Bool := match toD p, toD q with
  | some d, some e => if (SeqAt.shaped d && SeqAt.shaped e) = true then .ok (PyData.eqv d e) else .error .stuck
  | _, _ => .error .stuck
def pyEq (p q : PV) : R PV := pyEqB p q >>= fun b => .ok (.bl b)
def pyNe (p q : PV) : R PV := pyEqB p q >>= fun b => .ok (.bl (!b))
def pyLt : PV → PV → R PV
  | .int i, .int j => .ok (.bl (decide (i < j)))
  | _, _ => .error .stuck
def pyLe : PV → PV → R PV
  | .int i, .int j => .ok (.bl (decide (i ≤ j)))
  | _, _ => .error .stuck
def pyGt : PV → PV → R PV
  | .int i, .int j => .ok (.bl (decide (j < i)))
  | _, _ => .error .stuck
def pyGe : PV → PV → R PV
  | .int i, .int j => .ok (.bl (decide (j ≤ i)))
  | _, _ => .error .stuck
def isNon : PV → Bool
  | .non => true
  | _ => false
def pyIs : PV → PV → R PV
  | p, .non => .ok (.bl (isNon p))
  | _, _ => .error .stuck
def pyIsN : PV → PV → R PV
  | p, .non => .ok (.bl (!isNon p))
  | _, _ => .error .stuck
def pyInB (p : PV) : PV → R Bool
  | .lst _ xs => match toD p, toDL xs with
    | some d, some ds => if (SeqAt.shaped d && SeqAt.shaped (.list ds)) = true then .ok (ds.any fun z => PyData.eqv z d) else .error .stuck
    | _, _ => .error .stuck
  | .tup xs => match toD p, toDL xs with
    | some d, some ds => if (SeqAt.shaped d && SeqAt.shaped (.tuple ds)) = true then .ok (ds.any fun z => PyData.eqv z d) else .error .stuck
    | _, _ => .error .stuck
  | .str z => match p with
    | .str y => .ok (!(Builtin.Str.occurrences z y 0 z.length 1).isEmpty)
    | _ => .error .stuck
  | _ => .error .stuck
def pyIn (p q : PV) : R PV := pyInB p q >>= fun b => .ok (.bl b)
def pyNotIn (p q : PV) : R PV := pyInB p q >>= fun b => .ok (.bl (!b))
def pyIx : PV → PV → R PV
  | .lst _ xs, .int i => match atI xs i with
    | some x => if fz x = true then .ok x else .error .stuck
    | none => .error .stuck
  | .tup xs, .int i => match atI xs i with
    | some x => .ok x
    | none => .error .stuck
  | .scr xs, .int i => match atI xs i with
    | some x => .ok x
    | none => .error .stuck
  | .str z, .int i => if z.length ≤ sizeLine then match atI z.cps.toList i with
    | some c => .ok (.str ⟨#[c]⟩)
    | none => .error .stuck
    else .error .stuck
  | _, _ => .error .stuck

section
variable {K : Frag} {mg : Mg}
theorem ops_sub : OpS K mg (rI0 fun i j => .int (i - j)) pySub := by
  intro D W F H Ls σ ρ Q tmp p q x y L1 L2 S V1 V2 o
  unfold pySub at o
  split at o
  · simp only [Val] at V1 V2
    exact ⟨_, _, V1, V2, OutE.pure o S (by simp [Fz])⟩
  · exact o.elim
theorem ops_lt : OpS K mg (rI0 fun i j => .bl (decide (i < j))) pyLt := by
  intro D W F H Ls σ ρ Q tmp p q x y L1 L2 S V1 V2 o
  unfold pyLt at o
  split at o
  · simp only [Val] at V1 V2
    exact ⟨_, _, V1, V2, OutE.pure o S (by simp [Fz])⟩
  · exact o.elim
theorem ops_le : OpS K mg (rI0 fun i j => .bl (decide (i ≤ j))) pyLe := by
  intro D W F H Ls σ ρ Q tmp p q x y L1 L2 S V1 V2 o
  unfold pyLe at o
  split at o
  · simp only [Val] at V1 V2
    exact ⟨_, _, V1, V2, OutE.pure o S (by simp [Fz])⟩
  · exact o.elim
theorem ops_gt : OpS K mg (rI0 fun i j => .bl (decide (j < i))) pyGt := by
  intro D W F H Ls σ ρ Q tmp p q x y L1 L2 S V1 V2 o
  unfold pyGt at o
  split at o
  · simp only [Val] at V1 V2
    exact ⟨_, _, V1, V2, OutE.pure o S (by simp [Fz])⟩
  · exact o.elim
theorem ops_ge : OpS K mg (rI0 fun i j => .bl (decide (j ≤ i))) pyGe := by
  intro D W F H Ls σ ρ Q tmp p q x y L1 L2 S V1 V2 o
  unfold pyGe at o
  split at o
  · simp only [Val] at V1 V2
    exact ⟨_, _, V1, V2, OutE.pure o S (by simp [Fz])⟩
  · exact o.elim
theorem ops_div : OpS K mg (rI CDivW fun i j => .int (i / j)) pyDiv := by
  intro D W F H Ls σ ρ Q tmp p q x y L1 L2 S V1 V2 o
  unfold pyDiv at o
  split at o
  · simp only [Val] at V1 V2
    split at o
    · rename_i hc
      exact ⟨_, _, V1, V2, hc, OutE.pure o S (by simp [Fz])⟩
    · exact o.elim
  · exact o.elim
theorem ops_mod : OpS K mg (rI (fun _ j => 0 < j) fun i j => .int (i % j)) pyMod := by
  intro D W F H Ls σ ρ Q tmp p q x y L1 L2 S V1 V2 o
  unfold pyMod at o
  split at o
  · simp only [Val] at V1 V2
    split at o
    · rename_i hc
      exact ⟨_, _, V1, V2, hc, OutE.pure o S (by simp [Fz])⟩
    · exact o.elim
  · exact o.elim
theorem ops_pow : OpS K mg (rI CPow fun i j => .int (i ^ j.toNat)) pyPow := by
  intro D W F H Ls σ ρ Q tmp p q x y L1 L2 S V1 V2 o
  unfold pyPow at o
  split at o
  · simp only [Val] at V1 V2
    split at o
    · rename_i hc
      exact ⟨_, _, V1, V2, ⟨hc.1, hc.2.1, hc.2.2⟩, OutE.pure o S (by simp [Fz])⟩
    · exact o.elim
  · exact o.elim
end

/-! ### + -/
def rCatR : R2 := fun x y H Q => ∃ l b xs zs, x = .ref l ∧ y = .ref b ∧ Rd H l (.lst xs) ∧ Rd H b (.lst zs) ∧ xs.length + zs.length ≤ sizeLine ∧ ∀ p, H p = none → Q (.ref p) (upd H p (.lst (xs ++ zs)))
def rStr2 : R2 := fun x y H Q => ∃ i j, x = .str i ∧ y = .str j ∧ i.length + j.length ≤ sizeLine ∧ Q (.str (i ++ j)) H
def rAddAll (K : Frag) : R2 := fun x y H Q => (rI0 (fun i j => .int (i + j)) x y H Q ∨ rStr2 x y H Q) ∨ (rCatR x y H Q ∨ rCatA K x y H Q)
section
variable {X : Cx}
theorem lstRd {pins : List (Addr × Obj)} {σ : St} {H : Hp} {s : Shared} {l : Addr} {xs : List V} (I : Inv X pins σ H s) (h : Rd H l (.lst xs)) :
    xs.length ≤ sizeLine ∧ ∃ (its : List Value) (n : Nat), Vals xs its ∧ xs.length = its.length ∧ s.heap.get? l = some { cls := .type "list", data := .seq its.toArray n } := by
  obtain ⟨z, its, n, r, e⟩ := h.ok I.hok
  exact ⟨z, its, n,
      r, r.length, e⟩
theorem op_catR : OpR X (binaryOp .Add) rCatR := by
  intro pins s σ H x
      y v u Q I rx ry h
  obtain ⟨l, b, xs, zs, rfl,
      rfl, hH, hB, hz, q⟩ := h
  cases rx
  cases ry
  obtain ⟨_, i1, n, r, hl, e⟩ := lstRd I hH
  obtain ⟨_, i2, n2, r2, hl2, e2⟩ := lstRd I hB
  refine PySem.P.add_list e e2 ?_ (by simp only [List.size_toArray]; omega)
  rw [show i1.toArray ++ i2.toArray = (i1 ++ i2).toArray by simp]
  exact ⟨.ref _, _, I.lnew (t' := s.toks) (r.append r2) (by simp only [List.length_append]; omega), rfl, q _ I.fresh⟩
theorem opr_add : OpR X (binaryOp .Add) (rAddAll X.K) := (op_add.or op_add_str).or (op_catR.or op_catA)
end
section
variable {K : Frag} {mg : Mg}
/-- a new list of frozen items -/
theorem newL {D : DX} {W : WX} {F H : Hp} {Ls : Lb} {σ : St} {ρ : Rho} {Q : VK} {tmp : Bool} {xs : List PV} {vs : List V} (S : SA K mg D F H Ls σ ρ) (hv : FzL K mg F xs vs) (o : OutE K mg D W F H Ls σ Q tmp (.ok (.lst true xs, ρ))) :
    ∀ p, H p = none → Q (.ref p) (upd H p (.lst vs)) := fun p hp => by
  refine o F (upd H p (.lst vs)) Ls (fun a => if a = p then some [] else none) (.ref p) (S.alloc hp) (Ev.alloc hp) ?_ fun _ b hb => ?_
  · simp only [Val]
    exact ⟨p, vs, rfl, by simp only [if_true]; exact ⟨trivial, upd_same, hv.valL⟩⟩
  · have e : b = p := by
      by_cases h : b = p
      · exact h
      · have hb : (if b = p then some [] else none : Option (List Nat)).isSome = true := hb
        rw [if_neg h] at hb
        cases hb
    subst e
    exact ⟨Ob.no hp, S.sub.non hp, fun i => S.nl hp i, Ob.here True.intro⟩
/-- a new tuple -/
theorem newT {D : DX} {W : WX} {F H : Hp} {Ls : Lb} {σ : St} {ρ : Rho} {Q : VK} {tmp : Bool} {xs : List PV} {vs : List V} (S : SA K mg D F H Ls σ ρ) (hv : FzL K mg F xs vs) (o : OutE K mg D W F H Ls σ Q tmp (.ok (.tup xs, ρ))) :
    ∀ p, H p = none → Q (.ref p) (upd H p (.tup vs)) := fun p hp => by
  refine o (upd F p (.tup vs)) (upd H p (.tup vs)) Ls noL (.ref p) (S.allocF True.intro hp) (Ev.allocF S.sub hp) ?_ fun _ => Tmp.no
  simp only [Val]
  refine ⟨p, vs, rfl, SqT.of upd_same, hv.mono (fun b u h => ?_) _ _⟩
  rw [upd_ne (ne_of_none h (S.sub.non hp))]
  exact h
theorem ops_add : OpS K mg (rAddAll K) pyAdd := by
  intro D W F H Ls σ ρ Q tmp p q x y L1 L2 S V1 V2 o
  unfold pyAdd at o
  split at o
  · simp only [Val] at V1 V2
    exact .inl (.inl ⟨_, _, V1, V2, OutE.pure o S (by simp [Fz])⟩)
  · simp only [Val] at V1 V2
    split at o
    · rename_i hc
      exact .inl (.inr ⟨_, _, V1, V2, hc, OutE.pure o S (by simp [Fz])⟩)
    · exact o.elim
  · split at o
    · rename_i hc
      simp only [Bool.and_eq_true,
          decide_eq_true_eq] at hc
      obtain ⟨a, vs, e1, r1, h1⟩ := V1.list S.sub
      obtain ⟨b, us, e2, r2, h2⟩ := V2.list S.sub
      refine .inr (.inl ⟨a, b, vs, us, e1, e2, r1, r2, by rw [← h1.length, ← h2.length]; exact hc.2, ?_⟩)
      exact newL S ((h1.fzz hc.1.1).append (h2.fzz hc.1.2)) o
    · exact o.elim
  · split at o
    · rename_i hc
      obtain ⟨a, vs, e1, r1, h1⟩ := V1.tuple S.sub
      obtain ⟨b, us, e2, r2, h2⟩ := V2.tuple S.sub
      refine .inr (.inr ⟨a, b, vs, us, e1, e2, S.sub.seqT r1, S.sub.seqT r2, by rw [← h1.length, ← h2.length]; exact hc, fun hn => ?_, fun _ hn => ?_, fun _ _ => ?_⟩)
      · subst hn
        have hx := h1.length
        rw [List.length_nil, List.length_eq_zero_iff] at hx
        subst hx
        exact OutE.pure o S (by simp only [Fz, List.nil_append]; exact ⟨b, us, rfl, r2, h2⟩)
      · subst hn
        have hx := h2.length
        rw [List.length_nil, List.length_eq_zero_iff] at hx
        subst hx
        exact OutE.pure o S (by simp only [Fz, List.append_nil]; exact ⟨a, vs, rfl, r1, h1⟩)
      · exact newT S (h1.append h2) o
    · exact o.elim
  · exact o.elim
end

/-! ### * -/
def rStrMul : R2 := fun x y H Q => ∃ z n, x = .str z ∧ y = .int n ∧ (0 ≤ n ∧ n ≤ 1000 ∧ z.length ≤ 1000) ∧ Q (.str (Txt.mul z n)) H
def rMulAll (K : Frag) : R2 := fun x y H Q => (rI CMul (fun i j => .int (i * j)) x y H Q ∨ rStrMul x y H Q) ∨ rRepT K x y H Q
theorem op_strMul {X : Cx} : OpR X (binaryOp .Mult) rStrMul := by
  intro pins s σ H x
      y v u Q I rx ry h
  obtain ⟨z, n, rfl, rfl, ⟨h0, h1, h2⟩, q⟩ := h
  obtain ⟨t, rfl⟩ := rx
  obtain ⟨t', rfl⟩ := ry
  exact PySem.SB.mul (PyProof.Rows.mulOk_of (L := 1000) (N := 1000) h2 (by omega) (by omega) (by decide) (by decide)) fun t' k => ⟨.str (Txt.mul z n), H, I.tok _, ⟨_, rfl⟩, q⟩
theorem opr_mul {X : Cx} : OpR X (binaryOp .Mult) (rMulAll X.K) := (op_mul.or op_strMul).or op_repT
section
variable {K : Frag} {mg : Mg}
theorem FzL.rep {F : Hp} {xs : List PV} {vs : List V} (h : FzL K mg F xs vs) : ∀ k, FzL K mg F (List.replicate k xs).flatten (List.replicate k vs).flatten
  | 0 => by simp [FzL]
  | k + 1 => by
    rw [List.replicate_succ, List.replicate_succ,
        List.flatten_cons, List.flatten_cons]
    exact h.append (FzL.rep h k)
theorem ops_mul : OpS K mg (rMulAll K) pyMul := by
  intro D W F H Ls σ ρ Q tmp p q x y L1 L2 S V1 V2 o
  unfold pyMul at o
  split at o
  · rename_i i j
    simp only [Val] at V1 V2
    split at o
    · rename_i hc
      refine .inl (.inl ⟨_, _, V1, V2, ?_, OutE.pure o S (by simp [Fz])⟩)
      unfold CMul
      rcases hc with hc | hc
      · exact .inl ⟨by omega, by omega⟩
      · exact .inr ⟨by omega, by omega⟩
    · exact o.elim
  · simp only [Val] at V1 V2
    split at o
    · rename_i hc
      exact .inl (.inr ⟨_, _, V1, V2, hc, OutE.pure o S (by simp [Fz])⟩)
    · exact o.elim
  · split at o
    · rename_i hc
      obtain ⟨a, vs, e1, r1, h1⟩ := V1.tuple S.sub
      simp only [Val] at V2
      refine .inr ⟨a, _, vs, e1, V2, S.sub.seqT r1, ?_, hc.2.1, hc.2.2.1, by rw [← h1.length]; exact hc.2.2.2, newT S (h1.rep _) o⟩
      intro z
      subst z
      have hx := h1.length
      rw [List.length_nil, List.length_eq_zero_iff] at hx
      exact hc.1 hx
    · exact o.elim
  · exact o.elim
end
end PX
set_option Elab.async false
set_option linter.all false
set_option maxRecDepth 100000
set_option maxHeartbeats 3900000
namespace PX
open PySem L2
variable [HasT]

/-! ### ==, is, in -/
section
variable {K : Frag} {mg : Mg}
theorem ops_eq : OpS K mg (rEqD K) pyEq := by
  intro D W F H Ls σ ρ Q tmp p q x y L1 L2 S V1 V2 o
  unfold pyEq pyEqB at o
  split at o
  · rename_i d e hd he
    split at o
    · rename_i hc
      rw [Bool.and_eq_true] at hc
      exact ⟨d, e, Val.dp S.sub _ p x d V1 hd, Val.dp S.sub _ q y e V2 he, hc.1, hc.2, OutE.pure (v := .bl (PyData.eqv d e)) o S (by simp [Fz])⟩
    · exact o.elim
  · exact o.elim
theorem ops_ne : OpS K mg (rNeD K) pyNe := by
  intro D W F H Ls σ ρ Q tmp p q x y L1 L2 S V1 V2 o
  unfold pyNe pyEqB at o
  split at o
  · rename_i d e hd he
    split at o
    · rename_i hc
      rw [Bool.and_eq_true] at hc
      exact ⟨d, e, Val.dp S.sub _ p x d V1 hd, Val.dp S.sub _ q y e V2 he, hc.1, hc.2, OutE.pure (v := .bl (!PyData.eqv d e)) o S (by simp [Fz])⟩
    · exact o.elim
  · exact o.elim
theorem Val.isNon {F H : Hp} {L : LM} {w : List Nat} {p : PV} {x : V} (h : Val K mg F H L w p x) : decide (x = .non) = isNon p := by
  cases p with
  | non => simp only [Val] at h; subst h; rfl
  | bl _ => simp only [Val] at h; subst h; rfl
  | int _ => simp only [Val] at h; subst h; rfl
  | str _ => simp only [Val] at h; subst h; rfl
  | lst _ _ => simp only [Val] at h; obtain ⟨a, vs, rfl, _⟩ := h; rfl
  | tup _ => simp only [Val] at h; obtain ⟨a, vs, rfl, _⟩ := h; rfl
  | scr _ => simp only [Val] at h; obtain ⟨a, vs, rfl, _⟩ := h; rfl
  | ins _ _ _ _ => simp only [Val] at h; obtain ⟨a, C, dx, vs, rfl, _⟩ := h; rfl
  | dK _ _ _ => simp only [Val] at h; obtain ⟨a, vs, rfl, _⟩ := h; rfl
  | dT _ _ _ => simp only [Val] at h; obtain ⟨a, vs, rfl, _⟩ := h; rfl
def rIsN : R2 := fun x y H Q => y =
    .non ∧ Q (.bl (decide (x = .non))) H
def rIsNN : R2 := fun x y H Q => y = .non ∧ Q (.bl (!decide (x = .non))) H
theorem ops_is : OpS K mg rIsN pyIs := by
  intro D W F H Ls σ ρ Q tmp p q x y L1 L2 S V1 V2 o
  unfold pyIs at o
  split at o
  · simp only [Val] at V2
    exact ⟨V2, by rw [V1.isNon]; exact OutE.pure o S (by simp [Fz])⟩
  · exact o.elim
theorem ops_isN : OpS K mg rIsNN pyIsN := by
  intro D W F H Ls σ ρ Q tmp p q x y L1 L2 S V1 V2 o
  unfold pyIsN at o
  split at o
  · simp only [Val] at V2
    exact ⟨V2, by rw [V1.isNon]; exact OutE.pure o S (by simp [Fz])⟩
  · exact o.elim
end
def rInTD (K : Frag) (n : Bool) : R2 := fun x y H Q => ∃ d ds, Dp K H x d ∧ Dp K H y (.tuple ds) ∧ SeqAt.shaped d = true ∧ SeqAt.shaped (.tuple ds) = true ∧ Q (.bl (n ^^ ds.any fun z => PyData.eqv z d)) H
def rInSS : R2 := fun x y H Q => ∃ i j, x = .str i ∧ y = .str j ∧ Q (.bl (!(Builtin.Str.occurrences j i 0 j.length 1).isEmpty)) H
def rInAll (K : Frag) : R2 := fun x y H Q => rInD K x y H Q ∨ (rInTD K false x y H Q ∨ rInSS x y H Q)
def rNInAll (K : Frag) : R2 := fun x y H Q => rNotInD K x y H Q ∨ rInTD K true x y H Q
theorem roomT {A : Around} {d : PyData} {ds : List PyData} (sd : SeqAt.shaped d = true) (hu : A.units + 65 < cLine) : A.units + 1 + min (PyData.depthAll ds) d.depth < cLine := by
  have h1 := SeqAt.depth_of_shaped sd
  have h2 : min (PyData.depthAll ds) d.depth ≤ d.depth := Nat.min_le_right _ _
  omega
section
variable {X : Cx}
theorem op_inT (hu : X.A.units + 65 < cLine) : OpR X (compareOp .In) (rInTD X.K false) := by
  intro pins s σ H x
      y v u Q I rx ry h
  obtain ⟨d, ds, hd,
      he, sd, se, q⟩ := h
  obtain ⟨_, r1⟩ := Dp.reads I d x v hd rx
  obtain ⟨_, r2⟩ := Dp.reads I (.tuple ds) y u he ry
  exact SeqAt.in_tuple_reads r2 r1 (SeqAt.canLay_of_shaped se) (SeqAt.canLay_of_shaped sd) (roomT sd hu) ⟨.bl _, H, I, rfl, by rw [Bool.false_xor] at q; exact q⟩
theorem op_ninT (hu : X.A.units + 65 < cLine) : OpR X (compareOp .NotIn) (rInTD X.K true) := by
  intro pins s σ H x
      y v u Q I rx ry h
  obtain ⟨d, ds, hd,
      he, sd, se, q⟩ := h
  obtain ⟨_, r1⟩ := Dp.reads I d x v hd rx
  obtain ⟨_, r2⟩ := Dp.reads I (.tuple ds) y u he ry
  exact SeqAt.notIn_tuple_reads r2 r1 (SeqAt.canLay_of_shaped se) (SeqAt.canLay_of_shaped sd) (roomT sd hu) ⟨.bl _, H, I, rfl, by rw [Bool.true_xor] at q; exact q⟩
theorem hu65 {k : Nat} (hr : Room k X.A) : X.A.units + 65 < cLine := by have := hr.un; omega
theorem opr_in {k : Nat} (hr : Room k X.A) : OpR X (compareOp .In) (rInAll X.K) := (op_inD (hu65 hr)).or ((op_inT (hu65 hr)).or op_in_str)
theorem opr_nin {k : Nat} (hr : Room k X.A) : OpR X (compareOp .NotIn) (rNInAll X.K) := (op_notInD (hu65 hr)).or (op_ninT (hu65 hr))
theorem opr_eq {k : Nat} (hr : Room k X.A) : OpR X (compareOp .Eq) (rEqD X.K) := op_eqD hr.units
theorem opr_ne {k : Nat} (hr : Room k X.A) : OpR X (compareOp .NotEq) (rNeD X.K) := op_neD hr.units
end
section
variable {K : Frag} {mg : Mg}
theorem Val.dpL {F H : Hp} {L : LM} {w : List Nat} {o : Bool} {xs : List PV} {v : V} {ds : List PyData} (s : Sub F H) (h : Val K mg F H L w (.lst o xs) v) (e : toDL xs = some ds) : Dp K H v (.list ds) :=
  Val.dp s w _ v _ h (by simp [toD, e])
theorem Val.dpT {F H : Hp} {L : LM} {w : List Nat} {xs : List PV} {v : V} {ds : List PyData} (s : Sub F H) (h : Val K mg F H L w (.tup xs) v) (e : toDL xs = some ds) : Dp K H v (.tuple ds) :=
  Val.dp s w _ v _ h (by simp [toD, e])
theorem ops_in : OpS K mg (rInAll K) pyIn := by
  intro D W F H Ls σ ρ Q tmp p q x y L1 L2 S V1 V2 o
  unfold pyIn pyInB at o
  split at o
  · split at o
    · rename_i d ds hd he
      split at o
      · rename_i hc
        rw [Bool.and_eq_true] at hc
        exact .inl ⟨d, ds, Val.dp S.sub _ p x d V1 hd, V2.dpL S.sub he, hc.1, hc.2, OutE.pure (v := .bl _) o S (by simp [Fz])⟩
      · exact o.elim
    · exact o.elim
  · split at o
    · rename_i d ds hd he
      split at o
      · rename_i hc
        rw [Bool.and_eq_true] at hc
        exact .inr (.inl ⟨d, ds, Val.dp S.sub _ p x d V1 hd, V2.dpT S.sub he, hc.1, hc.2, by rw [Bool.false_xor]; exact OutE.pure (v := .bl _) o S (by simp [Fz])⟩)
      · exact o.elim
    · exact o.elim
  · split at o
    · simp only [Val] at V1 V2
      exact .inr (.inr ⟨_, _, V1, V2, OutE.pure (v := .bl _) o S (by simp [Fz])⟩)
    · exact o.elim
  · exact o.elim
def pyNotIn' (p : PV) : PV → R PV
  | .str _ => .error .stuck
  | q => pyNotIn p q
theorem ops_nin : OpS K mg (rNInAll K) pyNotIn' := by
  intro D W F H Ls σ ρ Q tmp p q x y L1 L2 S V1 V2 o
  unfold pyNotIn' at o
  split at o
  · exact o.elim
  · rename_i hns
    unfold pyNotIn pyInB at o
    split at o
    · split at o
      · rename_i d ds hd he
        split at o
        · rename_i hc
          rw [Bool.and_eq_true] at hc
          exact .inl ⟨d, ds, Val.dp S.sub _ p x d V1 hd, V2.dpL S.sub he, hc.1, hc.2, OutE.pure (v := .bl _) o S (by simp [Fz])⟩
        · exact o.elim
      · exact o.elim
    · split at o
      · rename_i d ds hd he
        split at o
        · rename_i hc
          rw [Bool.and_eq_true] at hc
          exact .inr ⟨d, ds, Val.dp S.sub _ p x d V1 hd, V2.dpT S.sub he, hc.1, hc.2, by rw [Bool.true_xor]; exact OutE.pure (v := .bl _) o S (by simp [Fz])⟩
        · exact o.elim
      · exact o.elim
    · rename_i z
      exact absurd rfl (hns z)
    · exact o.elim
theorem ops_ix : OpS K mg (rIx K) pyIx := by
  intro D W F H Ls σ ρ Q tmp p q x y L1 L2 S V1 V2 o
  have at_get : ∀ {α : Type} {xs : List α} {i : Int} {x : α}, atI xs i = some x → ∃ j, ixN xs.length i = some j ∧ xs[j]? = some x := fun {α xs i x} h => by
    unfold atI at h
    rw [Option.bind_eq_some_iff] at h
    exact h
  unfold pyIx at o
  split at o
  · split at o
    · rename_i x hx
      split at o
      · rename_i hf
        obtain ⟨a, vs, e1, r1, h1⟩ := V1.list S.sub
        simp only [Val] at V2
        obtain ⟨j, hj, hxj⟩ := at_get hx
        obtain ⟨v, hv, hV⟩ := h1.get hxj
        refine .inl ⟨a, vs, _, v, e1, V2, .inl r1, ?_, OutE.pure o S (hV.fzz _ _ _ hf)⟩
        unfold atI
        rw [← h1.length, hj]
        exact hv
      · exact o.elim
    · exact o.elim
  · split at o
    · rename_i x hx
      obtain ⟨a, vs, e1, r1, h1⟩ := V1.tuple S.sub
      simp only [Val] at V2
      obtain ⟨j, hj, hxj⟩ := at_get hx
      obtain ⟨v, hv, hV⟩ := h1.get hxj
      refine .inr (.inl ⟨a, vs, _, v, e1, V2, S.sub.seqT r1, ?_, OutE.pure o S hV⟩)
      unfold atI
      rw [← h1.length, hj]
      exact hv
    · exact o.elim
  · split at o
    · rename_i x hx
      simp only [Val] at V1 V2
      obtain ⟨a, vs, e1, r1, h1⟩ := V1
      obtain ⟨j, hj, hxj⟩ := at_get hx
      obtain ⟨v, hv, hV⟩ := h1.get hxj
      refine .inl ⟨a, vs, _, v, e1, V2, S.sub.seqLL r1, ?_, OutE.pure o S hV⟩
      unfold atI
      rw [← h1.length, hj]
      exact hv
    · exact o.elim
  · split at o
    · rename_i hz
      split at o
      · rename_i c hc
        simp only [Val] at V1 V2
        exact .inr (.inr ⟨_, _, c, V1, V2, hz, hc, OutE.pure o S (by simp [Fz])⟩)
      · exact o.elim
    · exact o.elim
  · exact o.elim
end

/-! ### x[i] -/
section
variable {X : Cx} {D : DX} {W : WX} {pos : Pos} {a b : Expr} {ma mb : ME} {tmp t1 t2 : Bool}
theorem de_ix (ha : DE' t1 X D W a ma) (hb : DE' t2 X D W b mb) (hp : PlainIx b := by exact fun _ _ => rfl) : DE' tmp X D W (.Subscript a b pos) (eBin pyIx ma mb) := by
  obtain ⟨ta, pa, h1⟩ := ha
  obtain ⟨tb, pb, h2⟩ := hb
  exact ⟨_, pe_ix ix_seq pa pb hp, fun F H Ls σ ρ Q S o => bin_spec ops_ix h1 h2 S o⟩
theorem de_ixN {i : Nat} {x : Str} {px : Pos} (hx : Sl X i x) (hb : DE' t2 X D W b mb) (hp : PlainIx b := by exact fun _ _ => rfl) : DE' tmp X D W (.Subscript (.Name x px) b pos) (eBinN pyIx i mb) := by
  obtain ⟨tb, pb, h2⟩ := hb
  exact ⟨_, pe_ix ix_seq (pe_var hx.1 hx.2.1 hx.2.2.1 hx.2.2.2) pb hp, fun F H Ls σ ρ Q S o => binN_spec ops_ix h2 S o⟩
end

/-! ### tests -/
def pyTru : PV → R Bool
  | .non => .ok false
  | .bl b => .ok b
  | .int i => .ok (i != 0)
  | .str x => if x.length ≤ sizeLine then .ok ((x.length : Int) != 0) else .error .stuck
  | .lst _ xs => .ok (!xs.isEmpty)
  | .tup xs => .ok (!xs.isEmpty)
  | _ => .error .stuck
def tTru (m : ME) : MT := fun ρ => m ρ >>= fun a => pyTru a.1 >>= fun k => .ok (k, a.2)
def tNt (m : MT) : MT := fun ρ => m ρ >>= fun a => .ok (!a.1, a.2)
def tAn (m n : MT) : MT := fun ρ => m ρ >>= fun a => if a.1 = true then n a.2 else .ok (false, a.2)
def tO (m n : MT) : MT := fun ρ => m ρ >>= fun a => if a.1 = true then .ok (true, a.2) else n a.2
/-- a test whatever stands around it -/
def DW (X : Cx) (D : DX) (W : WX) (e : Expr) (m : MT) : Prop :=
  ∃ t, PW X e t ∧ ∀ F H Ls σ ρ Q, SA X.K X.mg D F H Ls σ ρ → OutT X.K X.mg D W F H Ls σ Q (m ρ) → t σ H Q
section
variable {X : Cx} {D : DX} {W : WX} {pos : Pos} {a b c e : Expr} {m ma mb : ME} {mt nt : MT} {tmp t1 t2 : Bool} {rest : List Expr}
theorem isEmptyP {K : Frag} {mg : Mg} {F : Hp} {xs : List PV} {vs : List V} (h : xs.length = vs.length) : (!xs.isEmpty) = !vs.isEmpty := by
  cases xs <;> cases vs <;> simp_all
theorem dt_tru (h : DE' t1 X D W e m) (he : ∀ whole, isTrue e X.env whole = (do let v ← whole; standAt e.pos; holding [v] (truthy v)) := by intro _; rfl) : DT X D W e (tTru m) := by
  obtain ⟨t, hp, hs⟩ := h
  refine ⟨_, pt_truth hp he, fun F H Ls σ ρ Q S o => hs F H Ls σ ρ _ S (eT o fun p ρ1 F1 H1 Ls1 L1 x S1 e1 V1 _ o1 => ?_)⟩
  dsimp only at o1
  unfold pyTru at o1
  split at o1
  · simp only [Val] at V1; subst V1; exact ⟨_, rfl, o1 F1 H1 Ls1 S1 Ev.refl⟩
  · simp only [Val] at V1; subst V1; exact ⟨_, rfl, o1 F1 H1 Ls1 S1 Ev.refl⟩
  · simp only [Val] at V1; subst V1; exact ⟨_, rfl, o1 F1 H1 Ls1 S1 Ev.refl⟩
  · simp only [Val] at V1
    subst V1
    split at o1
    · rename_i hz
      exact ⟨_, ⟨hz, rfl⟩, o1 F1 H1 Ls1 S1 Ev.refl⟩
    · exact o1.elim
  · obtain ⟨a, vs, rfl, r1, h1⟩ := V1.list S1.sub
    exact ⟨_, .inl ⟨vs, .inl r1, isEmptyP (K := X.K) (mg := X.mg) (F := F) h1.length⟩, o1 F1 H1 Ls1 S1 Ev.refl⟩
  · obtain ⟨a, vs, rfl, r1, h1⟩ := V1.tuple S1.sub
    exact ⟨_, .inr (.inl ⟨vs, S1.sub.seqT r1, isEmptyP (K := X.K) (mg := X.mg) (F := F) h1.length⟩), o1 F1 H1 Ls1 S1 Ev.refl⟩
  · exact o1.elim
theorem dt_not (h : DT X D W e mt) : DT X D W (.UnaryOp .Not e pos) (tNt mt) := by
  obtain ⟨t, hp, hs⟩ := h
  exact ⟨_, pt_not hp, fun F H Ls σ ρ Q S o => hs F H Ls σ ρ _ S (tT o fun p ρ1 F1 H1 Ls1 S1 e1 o1 => o1 F1 H1 Ls1 S1 Ev.refl)⟩
theorem DW.dt (h : DW X D W e mt) : DT X D W e mt := by
  obtain ⟨t, hp, hs⟩ := h
  exact ⟨t, hp.pt, hs⟩
theorem dw_and1 (h : DT X D W a mt) : DW X D W (.BoolOp .And [a] pos) mt := by
  obtain ⟨t, hp, hs⟩ := h
  exact ⟨t, pw_and1 hp, hs⟩
theorem dw_or1 (h : DT X D W a mt) : DW X D W (.BoolOp .Or [a] pos) mt := by
  obtain ⟨t, hp, hs⟩ := h
  exact ⟨t, pw_or1 hp, hs⟩
theorem dw_and (h : DT X D W a mt) (h' : DW X D W (.BoolOp .And (b :: rest) pos) nt) : DW X D W (.BoolOp .And (a :: b :: rest) pos) (tAn mt nt) := by
  obtain ⟨t, hp, hs⟩ := h
  obtain ⟨t', hp', hs'⟩ := h'
  refine ⟨_, pw_and hp hp', fun F H Ls σ ρ Q S o => hs F H Ls σ ρ _ S (tT o fun p ρ1 F1 H1 Ls1 S1 e1 o1 => ?_)⟩
  cases p with
  | true => exact iteT (hs' F1 H1 Ls1 σ ρ1 Q S1 o1)
  | false => exact iteF (o1 F1 H1 Ls1 S1 Ev.refl)
theorem dw_or (h : DT X D W a mt) (h' : DW X D W (.BoolOp .Or (b :: rest) pos) nt) : DW X D W (.BoolOp .Or (a :: b :: rest) pos) (tO mt nt) := by
  obtain ⟨t, hp, hs⟩ := h
  obtain ⟨t', hp', hs'⟩ := h'
  refine ⟨_, pw_or hp hp', fun F H Ls σ ρ Q S o => hs F H Ls σ ρ _ S (tT o fun p ρ1 F1 H1 Ls1 S1 e1 o1 => ?_)⟩
  cases p with
  | true => exact iteT (o1 F1 H1 Ls1 S1 Ev.refl)
  | false => exact iteF (hs' F1 H1 Ls1 σ ρ1 Q S1 o1)
/-- .. as values -/
def eAnd (m n : ME) : ME := fun ρ => m ρ >>= fun a => match a.1 with
  | .bl true => n a.2
  | .bl false => .ok (.bl false, a.2)
  | _ => .error .stuck
def eOr (m n : ME) : ME := fun ρ => m ρ >>= fun a => match a.1 with
  | .bl true => .ok (.bl true, a.2)
  | .bl false => n a.2
  | _ => .error .stuck
def eNot (m : ME) : ME := fun ρ => m ρ >>= fun a => match a.1 with
  | .bl k => .ok (.bl (!k), a.2)
  | _ => .error .stuck
def eIf (t : MT) (m n : ME) : ME := fun ρ => t ρ >>= fun a => if a.1 = true then m a.2 else n a.2
theorem de_one {op} (h : DE' tmp X D W a ma) : DE' tmp X D W (.BoolOp op [a] pos) ma := by
  obtain ⟨t, hp, hs⟩ := h
  exact ⟨t, pe_one hp, hs⟩
theorem de_and (h : DE' t1 X D W a ma) (h' : DE' tmp X D W (.BoolOp .And (b :: rest) pos) mb) : DE' tmp X D W (.BoolOp .And (a :: b :: rest) pos) (eAnd ma mb) := by
  obtain ⟨t, hp, hs⟩ := h
  obtain ⟨t', hp', hs'⟩ := h'
  refine ⟨_, pe_and hp hp', fun F H Ls σ ρ Q S o => hs F H Ls σ ρ _ S (eE o fun p ρ1 F1 H1 Ls1 L1 x S1 e1 V1 _ o1 => ?_)⟩
  dsimp only at o1
  split at o1
  · simp only [Val] at V1
    exact ⟨true, V1, iteT (hs' F1 H1 Ls1 σ ρ1 Q S1 o1)⟩
  · simp only [Val] at V1
    exact ⟨false, V1, iteF (OutE.pure o1 S1 (by simp [Fz]))⟩
  · exact o1.elim
theorem de_or (h : DE' t1 X D W a ma) (h' : DE' tmp X D W (.BoolOp .Or (b :: rest) pos) mb) : DE' tmp X D W (.BoolOp .Or (a :: b :: rest) pos) (eOr ma mb) := by
  obtain ⟨t, hp, hs⟩ := h
  obtain ⟨t', hp', hs'⟩ := h'
  refine ⟨_, pe_or hp hp', fun F H Ls σ ρ Q S o => hs F H Ls σ ρ _ S (eE o fun p ρ1 F1 H1 Ls1 L1 x S1 e1 V1 _ o1 => ?_)⟩
  dsimp only at o1
  split at o1
  · simp only [Val] at V1
    exact ⟨true, V1, iteT (OutE.pure o1 S1 (by simp [Fz]))⟩
  · simp only [Val] at V1
    exact ⟨false, V1, iteF (hs' F1 H1 Ls1 σ ρ1 Q S1 o1)⟩
  · exact o1.elim
theorem de_not (h : DE' t1 X D W a ma) : DE' tmp X D W (.UnaryOp .Not a pos) (eNot ma) := by
  obtain ⟨t, hp, hs⟩ := h
  refine ⟨_, pe_not hp, fun F H Ls σ ρ Q S o => hs F H Ls σ ρ _ S (eE o fun p ρ1 F1 H1 Ls1 L1 x S1 e1 V1 _ o1 => ?_)⟩
  dsimp only at o1
  split at o1
  · simp only [Val] at V1
    exact ⟨_, V1, OutE.pure o1 S1 (by simp [Fz])⟩
  · exact o1.elim
theorem de_if (h : DT X D W c mt) (ha : DE' tmp X D W a ma) (hb : DE' tmp X D W b mb) : DE' tmp X D W (.IfExp c a b pos) (eIf mt ma mb) := by
  obtain ⟨t, hp, hs⟩ := h
  obtain ⟨ta, pa, h1⟩ := ha
  obtain ⟨tb, pb, h2⟩ := hb
  refine ⟨_, pe_ifExp hp pa pb, fun F H Ls σ ρ Q S o => hs F H Ls σ ρ _ S (tE o fun p ρ1 F1 H1 Ls1 S1 e1 o1 => ?_)⟩
  cases p with
  | true => exact iteT (h1 F1 H1 Ls1 σ ρ1 Q S1 o1)
  | false => exact iteF (h2 F1 H1 Ls1 σ ρ1 Q S1 o1)
def pyNeg : PV → R PV
  | .int i => .ok (.int (-i))
  | _ => .error .stuck
def eNeg (m : ME) : ME := fun ρ => m ρ >>= fun a => pyNeg a.1 >>= fun z => .ok (z, a.2)
theorem de_neg (h : DE' t1 X D W a ma) : DE' tmp X D W (.UnaryOp .USub a pos) (eNeg ma) := by
  obtain ⟨t, hp, hs⟩ := h
  refine ⟨_, pe_un un_neg hp, fun F H Ls σ ρ Q S o => hs F H Ls σ ρ _ S (eE o fun p ρ1 F1 H1 Ls1 L1 x S1 e1 V1 _ o1 => ?_)⟩
  dsimp only at o1
  unfold pyNeg at o1
  split at o1
  · simp only [Val] at V1
    exact ⟨_, V1, OutE.pure o1 S1 (by simp [Fz])⟩
  · exact o1.elim
end

/-! ### arguments, displays -/
section
variable {K : Frag} {mg : Mg} {D : DX} {F H H₀ : Hp} {Ls : Lb} {σ : St} {ρ : Rho} {L : LM}
/-- a new value is frozen -/
theorem SA.takeT (S : SA K mg D F H Ls σ ρ) (t : Tmp F H Ls L H₀) : SA K mg D (take F H L) H Ls σ ρ where
  sub := take_in S.sub
  len := S.len
  slot := fun i p e => by
    obtain ⟨v, e1, h⟩ := S.slot i p e
    exact ⟨v, e1, h.frame (take_sub fun a q => (t a q).2.1) [] p v fun _ _ => rfl⟩
  own := fun i a h => by
    refine ⟨?_, (S.own i a h).2⟩
    unfold take
    rw [if_neg fun z => by rw [(t a z).2.2.1 i] at h; cases h]
    exact (S.own i a h).1
  dis := S.dis
  io := S.io
  fob := fun b u h => by
    unfold take at h
    by_cases z : (L b).isSome = true
    · rw [if_pos z] at h
      obtain ⟨w, q, n⟩ := (t b z).2.2.2
      rw [q] at h; cases h; exact n
    · rw [if_neg z] at h; exact S.fob b u h
  tab := S.tab
theorem Tmp.sub (t : Tmp F H Ls L H₀) : Sub F (take F H L) := take_sub fun a q => (t a q).2.1
theorem Ev.takeT {F₀ : Hp} {Ls₀ : Lb} (e : Ev F₀ H₀ Ls₀ F H Ls) (t : Tmp F H Ls L H₀) : Ev F₀ H₀ Ls₀ (take F H L) H Ls where
  mono := e.mono.trans t.sub
  frame := e.frame
  obs := e.obs
  tabs := e.tabs
  fnew := fun b h => by
    unfold take at h
    by_cases q : (L b).isSome = true
    · exact .inr (.inr (t b q).1)
    · rw [if_neg q] at h; exact e.fnew b h
  lnew := e.lnew
end
def aNil : MA := fun ρ => .ok ([], ρ)
def aCons (m : ME) (n : MA) : MA := fun ρ => m ρ >>= fun a => n a.2 >>= fun b => .ok (frz a.1 :: b.1, b.2)
def eTup (m : MA) : ME := fun ρ => m ρ >>= fun a => if a.1.length ≤ sizeLine then .ok (.tup a.1, a.2) else .error .stuck
def eLst (m : MA) : ME := fun ρ => m ρ >>= fun a => if a.1.length ≤ sizeLine then .ok (.lst true a.1, a.2) else .error .stuck
/-- what comes is frozen; the wish as it stood ahead -/
theorem seqF {K : Frag} {mg : Mg} {D : DX} {W : WX} {F H : Hp} {Ls : Lb} {σ : St} {ρ : Rho} {Q1 : VK} {α : Type} {ma : ME} {k : PV × Rho → R α} (Out : Hp → Hp → Lb → R α → Prop)
    (hx : ∀ c f pl, Out F H Ls (.error (.exc c f pl)) → OutX K mg W σ F H Ls c f pl) (hst : ∀ F1 H1 Ls1 r, Ev F H Ls F1 H1 Ls1 → Out F H Ls r → Out F1 H1 Ls1 r) (hs : ∀ F1 H1 Ls1, Out F1 H1 Ls1 (.error .stuck) → False)
    (h : Out F H Ls (ma ρ >>= k)) (hk : ∀ p ρ1 F1 H1 Ls1 x, SA K mg D F1 H1 Ls1 σ ρ1 → Ev F H Ls F1 H1 Ls1 → Fz K mg F1 (frz p) x → Out F1 H1 Ls1 (k (p, ρ1)) → Q1 x H1) :
    OutE K mg D W F H Ls σ Q1 true (ma ρ) := by
  revert h
  rcases ma ρ with (⟨c, f, pl⟩ | _) | ⟨p, ρ1⟩
  · exact fun h => hx _ _ _ h
  · exact fun h => hs _ _ _ h
  · intro h F1 H1 Ls1 L1 x S1 e1 V1 t1
    have T := t1 rfl
    have e2 := e1.takeT T
    exact hk p ρ1 _ H1 Ls1 x (S1.takeT T) e2 (V1.freeze T.sub [] p x) (hst _ _ _ _ e2 h)
section
variable {K : Frag} {mg : Mg} {D : DX} {W : WX} {F H : Hp} {Ls : Lb} {σ : St} {ρ : Rho} {Q1 : VK} {ma : ME}
theorem fE {tmp : Bool} {Q : VK} {k : PV × Rho → R (PV × Rho)} (h : OutE K mg D W F H Ls σ Q tmp (ma ρ >>= k))
    (hk : ∀ p ρ1 F1 H1 Ls1 x, SA K mg D F1 H1 Ls1 σ ρ1 → Ev F H Ls F1 H1 Ls1 → Fz K mg F1 (frz p) x → OutE K mg D W F1 H1 Ls1 σ Q tmp (k (p, ρ1)) → Q1 x H1) : OutE K mg D W F H Ls σ Q1 true (ma ρ) :=
  seqF (fun F H Ls r => OutE K mg D W F H Ls σ Q tmp r) (fun _ _ _ h => h) (fun _ _ _ _ e h => h.step e) (fun _ _ _ h => h) h hk
theorem fA {Q : List V → Hp → Prop} {k : PV × Rho → R (List PV × Rho)} (h : OutA K mg D W F H Ls σ Q (ma ρ >>= k))
    (hk : ∀ p ρ1 F1 H1 Ls1 x, SA K mg D F1 H1 Ls1 σ ρ1 → Ev F H Ls F1 H1 Ls1 → Fz K mg F1 (frz p) x → OutA K mg D W F1 H1 Ls1 σ Q (k (p, ρ1)) → Q1 x H1) : OutE K mg D W F H Ls σ Q1 true (ma ρ) :=
  seqF (fun F H Ls r => OutA K mg D W F H Ls σ Q r) (fun _ _ _ h => h) (fun _ _ _ _ e h => h.step e) (fun _ _ _ h => h) h hk
theorem fS {N : Ends} {k : PV × Rho → R (Fl × Rho)} (h : OutS K mg D W F H Ls N (ma ρ >>= k))
    (hk : ∀ p ρ1 F1 H1 Ls1 x, SA K mg D F1 H1 Ls1 σ ρ1 → Ev F H Ls F1 H1 Ls1 → Fz K mg F1 (frz p) x → OutS K mg D W F1 H1 Ls1 N (k (p, ρ1)) → Q1 x H1) : OutE K mg D W F H Ls σ Q1 true (ma ρ) :=
  seqF (fun F H Ls r => OutS K mg D W F H Ls N r) (fun _ _ _ h => h σ) (fun _ _ _ _ e h => h.step e) (fun _ _ _ h => h) h hk
end
section
variable {X : Cx} {D : DX} {W : WX} {pos : Pos} {e : Expr} {es : List Expr} {m : ME} {n : MA} {tmp : Bool}
theorem da_nil : DA X D W [] aNil := ⟨_, pa_nil, fun F H Ls σ ρ Q S o => o F H Ls [] S Ev.refl (by simp [FzL])⟩
theorem da_cons (h : DM X D W e m) (hn : DA X D W es n) (hs : starEach (e :: es) X.env = (false, eval e X.env) :: starEach es X.env := by rfl) : DA X D W (e :: es) (aCons m n) := by
  obtain ⟨t, hp, h1⟩ := h
  obtain ⟨u, hu, h2⟩ := hn
  refine ⟨_, pa_cons hp hu hs, fun F H Ls σ ρ Q S o => h1 F H Ls σ ρ _ S (fA o fun p ρ1 F1 H1 Ls1 x S1 e1 V1 o1 => ?_)⟩
  refine h2 F1 H1 Ls1 σ ρ1 _ S1 (aA o1 fun ps ρ2 F2 H2 Ls2 vs S2 e2 V2 o2 => ?_)
  exact o2 F2 H2 Ls2 (x :: vs) S2 Ev.refl (by simp only [FzL]; exact ⟨x, vs, rfl, V1.mono e2.mono _ _, V2⟩)
theorem de_tup {k} (h : DA X D W es n) : DE' tmp X D W (.Tuple es k pos) (eTup n) := by
  obtain ⟨u, hu, h2⟩ := h
  refine ⟨_, pe_tup hu, fun F H Ls σ ρ Q S o => h2 F H Ls σ ρ _ S (aE o fun ps ρ1 F1 H1 Ls1 vs S1 e1 V1 o1 => ?_)⟩
  dsimp only at o1
  split at o1
  · rename_i hz
    exact ⟨by rw [← V1.length]; exact hz, newT S1 V1 o1⟩
  · exact o1.elim
theorem de_lst (h : DA X D W es n) : DE' tmp X D W (.List es pos) (eLst n) := by
  obtain ⟨u, hu, h2⟩ := h
  refine ⟨_, pe_lst hu, fun F H Ls σ ρ Q S o => h2 F H Ls σ ρ _ S (aE o fun ps ρ1 F1 H1 Ls1 vs S1 e1 V1 o1 => ?_)⟩
  dsimp only at o1
  split at o1
  · rename_i hz
    exact ⟨by rw [← V1.length]; exact hz, newL S1 V1 o1⟩
  · exact o1.elim
end
end PX
set_option Elab.async false
set_option linter.all false
set_option maxRecDepth 100000
set_option maxHeartbeats 3900000
namespace PX
open PySem L2
variable [HasT]

/-! ### zip and enumerate over lists and tuples in any mix -/
/-- k: a tuple, else a list -/
def SrcV (K : Frag) (H : Hp) (k : Bool) (a : Addr) (xs : List V) : Prop := if k = true then SqT K H a xs else SqL K H a xs
def srcIt (k : Bool) (h : Heap) (it a : Addr) (i : Nat) : Prop := if k = true then h.IsTupleIter it a i else h.IsListIter it a i
def srcIs (k : Bool) (h : Heap) (a : Addr) (its : Array Value) : Prop := if k = true then h.IsTuple a its else h.IsList a its
def srcOb (k : Bool) (a : Addr) : Obj := { cls := .type (if k = true then "tuple_iterator" else "list_iterator"), data := .fields #[.ref a, .int 0 0] }
theorem srcB (k : Bool) (a : Addr) (its : Array Value) : Begins (.ref a) (srcOb k a) fun h => srcIs k h a its := by
  cases k with
  | true => exact begins_tuple a its
  | false => exact begins_list a its
theorem srcD {P : Program} {w : World} {A : Around} (hh : A.handled = none) (k : Bool) (it a : Addr) (hne : a ≠ it) (its : Array Value) :
    Draws P w A it [it, a] its.size (fun i v => its[i]? = some v) (fun i h => srcIt k h it a i ∧ srcIs k h a its) := by
  cases k with
  | true => exact Draws.tuple hh it a hne its
  | false => exact Draws.list hh it a hne its
theorem srcI {X : Cx} {pins : List (Addr × Obj)} {σ : St} {H : Hp} {s : Shared} {k : Bool} {a : Addr} {xs : List V} (I : Inv X pins σ H s) (h : SrcV X.K H k a xs) :
    ∃ its : List Value, Vals xs its ∧ srcIs k s.heap a its.toArray ∧ a < s.heap.objs.size := by
  cases k with
  | true =>
    obtain ⟨its, r, p, _⟩ := I.tuple h
    exact ⟨its, r, p, p.lt⟩
  | false =>
    obtain ⟨its, r, p, _⟩ := I.list h
    exact ⟨its, r, p.isList, p.lt⟩
theorem srcInj {X : Cx} {pins : List (Addr × Obj)} {σ : St} {H : Hp} {s : Shared} {k : Bool} {a : Addr} {xs ys : List V} (I : Inv X pins σ H s) (h : SrcV X.K H k a xs) (h' : SrcV X.K H k a ys) : xs = ys := by
  cases k with
  | true => exact I.tuple_inj h h'
  | false => exact I.list_inj h h'
theorem srcIt_get {k : Bool} {h : Heap} {it a : Addr} {i : Nat} (x : srcIt k h it a i) : ∃ o, h.get? it = some o ∧ ∀ v, o.data ≠ .cell v := by
  cases k with
  | true =>
    obtain ⟨o, e, _, d⟩ := x
    exact ⟨o, e, fun v q => by rw [d] at q; cases q⟩
  | false =>
    obtain ⟨o, e, _, d⟩ := x
    exact ⟨o, e, fun v q => by rw [d] at q; cases q⟩
theorem srcIt_at {k : Bool} {h h' : Heap} {it a : Addr} {i : Nat} (x : srcIt k h it a i) (k' : ∀ o, h.get? it = some o → h'.get? it = some o) : srcIt k h' it a i := by
  cases k with
  | true => exact Heap.IsTupleIter.at x k'
  | false => exact Heap.IsListIter.at x k'
theorem srcIt_new {k : Bool} {h : Heap} {it a : Addr} (x : h.get? it = some (srcOb k a)) : srcIt k h it a 0 := by
  cases k with
  | true => exact ⟨_, x, rfl, rfl⟩
  | false => exact ⟨_, x, rfl, rfl⟩

/-- a turn by the library's iterators of tuples -/
theorem turnW {P : Program} {w : World} {K : Frag} {elts : List Expr} {kk : Nat} {tpos : Pos} {J : It} {own wr : List Addr} {it : Addr} {tn : Nat → Heap → Prop} (mem : it ∈ own) (obj : ∀ i h, tn i h → ∀ b ∈ own, ∃ o, h.get? b = some o ∧ ∀ v, o.data ≠ .cell v)
    (keep : ∀ i h h', tn i h → (∀ b ∈ own, ∀ o, h.get? b = some o → h'.get? b = some o) → tn i h') (hwr : ∀ b ∈ wr, b ∈ own)
    (step : ∀ (X : Cx), X.prog = P → X.w = w → X.K = K → X.calm = true → ∀ (i : Nat) (pins : List (Addr × Obj)) (s : Shared) (σ : St) (H : Hp), Inv X pins σ H s → tn i s.heap → J.go i H → ∃ (n : Nat) (Pt : Nat → Array Value → Prop) (Src : Heap → Prop) (Mid : Nat → Addr → Heap → Prop) (fp : List Addr), WalksT P w X.A it fp wr n Pt (fun i h => tn i h ∧ Src h) Mid ∧ Src s.heap ∧ i < n ∧
      ∀ (vals : Array Value) T, Pt i vals → H T = none → ∃ xs : List V, xs.length ≤ sizeLine ∧ Vals xs vals.toList ∧ J.yld i H (.ref T) (upd H T (.tup xs)))
    (stop : ∀ (X : Cx), X.prog = P → X.w = w → X.K = K → X.calm = true → ∀ (i : Nat) (pins : List (Addr × Obj)) (s : Shared) (σ : St) (H : Hp), Inv X pins σ H s → tn i s.heap → J.stop i H → ∃ (Pt : Nat → Array Value → Prop) (Src : Heap → Prop) (Mid : Nat → Addr → Heap → Prop) (fp : List Addr), WalksT P w X.A it fp wr i Pt (fun i h => tn i h ∧ Src h) Mid ∧ Src s.heap)
    (self : ∀ (A : Around) (i : Nat) (s : Shared) (Q : Value → Shared → Prop) (E : Value → Shared → Prop), tn i s.heap → Q (.ref it) s → wpAny (model P w) A (pyIter (.ref it)) Q E s) : Turn P w K (.Tuple elts kk tpos) J own it tn where
  mem := mem
  obj := obj
  keep := keep
  item := by
    intro X hP hw hK hc i
        pins s σ H E I hf st hg
    obtain ⟨n, Pt, Src, Mid, fp, W, hs, hi, hy⟩ := step X hP hw hK hc i pins s σ H I st hg
    subst hP hw hK
    refine W.item i s _ _ hi ⟨st, hs⟩ fun T vals h' tk hP hT ht hm hk => ⟨.ref T, rfl, ?_⟩
    have hn : H T = none
        := I.hok.fresh hT
    obtain ⟨xs, hz, rv, y⟩ := hy vals T hP hn
    refine W.go elts kk tpos i T { s with heap := h', toks := tk } _ _ hm fun h2 st2 hk2 => ?_
    have nT : T ∉ wr := W.apart i T h' hm
    have new : ObjOk X.prog X.w (upd H T (.tup xs)) h2 T (.tup xs) := ⟨hz, vals.toList, rv, by
      obtain ⟨o, e, c⟩ := ht
      exact ⟨o, hk2 T o nT e, c⟩⟩
    have I1 : Inv X pins σ (upd H T (.tup xs)) { s with heap := h2, toks := tk } := I.turnedNew (ch := wr) (fun b ob hb q => hk2 b ob hb (hk b ob hb q)) (fun b hb => hf b (hwr b hb)) hT new
    refine ⟨.ref T, _, I1, rfl, y, st2.1, fun b hb => ?_⟩
    obtain ⟨o, e, _⟩ := obj i s.heap st b hb
    rw [upd_ne (Nat.ne_of_lt (Nat.lt_of_lt_of_le (Heap.lt_size e) hT))]
    exact (hf b hb).1
  done := by
    intro X hP hw hK hc i
        pins s σ H E I hf st hg
    obtain ⟨Pt, Src, Mid, fp, W, hs⟩ := stop X hP hw hK hc i pins s σ H I st hg
    subst hP hw hK
    exact W.done s _ _ ⟨st, hs⟩ fun h' tk hk => ⟨rfl, I.turnedL (ch := wr) hk fun b hb => hf b (hwr b hb)⟩
  self := self

/-- another state of the same walk -/
theorem walksT_st {P : Program} {w : World} {A : Around} {it : Addr} {fp wr : List Addr} {n : Nat} {Pt : Nat → Array Value → Prop} {St St' : Nat → Heap → Prop} {Mid : Nat → Addr → Heap → Prop} (W : WalksT P w A it fp wr n Pt St Mid) (h : ∀ i h, St i h ↔ St' i h) : WalksT P w A it fp wr n Pt St' Mid := by
  have e : St = St' := funext fun i => funext fun h' => propext (h i h')
  subst e
  exact W

def Jz2 (K : Frag) (k1 k2 : Bool) (a b : Addr) : It :=
  ⟨fun i H => ∃ xs ys, SrcV K H k1 a xs ∧ SrcV K H k2 b ys ∧ i < min xs.length ys.length,
    fun i H v H' => ∃ T x y, v = .ref T ∧ H T = none ∧ H' = upd H T (.tup [x, y]) ∧ (∀ xs, SrcV K H k1 a xs → xs[i]? = some x) ∧ ∀ ys, SrcV K H k2 b ys → ys[i]? = some y,
    fun i H => ∃ xs ys, SrcV K H k1 a xs ∧ SrcV K H k2 b ys ∧ i = min xs.length ys.length⟩
def tnz2 (k1 k2 : Bool) (a b N : Addr) : Nat → Heap → Prop := fun i h => (IsZip h (N + 4) (N + 2) (N + 3) .none ∧ IsTupOf2 h (N + 2) (.ref N) (.ref (N + 1)) ∧ (∃ a1 a2, IsTupOf2 h (N + 3) a1 a2)) ∧ srcIt k1 h N a i ∧ srcIt k2 h (N + 1) b i
theorem walk_z2 {P : Program} {w : World} {A : Around} (hh : A.handled = none) (k1 k2 : Bool) {a b N : Addr} (la : a < N) (lb : b < N) (i1 i2 : Array Value) :
    ∃ Mid fp, WalksT P w A (N + 4) fp [N + 4, N + 3, N, N + 1] (min i1.size i2.size) (fun i vals => ∃ x1 x2, i1[i]? = some x1 ∧ i2[i]? = some x2 ∧ vals = #[x1, x2]) (fun i h => tnz2 k1 k2 a b N i h ∧ (srcIs k1 h a i1 ∧ srcIs k2 h b i2)) Mid := by
  have D1 := srcD (P := P) (w := w) (A := A.in1) hh k1 N a (Nat.ne_of_lt la) i1
  have D2 := srcD (P := P) (w := w) (A := A.in1) hh k2 (N + 1) b (Nat.ne_of_lt (Nat.lt_succ_of_lt lb)) i2
  have S := zip_sep2 (N := N) (fp1 := [a]) (fp2 := [b]) (by simpa using la) (by simpa using lb)
  refine ⟨_, _, walksT_st (WalksT.zipD2 S D1 D2) fun i h => ?_⟩
  unfold tnz2
  constructor
  · rintro ⟨h1, h2, h3, ⟨h4, h5⟩, h6, h7⟩; exact ⟨⟨⟨h1, h2, h3⟩, h4, h6⟩, h5, h7⟩
  · rintro ⟨⟨⟨h1, h2, h3⟩, h4, h6⟩, h5, h7⟩; exact ⟨h1, h2, h3, ⟨h4, h5⟩, h6, h7⟩
theorem turn_z2 {P : Program} {w : World} {K : Frag} {elts : List Expr} {kk : Nat} {tpos : Pos} {k1 k2 : Bool} {a b N : Addr} (la : a < N) (lb : b < N) :
    Turn P w K (.Tuple elts kk tpos) (Jz2 K k1 k2 a b) [N + 4, N + 2, N + 3, N, N + 1] (N + 4) (tnz2 k1 k2 a b N) := by
  refine turnW (wr := [N + 4, N + 3, N, N + 1]) (by simp) (fun i h st c hc => ?_) (fun i h h' st k => ?_) (fun c hc => ?_) (fun X hP hw hK hc i pins s σ H I st hg => ?_) (fun X hP hw hK hc i pins s σ H I st hg => ?_) (fun A i s Q E st h => wpAny_pyIter_zip st.1.1 h)
  · obtain ⟨⟨h1, h2, _, _, h3⟩, h4, h6⟩ := st
    have e' : c = N + 4 ∨ c = N + 2 ∨ c = N + 3 ∨ c = N ∨ c = N + 1 := by simpa using hc
    rcases e' with rfl | rfl | rfl | rfl | rfl
    · exact ⟨_, h1, fun v q => nomatch q⟩
    · exact ⟨_, h2, fun v q => nomatch q⟩
    · exact ⟨_, h3, fun v q => nomatch q⟩
    · exact srcIt_get h4
    · exact srcIt_get h6
  · obtain ⟨⟨h1, h2, a1, a2, h3⟩, h4, h6⟩ := st
    exact ⟨⟨k (N + 4) (by simp) _ h1, k (N + 2) (by simp) _ h2, a1, a2, k (N + 3) (by simp) _ h3⟩, srcIt_at h4 (k N (by simp)), srcIt_at h6 (k (N + 1) (by simp))⟩
  · have e' : c = N + 4 ∨ c = N + 3 ∨ c = N ∨ c = N + 1 := by simpa using hc
    rcases e' with rfl | rfl | rfl | rfl <;> simp
  · obtain ⟨xs, ys, hx, hy, hi⟩ := hg
    subst hK
    obtain ⟨i1, r1, p1, _⟩ := srcI I hx
    obtain ⟨i2, r2, p2, _⟩ := srcI I hy
    obtain ⟨Mid, fp, W⟩ := walk_z2 (P := P) (w := w) (I.ok.hd hc) k1 k2 la lb i1.toArray i2.toArray
    refine ⟨_, _, _, Mid, fp, W, ⟨p1, p2⟩, by simp only [List.size_toArray]; rw [← r1.length, ← r2.length]; exact hi, fun vals T hP hT => ?_⟩
    obtain ⟨x1, x2, e1, e2, rfl⟩ := hP
    have l1 : i < xs.length := by omega
    have l2 : i < ys.length := by omega
    obtain ⟨u1, q1, v1⟩ := r1.get (List.getElem?_eq_getElem l1)
    obtain ⟨u2, q2, v2⟩ := r2.get (List.getElem?_eq_getElem l2)
    have e1 : i1[i]? = some x1 := by simpa using e1
    have e2 : i2[i]? = some x2 := by simpa using e2
    rw [q1] at e1
    rw [q2] at e2
    cases e1
    cases e2
    refine ⟨[xs[i], ys[i]], by show 2 ≤ sizeLine; decide, .cons v1 (.cons v2 .nil), T, _, _, rfl, hT, rfl, fun zs hz => ?_, fun zs hz => ?_⟩
    · rw [srcInj I hz hx]; exact List.getElem?_eq_getElem l1
    · rw [srcInj I hz hy]; exact List.getElem?_eq_getElem l2
  · obtain ⟨xs, ys, hx, hy, hi⟩ := hg
    subst hK
    obtain ⟨i1, r1, p1, _⟩ := srcI I hx
    obtain ⟨i2, r2, p2, _⟩ := srcI I hy
    obtain ⟨Mid, fp, W⟩ := walk_z2 (P := P) (w := w) (I.ok.hd hc) k1 k2 la lb i1.toArray i2.toArray
    have e : min i1.toArray.size i2.toArray.size = i := by simp only [List.size_toArray]; rw [← r1.length, ← r2.length]; exact hi.symm
    rw [e] at W
    exact ⟨_, _, Mid, fp, W, p1, p2⟩
def iZip2 (K : Frag) (ta : TA) : TI := fun σ H R => ta σ H fun vs H1 => ∃ k1 k2 a b xs ys, vs = [.ref a, .ref b] ∧ SrcV K H1 k1 a xs ∧ SrcV K H1 k2 b ys ∧ R (Jz2 K k1 k2 a b) H1
theorem pi_zip2 {X : Cx} {e e2 : Expr} {ta : TA} {p pos tpos : Pos} {elts : List Expr} {kk : Nat} (hg : Gl X "zip") (hm : X.mg "zip" = none) (ha : PA X [e, e2] ta)
    (hs : starEach [e, e2] X.env = (false, eval e X.env) :: starEach [e2] X.env
        := by rfl) (hpl : (backTo pos (starEach [e2] X.env)).any (·.1) = false := by rfl) :
    PI X (.Tuple elts kk tpos) (.Call (.Name "zip" p) [e, e2] [] pos) (iZip2 X.K ta) := by
  refine ⟨fun pins s
      σ H R I h => ?_⟩
  refine PyProof.Rows.Call_ (ld_blt I hg hm PyProof.Rows.boot_zip (PyProof.Rows.callWith_type1 (thn (ha.run pos pins s σ H _ I h) fun us s1 ⟨vs, H1, I1, r1, q1⟩ => ?_) hs hpl))
  obtain ⟨k1, k2, a, b, xs, ys, ex, hqx, hqy, q⟩ := q1
  subst ex
  obtain ⟨u1, u2, rfl, ra, rb⟩ := r1.two
  cases ra
  cases rb
  obtain ⟨i1, _, p1, la⟩ := srcI I1 hqx
  obtain ⟨i2, _, p2, lb⟩ := srcI I1 hqy
  refine zip_begins2 (srcB k1 a i1.toArray) (srcB k2 b i2.toArray) p1 p2 fun h' hz hTI hTO h1 h2 hsz hk => wpAny_pyIter_zip hz ?_
  have I2 : Inv X pins σ H1 { s1 with heap
      := h' } := I1.kept (t' := s1.toks) hk
  refine ⟨s1.heap.objs.size + 4, _, _, _, H1, rfl, I2, turn_z2 la lb, ⟨⟨hz, hTI, _, _, hTO⟩, srcIt_new h1, srcIt_new h2⟩, fun c hcm => ?_, q⟩
  have hle :
      s1.heap.objs.size ≤ c := by
    have e' : c = s1.heap.objs.size + 4 ∨ c = s1.heap.objs.size + 2 ∨ c = s1.heap.objs.size
        + 3 ∨ c = s1.heap.objs.size ∨ c = s1.heap.objs.size + 1 := by simpa using hcm
    rcases e' with z | z | z | z | z <;> rw [z] <;> first | exact Nat.le_refl _ | exact Nat.le_add_right _ _
  exact I1.fpOk hle
      (I1.hok.fresh hle)

/-! ### enumerate -/
def Jen (K : Frag) (k : Bool) (a : Addr) : It :=
  ⟨fun i H => ∃ xs, SrcV K H k a xs ∧ i < xs.length,
    fun i H v H' => ∃ T x, v = .ref T ∧ H T = none ∧ H' = upd H T (.tup [.int (i : Nat), x]) ∧ ∀ xs, SrcV K H k a xs → xs[i]? = some x,
    fun i H => ∃ xs, SrcV K H k a xs ∧ i = xs.length⟩
end PX
set_option Elab.async false
set_option linter.all false
set_option maxRecDepth 100000
set_option maxHeartbeats 3900000
namespace PX
open PySem L2
variable [HasT]
theorem enumNew1 {v : Value} {o : Obj} {G : Heap → Prop} (B : Begins v o G) :
    Meets (Builtin.«enumerate.__new__» ⟨[.type "enumerate", v], []⟩) (fun _ R s => G s.heap ∧
      R (.ok (.ret (.ref (s.heap.push o).objs.size))) { s with heap := (s.heap.push o).push { cls := .type "enumerate", data := .fields #[.none, .bool false, .ref s.heap.objs.size, rawInt 0, .none, .none] } }) :=
  .of_wp fun prog
      w A R s h => by
    obtain ⟨hp, g,
        d, tk, os⟩ := s
    obtain ⟨h1, h⟩ := h
    have hsub := sub_enumerate
    have q1 : ∀ {A' : Around} {E : Value → Shared → Prop} {Q : Value → Shared → Prop}, Q (.ref
        hp.objs.size) ⟨hp.push o, g, d, tk, os⟩ → wpAny (model prog w) A' (pyIter v) Q E ⟨hp, g, d, tk, os⟩ :=
      fun q => B.iter prog w _ _
          ⟨hp, g, d, tk, os⟩ _ h1 q
    wp_walk using q1
    refine wpAny_stack_any
        fun st => wpAny_pure ?_
    split
    · rename_i c _ _ _ _ _
      cases (c == Value.type "enumerate") <;> (wp_walk using q1; exact ⟨_, rfl, h⟩)
    · (wp_walk using q1; exact ⟨_, rfl, h⟩)
theorem enumBegins1 {prog : Program} {w : World} {A : Around} {E : Value → Shared → Prop} {s : Shared} {v : Value} {o : Obj} {G : Heap → Prop} {Q : Value → Shared → Prop} (B : Begins v o G) (h1 : G s.heap)
    (h : ∀ h', IsEnum h' (s.heap.objs.size + 1) s.heap.objs.size 0 .none → h'.get? s.heap.objs.size = some o → (∀ b o, s.heap.get? b = some o → h'.get? b = some o) → Q (.ref (s.heap.objs.size + 1)) { s with heap := h' }) :
    wpAny (model prog w) A (call (.type "enumerate") [v]) Q E s := by
  refine callType_new F.called_enumerate (by decide) (F.typeCall_enumerate_1 _) (F.newCall_enumerate_1 _) (fun obj => F.args_object_init_2 obj _) F.entry_enumerate_new (enumNew1 B) ⟨h1, ?_⟩
  have hz : (s.heap.push o).objs.size =
      s.heap.objs.size + 1 := Heap.size_push ..
  show _ ∧ _
  rw [hz]
  have he : IsEnum ((s.heap.push o).push { cls := .type "enumerate", data := .fields #[.none, .bool false, .ref s.heap.objs.size, rawInt 0, .none, .none] }) (s.heap.objs.size + 1) s.heap.objs.size 0 .none := by
    have q := Heap.get?_push_size (s.heap.push o) (o := { cls := .type "enumerate", data := .fields #[.none, .bool false, .ref s.heap.objs.size, rawInt 0, .none, .none] }) rfl
    rw [hz] at q
    exact q
  exact ⟨⟨_, he, rfl⟩, h _ he (Heap.get?_push_of_some _ (Heap.get?_push_size _ B.free)) fun b o x => Heap.get?_push_of_some _ (Heap.get?_push_of_some _ x)⟩
def tnen (k : Bool) (a N : Addr) : Nat → Heap → Prop := fun i h => (∃ old, IsEnum h (N + 1) N (0 + (i : Int)) old) ∧ srcIt k h N a i
theorem walk_en {P : Program} {w : World} {A : Around} (hh : A.handled = none) (k : Bool) {a N : Addr} (la : a < N) (i1 : Array Value) :
    ∃ Mid fp, WalksT P w A (N + 1) fp [N + 1, N] i1.size (fun i vals => ∃ t x, i1[i]? = some x ∧ vals = #[.int (0 + (i : Int)) t, x]) (fun i h => tnen k a N i h ∧ srcIs k h a i1) Mid := by
  have D1 := srcD (P := P) (w := w) (A := A.in1) hh k N a (Nat.ne_of_lt la) i1
  have q : (N + 1 : Nat) ≠ N := Nat.succ_ne_self N
  refine ⟨_, _, walksT_st (WalksT.enumFrom 0 D1 (N + 1) q (fun hm => ?_) (by simp)) fun i h => ?_⟩
  · rcases List.mem_cons.mp
      hm with e | hm
    · exact q e
    · have e : N + 1 = a := List.mem_singleton.mp hm
      rw [← e] at la
      exact absurd (Nat.lt_of_succ_lt la) (Nat.lt_irrefl N)
  · unfold tnen
    constructor
    · rintro ⟨h1, h2, h3⟩; exact ⟨⟨h1, h2⟩, h3⟩
    · rintro ⟨⟨h1, h2⟩, h3⟩; exact ⟨h1, h2, h3⟩
theorem turn_en {P : Program} {w : World} {K : Frag} {elts : List Expr} {kk : Nat} {tpos : Pos} {k : Bool} {a N : Addr} (la : a < N) : Turn P w K (.Tuple elts kk tpos) (Jen K k a) [N + 1, N] (N + 1) (tnen k a N) := by
  refine turnW (wr := [N + 1, N]) (by simp) (fun i h st c hc => ?_) (fun i h h' st k => ?_) (fun c hc => hc) (fun X hP hw hK hc i pins s σ H I st hg => ?_) (fun X hP hw hK hc i pins s σ H I st hg => ?_) (fun A i s Q E st h => ?_)
  · obtain ⟨⟨old, h1⟩, h4⟩ := st
    have e' : c = N + 1 ∨ c = N := by simpa using hc
    rcases e' with rfl | rfl
    · exact ⟨_, h1, fun v q => nomatch q⟩
    · exact srcIt_get h4
  · obtain ⟨⟨old, h1⟩, h4⟩ := st
    exact ⟨⟨old, k (N + 1) (by simp) _ h1⟩, srcIt_at h4 (k N (by simp))⟩
  · obtain ⟨xs, hx, hi⟩ := hg
    subst hK
    obtain ⟨i1, r1, p1, _⟩ := srcI I hx
    obtain ⟨Mid, fp, W⟩ := walk_en (P := P) (w := w) (I.ok.hd hc) k la i1.toArray
    refine ⟨_, _, _, Mid, fp, W, p1, by simp only [List.size_toArray]; rw [← r1.length]; exact hi, fun vals T hP hT => ?_⟩
    obtain ⟨t, x1, e1, rfl⟩ := hP
    obtain ⟨u1, q1, v1⟩ := r1.get (List.getElem?_eq_getElem hi)
    have e1 : i1[i]? = some x1 := by simpa using e1
    rw [q1] at e1
    cases e1
    refine ⟨[.int (i : Nat), xs[i]], by show 2 ≤ sizeLine; decide, .cons ⟨t, by rw [Int.zero_add]⟩ (.cons v1 .nil), T, _, rfl, hT, rfl, fun zs hz => ?_⟩
    rw [srcInj I hz hx]
    exact List.getElem?_eq_getElem hi
  · obtain ⟨xs, hx, hi⟩ := hg
    subst hK
    obtain ⟨i1, r1, p1, _⟩ := srcI I hx
    obtain ⟨Mid, fp, W⟩ := walk_en (P := P) (w := w) (I.ok.hd hc) k la i1.toArray
    have e : i1.toArray.size = i := by simp only [List.size_toArray]; rw [← r1.length]; exact hi.symm
    rw [e] at W
    exact ⟨_, _, Mid, fp, W, p1⟩
  · obtain ⟨⟨old, he⟩, _⟩ := st
    exact wpAny_pyIter_enum he h
def iEn (K : Frag) (ta : TA) : TI := fun σ H R => ta σ H fun vs H1 => ∃ k a xs, vs = [.ref a] ∧ SrcV K H1 k a xs ∧ R (Jen K k a) H1
theorem pi_en {X : Cx} {e : Expr} {ta : TA} {p pos tpos : Pos} {elts : List Expr} {kk : Nat} (hg : Gl X "enumerate") (hm : X.mg "enumerate" = none) (ha : PA X [e] ta) (hs : starEach [e] X.env = [(false, eval e X.env)] := by rfl) :
    PI X (.Tuple elts kk tpos) (.Call (.Name "enumerate" p) [e] [] pos) (iEn X.K ta) := by
  refine ⟨fun pins s
      σ H R I h => ?_⟩
  refine PyProof.Rows.Call_ (ld_blt I hg hm PyProof.Rows.boot_enumerate (PyProof.Rows.callWith_type1 (thn (ha.run pos pins s σ H _ I h) fun us s1 ⟨vs, H1, I1, r1, q1⟩ => ?_) hs rfl))
  obtain ⟨k, a, xs, ex, hqx, q⟩ := q1
  subst ex
  obtain ⟨u1, rfl, ra⟩ := r1.one
  cases ra
  obtain ⟨i1, _, p1, la⟩ := srcI I1 hqx
  refine enumBegins1 (srcB k a i1.toArray) p1 fun h' he h1 hk => wpAny_pyIter_enum he ?_
  have I2 : Inv X pins σ H1 { s1 with heap
      := h' } := I1.kept (t' := s1.toks) hk
  refine ⟨s1.heap.objs.size + 1, _, _, _, H1, rfl, I2, turn_en la, ⟨⟨.none, he⟩, srcIt_new h1⟩, fun c hcm => ?_, q⟩
  have hle :
      s1.heap.objs.size ≤ c := by
    have e' : c = s1.heap.objs.size + 1 ∨ c = s1.heap.objs.size := by simpa using hcm
    rcases e' with z | z <;> rw [z] <;> first | exact Nat.le_refl _ | exact Nat.le_add_right _ _
  exact I1.fpOk hle
      (I1.hok.fresh hle)

/-! ### zip of three -/
def Jz3 (K : Frag) (k1 k2 k3 : Bool) (a b c : Addr) : It :=
  ⟨fun i H => ∃ xs ys zs, SrcV K H k1 a xs ∧ SrcV K H k2 b ys ∧ SrcV K H k3 c zs ∧ i < min (min xs.length ys.length) zs.length,
    fun i H v H' => ∃ T x y z, v = .ref T ∧ H T = none ∧ H' = upd H T (.tup [x, y, z]) ∧ (∀ xs, SrcV K H k1 a xs → xs[i]? = some x) ∧ (∀ ys, SrcV K H k2 b ys → ys[i]? = some y) ∧ ∀ zs, SrcV K H k3 c zs → zs[i]? = some z,
    fun i H => ∃ xs ys zs, SrcV K H k1 a xs ∧ SrcV K H k2 b ys ∧ SrcV K H k3 c zs ∧ i = min (min xs.length ys.length) zs.length⟩
def tnz3 (k1 k2 k3 : Bool) (a b c N : Addr) : Nat → Heap → Prop := fun i h => (IsZip h (N + 5) (N + 3) (N + 4) .none ∧ IsTupOf3 h (N + 3) (.ref N) (.ref (N + 1)) (.ref (N + 2)) ∧ (∃ a1 a2 a3, IsTupOf3 h (N + 4) a1 a2 a3)) ∧ srcIt k1 h N a i ∧ srcIt k2 h (N + 1) b i ∧ srcIt k3 h (N + 2) c i
theorem walk_z3 {P : Program} {w : World} {A : Around} (hh : A.handled = none) (k1 k2 k3 : Bool) {a b c N : Addr} (la : a < N) (lb : b < N) (lc : c < N) (i1 i2 i3 : Array Value) :
    ∃ Mid fp, WalksT P w A (N + 5) fp [N + 5, N + 4, N, N + 1, N + 2] (min (min i1.size i2.size) i3.size) (fun i vals => ∃ x1 x2 x3, i1[i]? = some x1 ∧ i2[i]? = some x2 ∧ i3[i]? = some x3 ∧ vals = #[x1, x2, x3])
      (fun i h => tnz3 k1 k2 k3 a b c N i h ∧ (srcIs k1 h a i1 ∧ srcIs k2 h b i2 ∧ srcIs k3 h c i3)) Mid := by
  have D1 := srcD (P := P) (w := w) (A := A.in1) hh k1 N a (Nat.ne_of_lt la) i1
  have D2 := srcD (P := P) (w := w) (A := A.in1) hh k2 (N + 1) b (Nat.ne_of_lt (Nat.lt_succ_of_lt lb)) i2
  have D3 := srcD (P := P) (w := w) (A := A.in1) hh k3 (N + 2) c (Nat.ne_of_lt (Nat.lt_of_lt_of_le lc (Nat.le_add_right _ _))) i3
  have S := zip_sep3 (N := N) (fp1 := [a]) (fp2 := [b]) (fp3 := [c]) (by simpa using la) (by simpa using lb) (by simpa using lc)
  refine ⟨_, _, walksT_st (WalksT.zipD3 S D1 D2 D3) fun i h => ?_⟩
  unfold tnz3
  constructor
  · rintro ⟨h1, h2, h3, ⟨h4, h5⟩, ⟨h6, h7⟩, h8, h9⟩; exact ⟨⟨⟨h1, h2, h3⟩, h4, h6, h8⟩, h5, h7, h9⟩
  · rintro ⟨⟨⟨h1, h2, h3⟩, h4, h6, h8⟩, h5, h7, h9⟩; exact ⟨h1, h2, h3, ⟨h4, h5⟩, ⟨h6, h7⟩, h8, h9⟩
theorem turn_z3 {P : Program} {w : World} {K : Frag} {elts : List Expr} {kk : Nat} {tpos : Pos} {k1 k2 k3 : Bool} {a b d N : Addr} (la : a < N) (lb : b < N) (ld : d < N) :
    Turn P w K (.Tuple elts kk tpos) (Jz3 K k1 k2 k3 a b d) [N + 5, N + 3, N + 4, N, N + 1, N + 2] (N + 5) (tnz3 k1 k2 k3 a b d N) := by
  refine turnW (wr := [N + 5, N + 4, N, N + 1, N + 2]) (by simp) (fun i h st c hc => ?_) (fun i h h' st k => ?_) (fun c hc => ?_) (fun X hP hw hK hc i pins s σ H I st hg => ?_) (fun X hP hw hK hc i pins s σ H I st hg => ?_) (fun A i s Q E st h => wpAny_pyIter_zip st.1.1 h)
  · obtain ⟨⟨h1, h2, _, _, _, h3⟩, h4, h6, h8⟩ := st
    have e' : c = N + 5 ∨ c = N + 3 ∨ c = N + 4 ∨ c = N ∨ c = N + 1 ∨ c = N + 2 := by simpa using hc
    rcases e' with rfl | rfl | rfl | rfl | rfl | rfl
    · exact ⟨_, h1, fun v q => nomatch q⟩
    · exact ⟨_, h2, fun v q => nomatch q⟩
    · exact ⟨_, h3, fun v q => nomatch q⟩
    · exact srcIt_get h4
    · exact srcIt_get h6
    · exact srcIt_get h8
  · obtain ⟨⟨h1, h2, a1, a2, a3, h3⟩, h4, h6, h8⟩ := st
    exact ⟨⟨k (N + 5) (by simp) _ h1, k (N + 3) (by simp) _ h2, a1, a2, a3, k (N + 4) (by simp) _ h3⟩, srcIt_at h4 (k N (by simp)), srcIt_at h6 (k (N + 1) (by simp)), srcIt_at h8 (k (N + 2) (by simp))⟩
  · have e' : c = N + 5 ∨ c = N + 4 ∨ c = N ∨ c = N + 1 ∨ c = N + 2 := by simpa using hc
    rcases e' with rfl | rfl | rfl | rfl | rfl <;> simp
  · obtain ⟨xs, ys, zs, hx, hy, hz, hi⟩ := hg
    subst hK
    obtain ⟨i1, r1, p1, _⟩ := srcI I hx
    obtain ⟨i2, r2, p2, _⟩ := srcI I hy
    obtain ⟨i3, r3, p3, _⟩ := srcI I hz
    obtain ⟨Mid, fp, W⟩ := walk_z3 (P := P) (w := w) (I.ok.hd hc) k1 k2 k3 la lb ld i1.toArray i2.toArray i3.toArray
    refine ⟨_, _, _, Mid, fp, W, ⟨p1, p2, p3⟩, by simp only [List.size_toArray]; rw [← r1.length, ← r2.length, ← r3.length]; exact hi, fun vals T hP hT => ?_⟩
    obtain ⟨x1, x2, x3, e1, e2, e3, rfl⟩ := hP
    have l1 : i < xs.length := by omega
    have l2 : i < ys.length := by omega
    have l3 : i < zs.length := by omega
    obtain ⟨u1, q1, v1⟩ := r1.get (List.getElem?_eq_getElem l1)
    obtain ⟨u2, q2, v2⟩ := r2.get (List.getElem?_eq_getElem l2)
    obtain ⟨u3, q3, v3⟩ := r3.get (List.getElem?_eq_getElem l3)
    have e1 : i1[i]? = some x1 := by simpa using e1
    have e2 : i2[i]? = some x2 := by simpa using e2
    have e3 : i3[i]? = some x3 := by simpa using e3
    rw [q1] at e1
    rw [q2] at e2
    rw [q3] at e3
    cases e1
    cases e2
    cases e3
    refine ⟨[xs[i], ys[i], zs[i]], by show 3 ≤ sizeLine; decide, .cons v1 (.cons v2 (.cons v3 .nil)), T, _, _, _, rfl, hT, rfl, fun us hu => ?_, fun us hu => ?_, fun us hu => ?_⟩
    · rw [srcInj I hu hx]; exact List.getElem?_eq_getElem l1
    · rw [srcInj I hu hy]; exact List.getElem?_eq_getElem l2
    · rw [srcInj I hu hz]; exact List.getElem?_eq_getElem l3
  · obtain ⟨xs, ys, zs, hx, hy, hz, hi⟩ := hg
    subst hK
    obtain ⟨i1, r1, p1, _⟩ := srcI I hx
    obtain ⟨i2, r2, p2, _⟩ := srcI I hy
    obtain ⟨i3, r3, p3, _⟩ := srcI I hz
    obtain ⟨Mid, fp, W⟩ := walk_z3 (P := P) (w := w) (I.ok.hd hc) k1 k2 k3 la lb ld i1.toArray i2.toArray i3.toArray
    have e : min (min i1.toArray.size i2.toArray.size) i3.toArray.size = i := by simp only [List.size_toArray]; rw [← r1.length, ← r2.length, ← r3.length]; exact hi.symm
    rw [e] at W
    exact ⟨_, _, Mid, fp, W, p1, p2, p3⟩
theorem vals3 {x y z : V} {us : List Value} (r : Vals [x, y, z] us) : ∃ u v w, us = [u, v, w] ∧ RelV x u ∧ RelV y v ∧ RelV z w := by
  cases r with
  | cons r1 r2 =>
    obtain ⟨u, v, rfl, a, b⟩ := Vals.two r2
    exact ⟨_, _, _, rfl, r1, a, b⟩
def iZip3 (K : Frag) (ta : TA) : TI := fun σ H R => ta σ H fun vs H1 => ∃ k1 k2 k3 a b c xs ys zs, vs = [.ref a, .ref b, .ref c] ∧ SrcV K H1 k1 a xs ∧ SrcV K H1 k2 b ys ∧ SrcV K H1 k3 c zs ∧ R (Jz3 K k1 k2 k3 a b c) H1
theorem pi_zip3 {X : Cx} {e e2 e3 : Expr} {ta : TA} {p pos tpos : Pos} {elts : List Expr} {kk : Nat} (hg : Gl X "zip") (hm : X.mg "zip" = none) (ha : PA X [e, e2, e3] ta)
    (hs : starEach [e, e2, e3] X.env = (false, eval e X.env) :: starEach [e2, e3] X.env := by rfl) (hpl : (backTo pos (starEach [e2, e3] X.env)).any (·.1) = false := by rfl) :
    PI X (.Tuple elts kk tpos) (.Call (.Name "zip" p) [e, e2, e3] [] pos) (iZip3 X.K ta) := by
  refine ⟨fun pins s
      σ H R I h => ?_⟩
  refine PyProof.Rows.Call_ (ld_blt I hg hm PyProof.Rows.boot_zip (PyProof.Rows.callWith_type1 (thn (ha.run pos pins s σ H _ I h) fun us s1 ⟨vs, H1, I1, r1, q1⟩ => ?_) hs hpl))
  obtain ⟨k1, k2, k3, a, b, c, xs, ys, zs, ex, hqx, hqy, hqz, q⟩ := q1
  subst ex
  obtain ⟨u1, u2, u3, rfl, ra, rb, rc⟩ := vals3 r1
  cases ra
  cases rb
  cases rc
  obtain ⟨i1, _, p1, la⟩ := srcI I1 hqx
  obtain ⟨i2, _, p2, lb⟩ := srcI I1 hqy
  obtain ⟨i3, _, p3, lc⟩ := srcI I1 hqz
  refine zip_begins3 (srcB k1 a i1.toArray) (srcB k2 b i2.toArray) (srcB k3 c i3.toArray) p1 p2 p3 fun h' hz hTI hTO h1 h2 h3 hsz hk => wpAny_pyIter_zip hz ?_
  have I2 : Inv X pins σ H1 { s1 with heap
      := h' } := I1.kept (t' := s1.toks) hk
  refine ⟨s1.heap.objs.size + 5, _, _, _, H1, rfl, I2, turn_z3 la lb lc, ⟨⟨hz, hTI, _, _, _, hTO⟩, srcIt_new h1, srcIt_new h2, srcIt_new h3⟩, fun d hcm => ?_, q⟩
  have hle : s1.heap.objs.size ≤ d := by
    have e' : d = s1.heap.objs.size + 5 ∨ d = s1.heap.objs.size + 3 ∨ d = s1.heap.objs.size + 4 ∨ d = s1.heap.objs.size ∨ d = s1.heap.objs.size + 1 ∨ d = s1.heap.objs.size + 2 := by simpa using hcm
    rcases e' with z | z | z | z | z | z <;> rw [z] <;> first | exact Nat.le_refl _ | exact Nat.le_add_right _ _
  exact I1.fpOk hle
      (I1.hok.fresh hle)
end PX
set_option Elab.async false
set_option linter.all false
set_option maxRecDepth 100000
set_option maxHeartbeats 3900000
namespace PX
open PySem L2
variable [HasT]

/-! ### what is walked -/
structure ItOk (K : Frag) (mg : Mg) (J : It) (items : List PV) (F : Hp) : Prop where
  goes : ∀ (i : Nat) (H : Hp), i < items.length → Sub F H → J.go i H
  stops : ∀ (H : Hp), Sub F H → J.stop items.length H
  yields : ∀ (i : Nat) (H : Hp) (x : V) (H' F1 : Hp) (p : PV), items[i]? = some p → Sub F F1 → Sub F1 H → J.yld i H x H' → (H' = H ∧ Fz K mg F1 p x) ∨ ∃ a o, NT o ∧ H a = none ∧ H' = upd H a o ∧ Fz K mg (upd F1 a o) p x
def OutI (K : Frag) (mg : Mg) (D : DX) (W : WX) (F H : Hp) (Ls : Lb) (σ : St) (Q : It → Hp → Prop) : R (List PV × Rho) → Prop
  | .ok (items, ρ') => ∀ J F' H' Ls', SA K mg D F' H' Ls' σ ρ' → Ev F H Ls F' H' Ls' → ItOk K mg J items F' → Q J H'
  | .error (.exc c f pl) => OutX K mg W σ F H Ls c f pl
  | .error .stuck => False
theorem OutI.step {K : Frag} {mg : Mg} {D : DX} {W : WX} {F H F1 H1 : Hp} {Ls Ls1 : Lb} {σ : St} {Q : It → Hp → Prop} (e : Ev F H Ls F1 H1 Ls1) : ∀ {r : R (List PV × Rho)}, OutI K mg D W F H Ls σ Q r → OutI K mg D W F1 H1 Ls1 σ Q r
  | .ok (p, ρ'), h => fun J F' H' Ls' S ev => h J F' H' Ls' S (e.trans ev)
  | .error (.exc c f pl), h => OutX.step e h
  | .error .stuck, h => h
def DI (X : Cx) (D : DX) (W : WX) (tg iter : Expr) (m : MA) : Prop :=
  ∃ wi, PI X tg iter wi ∧ ∀ F H Ls σ ρ Q, SA X.K X.mg D F H Ls σ ρ → OutI X.K X.mg D W F H Ls σ Q (m ρ) → wi σ H Q
section
variable {K : Frag} {mg : Mg} {D : DX} {W : WX} {F H : Hp} {Ls : Lb} {σ : St} {ρ : Rho}
theorem fI {Q1 : VK} {ma : ME} {Q : It → Hp → Prop} {k : PV × Rho → R (List PV × Rho)} (h : OutI K mg D W F H Ls σ Q (ma ρ >>= k))
    (hk : ∀ p ρ1 F1 H1 Ls1 x, SA K mg D F1 H1 Ls1 σ ρ1 → Ev F H Ls F1 H1 Ls1 → Fz K mg F1 (frz p) x → OutI K mg D W F1 H1 Ls1 σ Q (k (p, ρ1)) → Q1 x H1) : OutE K mg D W F H Ls σ Q1 true (ma ρ) :=
  seqF (fun F H Ls r => OutI K mg D W F H Ls σ Q r) (fun _ _ _ h => h) (fun _ _ _ _ e h => h.step e) (fun _ _ _ h => h) h hk
theorem aI {Q1 : List V → Hp → Prop} {Q : It → Hp → Prop} {ma : MA} {k : List PV × Rho → R (List PV × Rho)} (h : OutI K mg D W F H Ls σ Q (ma ρ >>= k))
    (hk : ∀ ps ρ1 F1 H1 Ls1 vs, SA K mg D F1 H1 Ls1 σ ρ1 → Ev F H Ls F1 H1 Ls1 → FzL K mg F1 ps vs → OutI K mg D W F1 H1 Ls1 σ Q (k (ps, ρ1)) → Q1 vs H1) : OutA K mg D W F H Ls σ Q1 (ma ρ) :=
  seqA (fun F H Ls r => OutI K mg D W F H Ls σ Q r) (fun _ _ _ h => h) (fun _ _ _ _ e h => h.step e) (fun _ _ _ h => h) h hk
end
/-- a list or a tuple as it is read off the frozen part -/
theorem Fz.list {K : Frag} {mg : Mg} {F : Hp} {o : Bool} {xs : List PV} {v : V} (h : Fz K mg F (.lst o xs) v) : ∃ a vs, v = .ref a ∧ Rd F a (.lst vs) ∧ FzL K mg F xs vs := by
  simp only [Fz] at h
  exact h.2
theorem Fz.tuple {K : Frag} {mg : Mg} {F : Hp} {xs : List PV} {v : V} (h : Fz K mg F (.tup xs) v) : ∃ a vs, v = .ref a ∧ SqT K F a vs ∧ FzL K mg F xs vs := by
  simp only [Fz] at h
  exact h
theorem itL {K : Frag} {mg : Mg} {F : Hp} {a : Addr} {xs : List PV} {vs : List V} (r : Rd F a (.lst vs)) (h : FzL K mg F xs vs) : ItOk K mg (Itl K a) xs F where
  goes := fun i H hi s => walk_list.goes i H (by rw [← h.length]; exact hi) (s.seqL r)
  stops := fun H s => by
    have q := walk_list.stops H (s.seqL (K := K) r)
    rw [← h.length] at q
    exact q
  yields := fun i H x H' F1 p hp s1 s2 y => by
    have hi : i < vs.length := by rw [← h.length]; exact (List.getElem?_eq_some_iff.mp hp).1
    obtain ⟨e, q⟩ := walk_list.yields i H x H' hi (s2.seqL (K := K) (s1.rd r)) y
    obtain ⟨v, hv, f⟩ := h.get hp
    rw [hv] at q
    cases q
    exact .inl ⟨e, f.mono s1 _ _⟩
theorem itT {K : Frag} {mg : Mg} {F : Hp} {a : Addr} {xs : List PV} {vs : List V} (r : SqT K F a vs) (h : FzL K mg F xs vs) : ItOk K mg (Itt K a) xs F where
  goes := fun i H hi s => walk_tup.goes i H (by rw [← h.length]; exact hi) (s.seqT r)
  stops := fun H s => by
    have q := walk_tup.stops H (s.seqT r)
    rw [← h.length] at q
    exact q
  yields := fun i H x H' F1 p hp s1 s2 y => by
    have hi : i < vs.length := by rw [← h.length]; exact (List.getElem?_eq_some_iff.mp hp).1
    obtain ⟨e, q⟩ := walk_tup.yields i H x H' hi (s2.seqT (s1.seqT r)) y
    obtain ⟨v, hv, f⟩ := h.get hp
    rw [hv] at q
    cases q
    exact .inl ⟨e, f.mono s1 _ _⟩
/-- a sequence: k a tuple, else a list -/
theorem Fz.src {K : Frag} {mg : Mg} {F H : Hp} (s : Sub F H) {k : Bool} {a : Addr} {vs : List V} (r : if k = true then SqT K F a vs else Rd F a (.lst vs)) : SrcV K H k a vs := by
  unfold SrcV
  cases k with
  | true => exact s.seqT r
  | false => exact s.seqL r
def pyItems : PV → R (List PV)
  | .lst _ xs => .ok xs
  | .tup xs => .ok xs
  | _ => .error .stuck
theorem Fz.items {K : Frag} {mg : Mg} {F : Hp} {p : PV} {v : V} {xs : List PV} (h : Fz K mg F p v) (e : pyItems p = .ok xs) : ∃ (k : Bool) (a : Addr) (vs : List V), v = .ref a ∧ (if k = true then SqT K F a vs else Rd F a (.lst vs)) ∧ FzL K mg F xs vs := by
  unfold pyItems at e
  split at e
  · cases e
    obtain ⟨a, vs, rfl, r, f⟩ := h.list
    exact ⟨false, a, vs, rfl, by simpa using r, f⟩
  · cases e
    obtain ⟨a, vs, rfl, r, f⟩ := h.tuple
    exact ⟨true, a, vs, rfl, by simpa using r, f⟩
  · cases e
def iSeq (K : Frag) (tl : TE) : TI := fun σ H R => tl σ H fun x H1 => ∃ a, x = .ref a ∧ (((∃ xs, SqL K H1 a xs) ∧ R (Itl K a) H1) ∨ ((∃ xs, SqT K H1 a xs) ∧ R (Itt K a) H1))
theorem pi_seq {X : Cx} {tg l : Expr} {tl : TE} (hl : PE X l tl) : PI X tg l (iSeq X.K tl) := by
  refine ⟨fun pins s σ H R I h => thn (hl.run pins s σ H _ I h) fun v s1 ⟨x, H1, I1, r1, a, ex, q⟩ => ?_⟩
  subst ex
  cases r1
  have fp : ∀ b ∈ [s1.heap.objs.size], FpOk X pins H1 b := fun b hb => by
    cases List.mem_singleton.mp hb
    exact I1.fpOk (Nat.le_refl _) I1.fresh
  rcases q with ⟨⟨xs, hq⟩, q⟩ | ⟨⟨xs, hq⟩, q⟩
  · obtain ⟨its, _, p, _⟩ := I1.list hq
    exact wpAny_pyIter_list p.isList ⟨s1.heap.objs.size, _, _, _, H1, rfl, I1.kept (t' := s1.toks) fun b o e => Heap.get?_push_of_some _ e, turn_list a _, ⟨_, Heap.get?_push_size _ rfl, rfl, rfl⟩, fp, q⟩
  · obtain ⟨its, _, p, _⟩ := I1.tuple hq
    exact wpAny_pyIter_tuple (show s1.heap.IsTuple a its.toArray from p) ⟨s1.heap.objs.size, _, _, _, H1, rfl, I1.kept (t' := s1.toks) fun b o e => Heap.get?_push_of_some _ e, turn_tuple a _, ⟨_, Heap.get?_push_size _ rfl, rfl, rfl⟩, fp, q⟩
def itSeq (m : ME) : MA := fun ρ => m ρ >>= fun a => pyItems (frz a.1) >>= fun xs => .ok (xs, a.2)
section
variable {X : Cx} {D : DX} {W : WX} {tg e : Expr} {m : ME} {n : MA} {p pos tpos : Pos} {elts : List Expr} {kk : Nat}
theorem di_seq (h : DM X D W e m) : DI X D W tg e (itSeq m) := by
  obtain ⟨t, hp, hs⟩ := h
  refine ⟨_, pi_seq hp, fun F H Ls σ ρ Q S o => hs F H Ls σ ρ _ S (fI o fun p ρ1 F1 H1 Ls1 x S1 e1 V1 o1 => ?_)⟩
  dsimp only at o1
  cases hi : pyItems (frz p) with
  | error er =>
    rw [hi] at o1
    unfold pyItems at hi
    split at hi
    · cases hi
    · cases hi
    · cases hi; exact o1.elim
  | ok xs =>
    rw [hi] at o1
    obtain ⟨k, a, vs, rfl, r, f⟩ := V1.items hi
    cases k with
    | true =>
      simp only [if_true] at r
      exact ⟨a, rfl, .inr ⟨⟨vs, S1.sub.seqT r⟩, o1 _ F1 H1 Ls1 S1 Ev.refl (itT r f)⟩⟩
    | false =>
      simp only [Bool.false_eq_true, if_false] at r
      exact ⟨a, rfl, .inl ⟨⟨vs, S1.sub.seqL r⟩, o1 _ F1 H1 Ls1 S1 Ev.refl (itL r f)⟩⟩
def rangeL (lo : Int) (n : Nat) : List PV := (List.range n).map fun i => .int (lo + (i : Nat))
theorem rangeL_len {lo : Int} {n : Nat} : (rangeL lo n).length = n := by simp [rangeL]
theorem itR {K : Frag} {mg : Mg} {F : Hp} {lo : Int} {n : Nat} : ItOk K mg (Itr lo n) (rangeL lo n) F where
  goes := fun i H hi s => by rw [rangeL_len] at hi; exact walk_range.goes i H hi trivial
  stops := fun H s => by rw [rangeL_len]; exact walk_range.stops H trivial
  yields := fun i H x H' F1 p hp s1 s2 y => by
    have hi : i < n := by have := (List.getElem?_eq_some_iff.mp hp).1; rw [rangeL_len] at this; exact this
    obtain ⟨e, q⟩ := walk_range.yields i H x H' hi trivial y
    refine .inl ⟨e, ?_⟩
    simp only [rangeL, List.getElem?_map, List.getElem?_range hi, Option.map_some, Option.some.injEq] at hp
    subst hp
    simp only [Fz]
    exact q
def itRange1 (n : MA) : MA := fun ρ => n ρ >>= fun a => match a.1 with
  | [.int j] => if -4611686018427387904 ≤ j ∧ j < 4611686018427387904 then .ok (rangeL 0 j.toNat, a.2) else .error .stuck
  | _ => .error .stuck
theorem di_range1 {a : Expr} (hg : Gl X "range") (hm : X.mg "range" = none) (h : DA X D W [a] n) (hs : starEach [a] X.env = [(false, eval a X.env)] := by rfl) : DI X D W tg (.Call (.Name "range" p) [a] [] pos) (itRange1 n) := by
  obtain ⟨t, hp, h1⟩ := h
  refine ⟨_, pi_range1 hg hm hp hs, fun F H Ls σ ρ Q S o => h1 F H Ls σ ρ _ S (aI o fun ps ρ1 F1 H1 Ls1 vs S1 e1 V1 o1 => ?_)⟩
  dsimp only at o1
  split at o1
  · rename_i j
    split at o1
    · rename_i hc
      simp only [FzL, Fz] at V1
      obtain ⟨v, vr, rfl, rfl, rfl⟩ := V1
      exact ⟨j, rfl, hc.1, hc.2, o1 _ F1 H1 Ls1 S1 Ev.refl itR⟩
    · exact o1.elim
  · exact o1.elim
def itRange2 (n : MA) : MA := fun ρ => n ρ >>= fun a => match a.1 with
  | [.int i, .int j] => if -4611686018427387904 ≤ i ∧ i < 4611686018427387904 ∧ -4611686018427387904 ≤ j ∧ j < 4611686018427387904 then .ok (rangeL i (j - i).toNat, a.2) else .error .stuck
  | _ => .error .stuck
theorem di_range2 {a b : Expr} (hg : Gl X "range") (hm : X.mg "range" = none) (h : DA X D W [a, b] n) (hs : starEach [a, b] X.env = [(false, eval a X.env), (false, eval b X.env)] := by rfl) (hs2 : starEach [b] X.env = [(false, eval b X.env)] := by rfl) : DI X D W tg (.Call (.Name "range" p) [a, b] [] pos) (itRange2 n) := by
  obtain ⟨t, hp, h1⟩ := h
  refine ⟨_, pi_range2 hg hm hp hs hs2, fun F H Ls σ ρ Q S o => h1 F H Ls σ ρ _ S (aI o fun ps ρ1 F1 H1 Ls1 vs S1 e1 V1 o1 => ?_)⟩
  dsimp only at o1
  split at o1
  · rename_i i j
    split at o1
    · rename_i hc
      simp only [FzL, Fz] at V1
      obtain ⟨v, vr, rfl, rfl, w, wr, rfl, rfl, rfl⟩ := V1
      exact ⟨i, j, rfl, hc, o1 _ F1 H1 Ls1 S1 Ev.refl itR⟩
    · exact o1.elim
  · exact o1.elim
def rangeC (lo c : Int) (n : Nat) : List PV := (List.range n).map fun i => .int (lo + (i : Nat) * c)
theorem itC {K : Frag} {mg : Mg} {F : Hp} {lo c : Int} {n : Nat} : ItOk K mg (Itc lo c n) (rangeC lo c n) F where
  goes := fun i H hi s => by simp only [rangeC, List.length_map, List.length_range] at hi; exact walk_rangeC.goes i H hi trivial
  stops := fun H s => by simp only [rangeC, List.length_map, List.length_range]; exact walk_rangeC.stops H trivial
  yields := fun i H x H' F1 p hp s1 s2 y => by
    have hi : i < n := by have := (List.getElem?_eq_some_iff.mp hp).1; simpa [rangeC] using this
    obtain ⟨e, q⟩ := walk_rangeC.yields i H x H' hi trivial y
    refine .inl ⟨e, ?_⟩
    simp only [rangeC, List.getElem?_map, List.getElem?_range hi, Option.map_some, Option.some.injEq] at hp
    subst hp
    simp only [Fz]
    exact q
/-- range(i, j, -1) -/
def itRangeD (n : MA) : MA := fun ρ => n ρ >>= fun a => match a.1 with
  | [.int i, .int j, .int k] => if k = -1 ∧ -4611686018427387904 ≤ i ∧ i < 4611686018427387904 ∧ -4611686018427387904 ≤ j ∧ j < 4611686018427387904 then .ok (rangeC i (-1) (i - j).toNat, a.2) else .error .stuck
  | _ => .error .stuck
theorem di_rangeD {a b c : Expr} (hg : Gl X "range") (hm : X.mg "range" = none) (h : DA X D W [a, b, c] n) (hs : starEach [a, b, c] X.env = (false, eval a X.env) :: starEach [b, c] X.env := by rfl) (hpl : (backTo pos (starEach [b, c] X.env)).any (·.1) = false := by rfl) :
    DI X D W tg (.Call (.Name "range" p) [a, b, c] [] pos) (itRangeD n) := by
  obtain ⟨t, hp, h1⟩ := h
  refine ⟨_, pi_range3 hg hm hp hs hpl, fun F H Ls σ ρ Q S o => h1 F H Ls σ ρ _ S (aI o fun ps ρ1 F1 H1 Ls1 vs S1 e1 V1 o1 => ?_)⟩
  dsimp only at o1
  split at o1
  · rename_i i j k
    split at o1
    · rename_i hc
      obtain ⟨rfl, h1, h2, h3, h4⟩ := hc
      simp only [FzL, Fz] at V1
      obtain ⟨v, vr, rfl, rfl, w, wr, rfl, rfl, x, xr, rfl, rfl, rfl⟩ := V1
      exact ⟨i, j, -1, _, rfl, RgC.neg h1 h2 h3 h4, o1 _ F1 H1 Ls1 S1 Ev.refl itC⟩
    · exact o1.elim
  · exact o1.elim
/-- the signs of a text -/
def pySigns (x : Str) : List PV := x.cps.toList.map fun c => .str ⟨#[c]⟩
theorem itS {K : Frag} {mg : Mg} {F : Hp} {x : Str} : ItOk K mg (Its x) (pySigns x) F where
  goes := fun i H hi s => walk_str.goes i H (by simpa [pySigns] using hi) trivial
  stops := fun H s => by
    have q := (walk_str (z := x)).stops H trivial
    simpa [pySigns] using q
  yields := fun i H x' H' F1 p hp s1 s2 y => by
    have hi : i < x.cps.size := by have := (List.getElem?_eq_some_iff.mp hp).1; simpa [pySigns] using this
    obtain ⟨e, c, hc, q⟩ := walk_str.yields i H x' H' hi trivial y
    refine .inl ⟨e, ?_⟩
    simp only [pySigns, List.getElem?_map, Array.getElem?_toList, hc, Option.map_some, Option.some.injEq] at hp
    subst hp
    simp only [Fz]
    exact q
def itStr (m : ME) : MA := fun ρ => m ρ >>= fun a => match a.1 with
  | .str x => .ok (pySigns x, a.2)
  | _ => .error .stuck
theorem di_str (h : DM X D W e m) : DI X D W tg e (itStr m) := by
  obtain ⟨t, hp, hs⟩ := h
  refine ⟨_, pi_str hp, fun F H Ls σ ρ Q S o => hs F H Ls σ ρ _ S (fI o fun p ρ1 F1 H1 Ls1 x S1 e1 V1 o1 => ?_)⟩
  dsimp only at o1
  split at o1
  · simp only [frz, Fz] at V1
    exact ⟨_, V1, o1 _ F1 H1 Ls1 S1 Ev.refl itS⟩
  · exact o1.elim
end
theorem srcMono {K : Frag} {F F1 : Hp} (s : Sub F F1) {k : Bool} {a : Addr} {vs : List V} (r : if k = true then SqT K F a vs else Rd F a (.lst vs)) : if k = true then SqT K F1 a vs else Rd F1 a (.lst vs) := by
  cases k with
  | true => exact s.seqT r
  | false => exact s.rd r
theorem newTup {K : Frag} {mg : Mg} {F1 H : Hp} {T : Addr} {ps : List PV} {vs : List V} (s : Sub F1 H) (hT : H T = none) (h : FzL K mg F1 ps vs) : Fz K mg (upd F1 T (.tup vs)) (.tup ps) (.ref T) := by
  simp only [Fz]
  refine ⟨T, vs, rfl, SqT.of upd_same, h.mono (fun b u h => ?_) _ _⟩
  rw [upd_ne (ne_of_none h (s.non hT))]
  exact h
def zip2L (xs ys : List PV) : List PV := List.zipWith (fun a b => .tup [a, b]) xs ys
theorem itZ2 {K : Frag} {mg : Mg} {F : Hp} {k1 k2 : Bool} {a b : Addr} {xs ys : List PV} {vs us : List V} (r1 : if k1 = true then SqT K F a vs else Rd F a (.lst vs)) (r2 : if k2 = true then SqT K F b us else Rd F b (.lst us)) (h1 : FzL K mg F xs vs) (h2 : FzL K mg F ys us) :
    ItOk K mg (Jz2 K k1 k2 a b) (zip2L xs ys) F where
  goes := fun i H hi s => ⟨vs, us, Fz.src (mg := mg) s r1, Fz.src (mg := mg) s r2, by rw [← h1.length, ← h2.length]; simpa [zip2L] using hi⟩
  stops := fun H s => ⟨vs, us, Fz.src (mg := mg) s r1, Fz.src (mg := mg) s r2, by rw [← h1.length, ← h2.length]; simp [zip2L]⟩
  yields := fun i H x H' F1 p hp s1 s2 y => by
    obtain ⟨T, u, v, rfl, hT, rfl, q1, q2⟩ := y
    refine .inr ⟨T, .tup _, True.intro, hT, rfl, ?_⟩
    simp only [zip2L, List.getElem?_zipWith_eq_some] at hp
    obtain ⟨c, d, hc, hd, rfl⟩ := hp
    obtain ⟨w1, e1, f1⟩ := h1.get hc
    obtain ⟨w2, e2, f2⟩ := h2.get hd
    have z1 := q1 vs (Fz.src (mg := mg) s2 (srcMono s1 r1))
    have z2 := q2 us (Fz.src (mg := mg) s2 (srcMono s1 r2))
    rw [z1] at e1
    rw [z2] at e2
    cases e1
    cases e2
    refine newTup s2 hT ?_
    simp only [FzL]
    exact ⟨_, _, rfl, f1.mono s1 _ _, _, _, rfl, f2.mono s1 _ _, rfl⟩
def itZip2 (n : MA) : MA := fun ρ => n ρ >>= fun a => match a.1 with
  | [p, q] => pyItems p >>= fun xs => pyItems q >>= fun ys => .ok (zip2L xs ys, a.2)
  | _ => .error .stuck
theorem pyItems_err {p : PV} {e : Er} (h : pyItems p = .error e) : e = .stuck := by
  unfold pyItems at h
  split at h <;> cases h
  rfl
section
variable {X : Cx} {D : DX} {W : WX} {tg e : Expr} {m : ME} {n : MA} {p pos tpos : Pos} {elts : List Expr} {kk : Nat}
theorem di_zip2 {a b : Expr} (hg : Gl X "zip") (hm : X.mg "zip" = none) (h : DA X D W [a, b] n) (hs : starEach [a, b] X.env = (false, eval a X.env) :: starEach [b] X.env := by rfl) (hpl : (backTo pos (starEach [b] X.env)).any (·.1) = false := by rfl) :
    DI X D W (.Tuple elts kk tpos) (.Call (.Name "zip" p) [a, b] [] pos) (itZip2 n) := by
  obtain ⟨t, hp, h1⟩ := h
  refine ⟨_, pi_zip2 hg hm hp hs hpl, fun F H Ls σ ρ Q S o => h1 F H Ls σ ρ _ S (aI o fun ps ρ1 F1 H1 Ls1 vs S1 e1 V1 o1 => ?_)⟩
  dsimp only at o1
  split at o1
  · rename_i p q
    simp only [FzL] at V1
    obtain ⟨v, vr, rfl, f1, w, wr, rfl, f2, rfl⟩ := V1
    cases hx : pyItems p with
    | error er => rw [hx, pyItems_err hx] at o1; exact o1.elim
    | ok xs =>
      cases hy : pyItems q with
      | error er => rw [hx, hy, pyItems_err hy] at o1; exact o1.elim
      | ok ys =>
        rw [hx, hy] at o1
        obtain ⟨k1, a1, v1, rfl, r1, g1⟩ := f1.items hx
        obtain ⟨k2, a2, v2, rfl, r2, g2⟩ := f2.items hy
        exact ⟨k1, k2, a1, a2, v1, v2, rfl, Fz.src (mg := X.mg) S1.sub r1, Fz.src (mg := X.mg) S1.sub r2, o1 _ F1 H1 Ls1 S1 Ev.refl (itZ2 r1 r2 g1 g2)⟩
  · exact o1.elim
end
def zip3L : List PV → List PV → List PV → List PV
  | x :: xs, y :: ys, z :: zs => .tup [x, y, z] :: zip3L xs ys zs
  | _, _, _ => []
theorem zip3L_len : ∀ {xs ys zs : List PV}, (zip3L xs ys zs).length = min (min xs.length ys.length) zs.length
  | [], _, _ => by simp [zip3L]
  | _ :: _, [], _ => by simp [zip3L]
  | _ :: _, _ :: _, [] => by simp [zip3L]
  | _ :: xs, _ :: ys, _ :: zs => by simp only [zip3L, List.length_cons, zip3L_len (xs := xs)]; omega
theorem zip3L_get : ∀ {xs ys zs : List PV} {i : Nat} {p : PV}, (zip3L xs ys zs)[i]? = some p → ∃ a b c, xs[i]? = some a ∧ ys[i]? = some b ∧ zs[i]? = some c ∧ p = .tup [a, b, c]
  | [], _, _, _, _, h => by simp [zip3L] at h
  | _ :: _, [], _, _, _, h => by simp [zip3L] at h
  | _ :: _, _ :: _, [], _, _, h => by simp [zip3L] at h
  | x :: xs, y :: ys, z :: zs, 0, p, h => by simp [zip3L] at h; exact ⟨x, y, z, rfl, rfl, rfl, h.symm⟩
  | x :: xs, y :: ys, z :: zs, i + 1, p, h => by
    simp only [zip3L, List.getElem?_cons_succ] at h ⊢
    exact zip3L_get h
theorem itZ3 {K : Frag} {mg : Mg} {F : Hp} {k1 k2 k3 : Bool} {a b c : Addr} {xs ys zs : List PV} {vs us ws : List V} (r1 : if k1 = true then SqT K F a vs else Rd F a (.lst vs)) (r2 : if k2 = true then SqT K F b us else Rd F b (.lst us)) (r3 : if k3 = true then SqT K F c ws else Rd F c (.lst ws))
    (h1 : FzL K mg F xs vs) (h2 : FzL K mg F ys us) (h3 : FzL K mg F zs ws) : ItOk K mg (Jz3 K k1 k2 k3 a b c) (zip3L xs ys zs) F where
  goes := fun i H hi s => ⟨vs, us, ws, Fz.src (mg := mg) s r1, Fz.src (mg := mg) s r2, Fz.src (mg := mg) s r3, by rw [← h1.length, ← h2.length, ← h3.length]; rw [zip3L_len] at hi; exact hi⟩
  stops := fun H s => ⟨vs, us, ws, Fz.src (mg := mg) s r1, Fz.src (mg := mg) s r2, Fz.src (mg := mg) s r3, by rw [← h1.length, ← h2.length, ← h3.length, zip3L_len]⟩
  yields := fun i H x H' F1 p hp s1 s2 y => by
    obtain ⟨T, u, v, t, rfl, hT, rfl, q1, q2, q3⟩ := y
    refine .inr ⟨T, .tup _, True.intro, hT, rfl, ?_⟩
    obtain ⟨c1, c2, c3, d1, d2, d3, rfl⟩ := zip3L_get hp
    obtain ⟨w1, e1, f1⟩ := h1.get d1
    obtain ⟨w2, e2, f2⟩ := h2.get d2
    obtain ⟨w3, e3, f3⟩ := h3.get d3
    rw [q1 vs (Fz.src (mg := mg) s2 (srcMono s1 r1))] at e1
    rw [q2 us (Fz.src (mg := mg) s2 (srcMono s1 r2))] at e2
    rw [q3 ws (Fz.src (mg := mg) s2 (srcMono s1 r3))] at e3
    cases e1
    cases e2
    cases e3
    refine newTup s2 hT ?_
    simp only [FzL]
    exact ⟨_, _, rfl, f1.mono s1 _ _, _, _, rfl, f2.mono s1 _ _, _, _, rfl, f3.mono s1 _ _, rfl⟩
def itZip3 (n : MA) : MA := fun ρ => n ρ >>= fun a => match a.1 with
  | [p, q, r] => pyItems p >>= fun xs => pyItems q >>= fun ys => pyItems r >>= fun zs => .ok (zip3L xs ys zs, a.2)
  | _ => .error .stuck
def enumL (xs : List PV) : List PV := (xs.zipIdx).map fun p => .tup [.int (p.2 : Nat), p.1]
theorem enumL_get {xs : List PV} {i : Nat} {p : PV} (h : (enumL xs)[i]? = some p) : ∃ a, xs[i]? = some a ∧ p = .tup [.int (i : Nat), a] := by
  simp only [enumL, List.getElem?_map, List.getElem?_zipIdx, Option.map_eq_some_iff] at h
  obtain ⟨q, ⟨a, ha, rfl⟩, rfl⟩ := h
  exact ⟨a, ha, by simp⟩
theorem itEn {K : Frag} {mg : Mg} {F : Hp} {k : Bool} {a : Addr} {xs : List PV} {vs : List V} (r : if k = true then SqT K F a vs else Rd F a (.lst vs)) (h : FzL K mg F xs vs) : ItOk K mg (Jen K k a) (enumL xs) F where
  goes := fun i H hi s => ⟨vs, Fz.src (mg := mg) s r, by rw [← h.length]; simpa [enumL] using hi⟩
  stops := fun H s => ⟨vs, Fz.src (mg := mg) s r, by rw [← h.length]; simp [enumL]⟩
  yields := fun i H x H' F1 p hp s1 s2 y => by
    obtain ⟨T, u, rfl, hT, rfl, q1⟩ := y
    refine .inr ⟨T, .tup _, True.intro, hT, rfl, ?_⟩
    obtain ⟨c, hc, rfl⟩ := enumL_get hp
    obtain ⟨w1, e1, f1⟩ := h.get hc
    rw [q1 vs (Fz.src (mg := mg) s2 (srcMono s1 r))] at e1
    cases e1
    refine newTup s2 hT ?_
    simp only [FzL, Fz]
    exact ⟨_, _, rfl, rfl, _, _, rfl, f1.mono s1 _ _, rfl⟩
def itEnum (n : MA) : MA := fun ρ => n ρ >>= fun a => match a.1 with
  | [p] => pyItems p >>= fun xs => .ok (enumL xs, a.2)
  | _ => .error .stuck
section
variable {X : Cx} {D : DX} {W : WX} {tg e : Expr} {m : ME} {n : MA} {p pos tpos : Pos} {elts : List Expr} {kk : Nat}
theorem di_zip3 {a b c : Expr} (hg : Gl X "zip") (hm : X.mg "zip" = none) (h : DA X D W [a, b, c] n) (hs : starEach [a, b, c] X.env = (false, eval a X.env) :: starEach [b, c] X.env := by rfl) (hpl : (backTo pos (starEach [b, c] X.env)).any (·.1) = false := by rfl) :
    DI X D W (.Tuple elts kk tpos) (.Call (.Name "zip" p) [a, b, c] [] pos) (itZip3 n) := by
  obtain ⟨t, hp, h1⟩ := h
  refine ⟨_, pi_zip3 hg hm hp hs hpl, fun F H Ls σ ρ Q S o => h1 F H Ls σ ρ _ S (aI o fun ps ρ1 F1 H1 Ls1 vs S1 e1 V1 o1 => ?_)⟩
  dsimp only at o1
  split at o1
  · rename_i p q r
    simp only [FzL] at V1
    obtain ⟨v, vr, rfl, f1, w, wr, rfl, f2, z, zr, rfl, f3, rfl⟩ := V1
    cases hx : pyItems p with
    | error er => rw [hx, pyItems_err hx] at o1; exact o1.elim
    | ok xs =>
      cases hy : pyItems q with
      | error er => rw [hx, hy, pyItems_err hy] at o1; exact o1.elim
      | ok ys =>
        cases hz : pyItems r with
        | error er => rw [hx, hy, hz, pyItems_err hz] at o1; exact o1.elim
        | ok zs =>
          rw [hx, hy, hz] at o1
          obtain ⟨k1, a1, v1, rfl, r1, g1⟩ := f1.items hx
          obtain ⟨k2, a2, v2, rfl, r2, g2⟩ := f2.items hy
          obtain ⟨k3, a3, v3, rfl, r3, g3⟩ := f3.items hz
          exact ⟨k1, k2, k3, a1, a2, a3, v1, v2, v3, rfl, Fz.src (mg := X.mg) S1.sub r1, Fz.src (mg := X.mg) S1.sub r2, Fz.src (mg := X.mg) S1.sub r3, o1 _ F1 H1 Ls1 S1 Ev.refl (itZ3 r1 r2 r3 g1 g2 g3)⟩
  · exact o1.elim
theorem di_enum {a : Expr} (hg : Gl X "enumerate") (hm : X.mg "enumerate" = none) (h : DA X D W [a] n) (hs : starEach [a] X.env = [(false, eval a X.env)] := by rfl) :
    DI X D W (.Tuple elts kk tpos) (.Call (.Name "enumerate" p) [a] [] pos) (itEnum n) := by
  obtain ⟨t, hp, h1⟩ := h
  refine ⟨_, pi_en hg hm hp hs, fun F H Ls σ ρ Q S o => h1 F H Ls σ ρ _ S (aI o fun ps ρ1 F1 H1 Ls1 vs S1 e1 V1 o1 => ?_)⟩
  dsimp only at o1
  split at o1
  · rename_i p
    simp only [FzL] at V1
    obtain ⟨v, vr, rfl, f1, rfl⟩ := V1
    cases hx : pyItems p with
    | error er => rw [hx, pyItems_err hx] at o1; exact o1.elim
    | ok xs =>
      rw [hx] at o1
      obtain ⟨k1, a1, v1, rfl, r1, g1⟩ := f1.items hx
      exact ⟨k1, a1, v1, rfl, Fz.src (mg := X.mg) S1.sub r1, o1 _ F1 H1 Ls1 S1 Ev.refl (itEn r1 g1)⟩
  · exact o1.elim
end
end PX
set_option Elab.async false
set_option linter.all false
set_option maxRecDepth 100000
set_option maxHeartbeats 3900000
namespace PX
open PySem L2
variable [HasT]

/-! ### slots are stored -/
def setL (Ls : Lb) (i : Nat) (L : LM) : Lb := fun j => if j = i then L else Ls j
theorem setL_self {Ls : Lb} {i : Nat} {L : LM} : setL Ls i L i = L := if_pos rfl
theorem setL_ne {Ls : Lb} {i j : Nat} {L : LM} (h : j ≠ i) : setL Ls i L j = Ls j := if_neg h
section
variable {K : Frag} {mg : Mg} {D : DX} {F H F₀ H₀ : Hp} {Ls Ls₀ : Lb} {σ : St} {ρ : Rho} {L : LM} {i : Nat} {p : PV} {v : V}
/-- labels that no slot has -/
def Lone (F H : Hp) (Ls : Lb) (L : LM) : Prop := ∀ b, (L b).isSome = true → F b = none ∧ (∀ i, Ls i b = none) ∧ Ob H b
theorem Tmp.lone (t : Tmp F H Ls L H₀) : Lone F H Ls L := fun b h => (t b h).2
theorem Lone.no : Lone F H Ls noL := fun b h => by cases h
theorem SA.store (S : SA K mg D F H Ls σ ρ) (hv : Val K mg F H L [] p v) (t : Lone F H Ls L) (hi : D.io = none ∨ i ≠ 0) : SA K mg D F H (setL Ls i L) (σ.set i (some v)) (ρ.set i (some p)) where
  sub := S.sub
  len := by simp [S.len]
  slot := fun j q e => by
    by_cases hj : i = j
    · subst hj
      have hl : i < ρ.length := by
        have := (List.getElem?_eq_some_iff.mp e).1
        simpa using this
      rw [List.getElem?_set_self hl] at e
      cases e
      exact ⟨v, List.getElem?_set_self (by rw [← S.len]; exact hl), by rw [setL_self]; exact hv⟩
    · rw [List.getElem?_set_ne hj] at e
      obtain ⟨u, e1, h⟩ := S.slot j q e
      exact ⟨u, by rw [List.getElem?_set_ne hj]; exact e1, by rw [setL_ne (Ne.symm hj)]; exact h⟩
  own := fun j a h => by
    by_cases hj : j = i
    · subst hj
      rw [setL_self] at h
      exact ⟨(t a h).1, (t a h).2.2⟩
    · rw [setL_ne hj] at h
      exact S.own j a h
  dis := fun j k a h1 h2 => by
    by_cases hj : j = i
    · by_cases hk : k = i
      · rw [hj, hk]
      · rw [hj, setL_self] at h1
        rw [setL_ne hk, (t a h1).2.1 k] at h2
        cases h2
    · by_cases hk : k = i
      · rw [hk, setL_self] at h2
        rw [setL_ne hj, (t a h2).2.1 j] at h1
        cases h1
      · rw [setL_ne hj] at h1
        rw [setL_ne hk] at h2
        exact S.dis j k a h1 h2
  io := fun a h => by
    rcases hi with hi | hi
    · rw [hi] at h; cases h
    · rw [List.getElem?_set_ne hi]
      exact S.io a h
  fob := S.fob
  tab := S.tab
theorem Ev.store (e : Ev F₀ H₀ Ls₀ F H Ls) (t : ∀ b, (L b).isSome = true → ¬ Ob H₀ b) : Ev F₀ H₀ Ls₀ F H (setL Ls i L) where
  mono := e.mono
  frame := e.frame
  obs := e.obs
  tabs := e.tabs
  fnew := e.fnew
  lnew := fun j b h => by
    by_cases hj : j = i
    · subst hj
      rw [setL_self] at h
      exact .inr (t b h)
    · rw [setL_ne hj] at h
      exact e.lnew j b h
end

/-! ### targets -/
theorem wipe_get {σ : St} {i : Nat} : ∀ {vs : List Nat}, (wipe σ vs)[i]? = if i ∈ vs then (if i < σ.length then some none else none) else σ[i]?
  | [] => by simp [wipe]
  | v :: vs => by
    unfold wipe
    by_cases h : v = i
    · subst h
      rw [List.getElem?_set]
      simp [wipe_length]
    · rw [List.getElem?_set_ne h, wipe_get]
      simp only [List.mem_cons, Ne.symm h, false_or]
theorem wipe_set {σ : St} {i : Nat} {x : Option V} {vs : List Nat} (h : i ∈ vs) : wipe (σ.set i x) vs = wipe σ vs := by
  apply List.ext_getElem?
  intro j
  rw [wipe_get, wipe_get]
  by_cases hj : j ∈ vs
  · simp [hj]
  · rw [if_neg hj, if_neg hj, List.getElem?_set_ne]
    intro e
    subst e
    exact hj h
def OutG (K : Frag) (mg : Mg) (D : DX) (F H : Hp) (Ls : Lb) (σ : St) (is : List Nat) (Q : St → Hp → Prop) : R Rho → Prop
  | .ok ρ' => ∀ Ls' σ', SA K mg D F H Ls' σ' ρ' → Ev F H Ls F H Ls' → (∀ vs : List Nat, (∀ i ∈ is, i ∈ vs) → wipe σ' vs = wipe σ vs) → Q σ' H
  | .error _ => False
def DG (X : Cx) (D : DX) (tg : Expr) (is : List Nat) (b : PV → Rho → R Rho) : Prop :=
  ∃ g, PG X tg g ∧ ∀ F H Ls σ ρ p v Q, SA X.K X.mg D F H Ls σ ρ → Fz X.K X.mg F p v → OutG X.K X.mg D F H Ls σ is Q (b p ρ) → g v σ H Q
def DGs (X : Cx) (D : DX) (tgs : List Expr) (is : List Nat) (b : List PV → Rho → R Rho) : Prop :=
  ∃ g, PGs X tgs g ∧ ∀ F H Ls σ ρ ps vs Q, SA X.K X.mg D F H Ls σ ρ → FzL X.K X.mg F ps vs → OutG X.K X.mg D F H Ls σ is Q (b ps ρ) → g vs σ H Q
/-- a slot that is stored -/
structure Lc (X : Cx) (D : DX) (i : Nat) (x : Str) : Prop where
  nd : X.N.Nodup
  at_ : X.N[i]? = some x
  loc : Loc X.env.scope x
  fn : X.fn x = true ∨ X.env.scope.names.lookup x = some .local
  io : D.io = none ∨ i ≠ 0
def bName (i : Nat) (p : PV) (ρ : Rho) : R Rho := .ok (ρ.set i (some p))
def bNil (ps : List PV) (ρ : Rho) : R Rho := match ps with
  | [] => .ok ρ
  | _ => .error .stuck
def bCons (b : PV → Rho → R Rho) (c : List PV → Rho → R Rho) (ps : List PV) (ρ : Rho) : R Rho := match ps with
  | p :: r => b p ρ >>= c r
  | [] => .error .stuck
def bTup (c : List PV → Rho → R Rho) (p : PV) (ρ : Rho) : R Rho := match p with
  | .tup xs => c xs ρ
  | _ => .error .stuck
section
variable {X : Cx} {D : DX} {pos : Pos} {i : Nat} {x : Str}
theorem dg_name (h : Lc X D i x) : DG X D (.Name x pos) [i] (bName i) := by
  refine ⟨_, pg_name h.nd h.at_ h.loc h.fn, fun F H Ls σ ρ p v Q S f o => ?_⟩
  refine o (setL Ls i noL) (σ.set i (some v)) (S.store f.val Lone.no h.io) (Ev.refl.store fun b hb => by cases hb) fun vs hvs => wipe_set (hvs i (by simp))
theorem dgs_nil : DGs X D [] [] bNil := by
  refine ⟨_, pgs_nil, fun F H Ls σ ρ ps vs Q S f o => ?_⟩
  cases ps with
  | nil =>
    simp only [FzL] at f
    exact ⟨f, o Ls σ S Ev.refl fun _ _ => rfl⟩
  | cons p ps => exact o.elim
theorem dgs_cons {e : Expr} {es : List Expr} {is js : List Nat} {b : PV → Rho → R Rho} {c : List PV → Rho → R Rho} (h1 : DG X D e is b) (h2 : DGs X D es js c)
    (hs : (assignEach (e :: es) X.env).map (·.2) = assign e X.env :: (assignEach es X.env).map (·.2) := by rfl) : DGs X D (e :: es) (is ++ js) (bCons b c) := by
  obtain ⟨g1, p1, s1⟩ := h1
  obtain ⟨g2, p2, s2⟩ := h2
  refine ⟨_, pgs_cons p1 p2 hs, fun F H Ls σ ρ ps vs Q S f o => ?_⟩
  cases ps with
  | nil => exact o.elim
  | cons p r =>
    simp only [FzL] at f
    obtain ⟨v, vr, rfl, f1, f2⟩ := f
    refine ⟨v, vr, rfl, s1 F H Ls σ ρ p v _ S f1 ?_⟩
    have o : OutG X.K X.mg D F H Ls σ (is ++ js) Q (b p ρ >>= c r) := o
    cases hb : b p ρ with
    | error e => rw [hb] at o; exact o.elim
    | ok ρ1 =>
      rw [hb] at o
      have o : OutG X.K X.mg D F H Ls σ (is ++ js) Q (c r ρ1) := o
      intro Ls1 σ1 S1 e1 w1
      refine s2 F H Ls1 σ1 ρ1 r vr Q S1 f2 ?_
      cases hc : c r ρ1 with
      | error e => rw [hc] at o; exact o.elim
      | ok ρ2 =>
        rw [hc] at o
        exact fun Ls2 σ2 S2 e2 w2 => o Ls2 σ2 S2 (e1.trans e2) fun vs hvs => (w2 vs fun i hi => hvs i (List.mem_append_right _ hi)).trans (w1 vs fun i hi => hvs i (List.mem_append_left _ hi))
def bTupN (n : Nat) (c : List PV → Rho → R Rho) (p : PV) (ρ : Rho) : R Rho := match p with
  | .tup xs => if xs.length = n then c xs ρ else .error .stuck
  | _ => .error .stuck
theorem dg_tup {es : List Expr} {k n : Nat} {is : List Nat} {c : List PV → Rho → R Rho} (hc : X.calm = true) (h : DGs X D es is c) (hn : (assignEach es X.env).length = n := by rfl) (hst : (assignEach es X.env).findIdx? (·.1) = none := by rfl) :
    DG X D (.Tuple es k pos) is (bTupN n c) := by
  obtain ⟨g, pg, s⟩ := h
  refine ⟨_, pg_tup hc pg hn hst, fun F H Ls σ ρ p v Q S f o => ?_⟩
  cases p with
  | tup xs =>
    obtain ⟨a, vs, rfl, r, f⟩ := f.tuple
    have o : OutG X.K X.mg D F H Ls σ is Q (if xs.length = n then c xs ρ else .error .stuck) := o
    by_cases hl : xs.length = n
    · rw [if_pos hl] at o
      exact ⟨a, vs, rfl, S.sub.seqT r, by rw [← f.length]; exact hl, s F H Ls σ ρ xs vs Q S f o⟩
    · rw [if_neg hl] at o
      exact o.elim
  | _ => exact o.elim
end

/-! ### statements -/
def sNx : MS := fun ρ => .ok (.nx, ρ)
def sSeq (m n : MS) : MS := fun ρ => m ρ >>= fun a => match a.1 with
  | .nx => n a.2
  | f => .ok (f, a.2)
def sSet (i : Nat) (m : ME) : MS := fun ρ => m ρ >>= fun a => .ok (.nx, a.2.set i (some a.1))
/-- an error of a binding is no exception -/
def noX {α : Type} : R α → R α
  | .ok a => .ok a
  | .error _ => .error .stuck
def sAsg (b : PV → Rho → R Rho) (m : ME) : MS := fun ρ => m ρ >>= fun a => noX (b (frz a.1) a.2) >>= fun ρ' => .ok (.nx, ρ')
def sDrop (m : ME) : MS := fun ρ => m ρ >>= fun a => .ok (.nx, a.2)
def sRet (m : ME) : MS := fun ρ => m ρ >>= fun a => .ok (.rt a.1, a.2)
def sIf (t : MT) (m n : MS) : MS := fun ρ => t ρ >>= fun a => if a.1 = true then m a.2 else n a.2
def sPar (i j : Nat) (m n : ME) : MS := fun ρ => m ρ >>= fun a => n a.2 >>= fun b => .ok (.nx, (b.2.set i (some a.1)).set j (some b.1))
section
variable {X : Cx} {D : DX} {W : WX} {pos : Pos} {s : Stmt} {ss : List Stmt} {e : Expr} {m n : MS} {me : ME} {mt : MT} {i : Nat} {x : Str} {tmp : Bool}
theorem db_nil : DB X D W [] sNx := ⟨_, pss_nil, fun F H Ls σ ρ N S o => o F H Ls σ S Ev.refl⟩
theorem db_cons (h1 : DS X D W s m) (h2 : DB X D W ss n) : DB X D W (s :: ss) (sSeq m n) := by
  obtain ⟨t, hp, hs⟩ := h1
  obtain ⟨u, hu, hn⟩ := h2
  refine ⟨_, pss_cons hp hu, fun F H Ls σ ρ N S o => hs F H Ls σ ρ _ S ?_⟩
  revert o
  unfold sSeq
  rcases m ρ with (⟨c, f, pl⟩ | _) | ⟨fl, ρ1⟩
  · exact fun o => o
  · exact fun o => o
  · intro o
    cases fl with
    | nx => exact fun F1 H1 Ls1 σ1 S1 e1 => hn F1 H1 Ls1 σ1 ρ1 N S1 (OutS.step e1 (show OutS X.K X.mg D W F H Ls N (n ρ1) from o))
    | bk => exact o
    | ct => exact o
    | rt p => exact o
theorem db_one (h1 : DS X D W s m) : DB X D W [s] m := by
  obtain ⟨t, hp, hs⟩ := h1
  exact ⟨_, pss_one hp, hs⟩
theorem ds_pass : DS X D W (.Pass pos) sNx := ⟨_, ps_pass, fun F H Ls σ ρ N S o => o F H Ls σ S Ev.refl⟩
def sBrk : MS := fun ρ => .ok (.bk, ρ)
def sCnt : MS := fun ρ => .ok (.ct, ρ)
def sRetN : MS := fun ρ => .ok (.rt .non, ρ)
theorem ds_break : DS X D W (.Break pos) sBrk := ⟨_, ps_break, fun F H Ls σ ρ N S o => o F H Ls σ S Ev.refl⟩
theorem ds_continue : DS X D W (.Continue pos) sCnt := ⟨_, ps_continue, fun F H Ls σ ρ N S o => o F H Ls σ S Ev.refl⟩
theorem ds_set {pos' : Pos} (hx : Lc X D i x) (h : DM X D W e me) (hs : swapsWith e (some (.Name x pos')) pos.line X.env = pure false := by rfl) : DS X D W (.Assign [.Name x pos'] e pos) (sSet i me) := by
  obtain ⟨t, hp, hs'⟩ := h
  refine ⟨_, ps_set hx.nd hx.at_ hx.loc hp hs hx.fn, fun F H Ls σ ρ N S o => hs' F H Ls σ ρ _ S ?_⟩
  revert o
  unfold sSet
  rcases me ρ with (⟨c, f, pl⟩ | _) | ⟨p, ρ1⟩
  · exact fun o => o σ
  · exact fun o => o
  · exact fun o F1 H1 Ls1 L v S1 e1 V1 t1 => o F1 H1 (setL Ls1 i L) (σ.set i (some v)) (S1.store V1 (t1 rfl).lone hx.io) (e1.store fun b hb => (t1 rfl b hb).1)
theorem ds_asg {tg : Expr} {is : List Nat} {b : PV → Rho → R Rho} (hg : DG X D tg is b) (h : DM X D W e me) (hs : swapsWithSole [tg] e pos.line X.env = pure false := by rfl) (hw : swappedStores [tg] e X.env = pure none := by rfl)
    (h1 : (assignEach [tg] X.env).map (·.2) = [assign tg X.env] := by rfl) : DS X D W (.Assign [tg] e pos) (sAsg b me) := by
  obtain ⟨t, hp, hs'⟩ := h
  obtain ⟨g, pg, sg⟩ := hg
  refine ⟨_, ps_asg hp pg hs hw h1, fun F H Ls σ ρ N S o => hs' F H Ls σ ρ _ S (fS o fun p ρ1 F1 H1 Ls1 x S1 e1 V1 o1 => sg F1 H1 Ls1 σ ρ1 (frz p) x _ S1 V1 ?_)⟩
  revert o1
  dsimp only
  rcases b (frz p) ρ1 with er | ρ2
  · exact fun o => o
  · exact fun o Ls2 σ2 S2 e2 _ => o F1 H1 Ls2 σ2 S2 e2
theorem ds_expr (h : DE' tmp X D W e me) (hs : swapsWith e none pos.line X.env = pure false := by rfl) : DS X D W (.Expr e pos) (sDrop me) := by
  obtain ⟨t, hp, hs'⟩ := h
  refine ⟨_, ps_expr hp hs, fun F H Ls σ ρ N S o => hs' F H Ls σ ρ _ S (eS o fun p ρ1 F1 H1 Ls1 L1 x S1 e1 V1 _ o1 => o1 F1 H1 Ls1 σ S1 Ev.refl)⟩
theorem ds_ret (h : DM X D W e me) : DS X D W (.Return (some e) pos) (sRet me) := by
  obtain ⟨t, hp, hs'⟩ := h
  refine ⟨_, ps_ret hp, fun F H Ls σ ρ N S o => hs' F H Ls σ ρ _ S ?_⟩
  revert o
  unfold sRet
  rcases me ρ with (⟨c, f, pl⟩ | _) | ⟨p, ρ1⟩
  · exact fun o => o σ
  · exact fun o => o
  · exact fun o F1 H1 Ls1 L v S1 e1 V1 t1 => o F1 H1 Ls1 σ L v S1 e1 V1 (t1 rfl)
theorem ds_retN : DS X D W (.Return none pos) sRetN := ⟨_, ps_retN, fun F H Ls σ ρ N S o => o F H Ls σ noL .non S Ev.refl (by simp [Val]) Tmp.no⟩
theorem ds_if {c : Expr} {a b : List Stmt} (h : DT X D W c mt) (ha : DB X D W a m) (hb : DB X D W b n) : DS X D W (.If c a b pos) (sIf mt m n) := by
  obtain ⟨t, hp, hs⟩ := h
  obtain ⟨ta, pa, h1⟩ := ha
  obtain ⟨tb, pb, h2⟩ := hb
  refine ⟨_, ps_if hp pa pb, fun F H Ls σ ρ N S o => hs F H Ls σ ρ _ S (tS o fun p ρ1 F1 H1 Ls1 S1 e1 o1 => ?_)⟩
  cases p with
  | true => exact iteT (h1 F1 H1 Ls1 σ ρ1 N S1 o1)
  | false => exact iteF (h2 F1 H1 Ls1 σ ρ1 N S1 o1)
/-- a new value is still new behind another evaluation -/
theorem Tmp.later {F H F1 H1 F2 H2 H₀ : Hp} {Ls1 Ls2 : Lb} {L : LM} (t : Tmp F1 H1 Ls1 L H₀) (e : Ev F1 H1 Ls1 F2 H2 Ls2) : Tmp F2 H2 Ls2 L H₀ := fun b h => by
  obtain ⟨a, f, l, hb⟩ := t b h
  refine ⟨a, ?_, ?_, e.obs b hb⟩
  · cases q : F2 b with
    | none => rfl
    | some o =>
      rcases e.fnew b (by rw [q]; simp) with z | ⟨i, z⟩ | z
      · exact absurd f z
      · rw [l i] at z; cases z
      · exact absurd hb z
  · exact e.un hb l
theorem Val.later {K : Frag} {mg : Mg} {F1 H1 F2 H2 H₀ : Hp} {Ls1 Ls2 : Lb} {L : LM} {p : PV} {v : V} (h : Val K mg F1 H1 L [] p v) (t : Tmp F1 H1 Ls1 L H₀) (e : Ev F1 H1 Ls1 F2 H2 Ls2) : Val K mg F2 H2 L [] p v :=
  h.frame e.mono [] p v fun b u => by
    obtain ⟨r, hr⟩ := u
    obtain ⟨a, f, l, o, q, n⟩ := t b (by rw [hr]; rfl)
    rw [q]
    exact e.frame b o q n l
theorem ds_par {j : Nat} {y : Str} {a b : Expr} {ma mb : ME} {px py pt : Pos} {kt k2 : Nat} {pt2 : Pos} (hc : X.calm = true) (hx : Lc X D i x) (hy : Lc X D j y) (hij : i ≠ j) (lx : X.env.scope.names.lookup x = some .local) (ly : X.env.scope.names.lookup y = some .local)
    (ha : DM X D W a ma) (hb : DM X D W b mb) (hw : swappedStores [.Tuple [.Name x px, .Name y py] kt pt] (.Tuple [a, b] k2 pt2) X.env = pure (some [x, y]) := by rfl)
    (hs : swapsWithSole [.Tuple [.Name x px, .Name y py] kt pt] (.Tuple [a, b] k2 pt2) pos.line X.env = pure false := by rfl)
    (hs1 : starEach [a, b] X.env = (false, eval a X.env) :: starEach [b] X.env := by rfl) (hs2 : starEach [b] X.env = (false, eval b X.env) :: starEach [] X.env := by rfl) :
    DS X D W (.Assign [.Tuple [.Name x px, .Name y py] kt pt] (.Tuple [a, b] k2 pt2) pos) (sPar i j ma mb) := by
  obtain ⟨ta, pa, h1⟩ := ha
  obtain ⟨tb, pb, h2⟩ := hb
  refine ⟨_, ps_par hc hx.nd hx.at_ hy.at_ hij lx ly (pa_cons pa (pa_cons pb pa_nil hs2) hs1) hw hs, fun F H Ls σ ρ N S o => h1 F H Ls σ ρ _ S ?_⟩
  revert o
  unfold sPar
  rcases ma ρ with (⟨c, f, pl⟩ | _) | ⟨p, ρ1⟩
  · exact fun o => o σ
  · exact fun o => o
  · intro o F1 H1 Ls1 L1 v S1 e1 V1 t1
    refine h2 F1 H1 Ls1 σ ρ1 _ S1 ?_
    have o : OutS X.K X.mg D W F H Ls N (mb ρ1 >>= fun b => .ok (.nx, (b.2.set i (some p)).set j (some b.1))) := o
    revert o
    rcases mb ρ1 with (⟨c, f, pl⟩ | _) | ⟨q, ρ2⟩
    · exact fun o => OutX.step e1 (o σ)
    · exact fun o => o
    · intro o F2 H2 Ls2 L2 u S2 e2 V2 t2
      have T1 := (t1 rfl).later e2 (F := F) (H := H)
      have T2 := t2 rfl
      refine ⟨v, u, rfl, o F2 H2 (setL (setL Ls2 i L1) j L2) _ ((S2.store (V1.later (t1 rfl) e2) T1.lone hx.io).store V2 (fun b hb => ⟨(T2 b hb).2.1, fun k => ?_, (T2 b hb).2.2.2⟩) hy.io) (((e1.trans e2).store fun b hb => (T1 b hb).1).store fun b hb => ?_)⟩
      · by_cases hk : k = i
        · rw [hk, setL_self]
          cases z : L1 b with
          | none => rfl
          | some r => exact absurd ((t1 rfl) b (by rw [z]; rfl)).2.2.2 (T2 b hb).1
        · rw [setL_ne hk]
          exact (T2 b hb).2.2.1 k
      · exact fun z => (T2 b hb).1 (e1.obs b z)
end
end PX
set_option Elab.async false
set_option linter.all false
set_option maxRecDepth 100000
set_option maxHeartbeats 3900000
namespace PX
open PySem L2
variable [HasT]

/-! ### loops -/
def forM (b : PV → Rho → R Rho) (body : MS) : List PV → MS
  | [], ρ => .ok (.nx, ρ)
  | x :: xs, ρ => noX (b x ρ) >>= fun ρ1 => body ρ1 >>= fun a => match a.1 with
    | .nx => forM b body xs a.2
    | .ct => forM b body xs a.2
    | .bk => .ok (.nx, a.2)
    | .rt p => .ok (.rt p, a.2)
def sFor (it : MA) (b : PV → Rho → R Rho) (body : MS) : MS := fun ρ => it ρ >>= fun a => forM b body a.1 a.2
def whileM (c : MT) (body : MS) : Nat → MS
  | 0, _ => .error .stuck
  | n + 1, ρ => c ρ >>= fun a => if a.1 = true then body a.2 >>= fun r => match r.1 with
      | .nx => whileM c body n r.2
      | .ct => whileM c body n r.2
      | .bk => .ok (.nx, r.2)
      | .rt p => .ok (.rt p, r.2)
    else .ok (.nx, a.2)
section
variable {X : Cx} {D : DX} {W : WX} {pos : Pos}
/-- what a loop's item does to the state -/
theorem SA.item {K : Frag} {mg : Mg} {J : It} {items : List PV} {F F1 H H' : Hp} {Ls : Lb} {σ : St} {ρ : Rho} {i : Nat} {x : V} {p : PV} (it : ItOk K mg J items F) (S : SA K mg D F1 H Ls σ ρ) (s : Sub F F1) (hp : items[i]? = some p) (y : J.yld i H x H') :
    ∃ F2, SA K mg D F2 H' Ls σ ρ ∧ Ev F1 H Ls F2 H' Ls ∧ Fz K mg F2 p x := by
  rcases it.yields i H x H' F1 p hp s S.sub y with ⟨rfl, f⟩ | ⟨a, o, hn, ha, rfl, f⟩
  · exact ⟨F1, S, Ev.refl, f⟩
  · exact ⟨_, S.allocF hn ha, Ev.allocF S.sub ha, f⟩
theorem ds_for {tg iter : Expr} {body : List Stmt} {it : MA} {is : List Nat} {b : PV → Rho → R Rho} {m : MS} (hp : PassesOwn (model X.prog X.w) X.A X.env X.xe) (hc : X.calm = true) (hi : DI X D W tg iter it) (hg : DG X D tg is b) (hb : DB X D W body m)
    (hs : ∀ x, foldedSetIterable iter X.env x = pure x := by intro _; rfl) : DS X D W (.For tg iter body [] pos) (sFor it b m) := by
  obtain ⟨wi, pi, si⟩ := hi
  obtain ⟨g, pg, sg⟩ := hg
  obtain ⟨tb, pb, sb⟩ := hb
  refine ⟨_, ps_for hp hc pi pg pb hs, fun F H Ls σ ρ N S o => si F H Ls σ ρ _ S ?_⟩
  revert o
  unfold sFor
  rcases it ρ with (⟨c, f, pl⟩ | _) | ⟨items, ρ1⟩
  · exact fun o => o σ
  · exact fun o => o
  · intro o J F1 H1 Ls1 S1 e1 ik
    have o : OutS X.K X.mg D W F H Ls N (forM b m items ρ1) := o
    refine ⟨fun i k σ' H' => k = items.length - i ∧ i ≤ items.length ∧ ∃ F' Ls' ρ', SA X.K X.mg D F' H' Ls' σ' ρ' ∧ Sub F1 F' ∧ OutS X.K X.mg D W F' H' Ls' N (forM b m (items.drop i) ρ'),
      ⟨items.length, by simp, Nat.zero_le _, F1, Ls1, ρ1, S1, Sub.refl _, by rw [List.drop_zero]; exact o.step e1⟩, ?_⟩
    rintro i k σ2 H2 ⟨rfl, hi, F2, Ls2, ρ2, S2, s2, o2⟩
    by_cases hlt : i < items.length
    · refine .inr ⟨ik.goes i H2 hlt (s2.trans S2.sub), fun σ' H' => ∃ F' Ls' ρ', SA X.K X.mg D F' H' Ls' σ' ρ' ∧ Sub F1 F' ∧ OutS X.K X.mg D W F' H' Ls' N (forM b m (items.drop (i + 1)) ρ'),
        fun σ' H' q => ⟨items.length - (i + 1), by omega, rfl, hlt, q⟩, fun x H3 y => ?_⟩
      rw [List.drop_eq_getElem_cons hlt] at o2
      obtain ⟨F3, S3, e3, f3⟩ := SA.item ik S2 s2 (List.getElem?_eq_getElem hlt) y
      refine sg F3 H3 Ls2 σ2 ρ2 _ x _ S3 f3 ?_
      have o3 := o2.step e3
      unfold forM at o3
      revert o3
      rcases b items[i] ρ2 with er | ρ3
      · exact fun o => o
      · intro o3 Ls4 σ4 S4 e4 _
        have o4 : OutS X.K X.mg D W F3 H3 Ls4 N (m ρ3 >>= fun a => match a.1 with
          | .nx => forM b m (items.drop (i + 1)) a.2
          | .ct => forM b m (items.drop (i + 1)) a.2
          | .bk => .ok (.nx, a.2)
          | .rt p => .ok (.rt p, a.2)) := OutS.step e4 o3
        refine sb F3 H3 Ls4 σ4 ρ3 _ S4 ?_
        have s3 : Sub F1 F3 := s2.trans e3.mono
        revert o4
        rcases m ρ3 with (⟨c, f, pl⟩ | _) | ⟨fl, ρ5⟩
        · exact fun o => o
        · exact fun o => o
        · intro o5
          cases fl with
          | nx => exact fun F' H' Ls' σ' S' e' => ⟨F', Ls', ρ5, S', s3.trans e'.mono, OutS.step e' (show OutS X.K X.mg D W F3 H3 Ls4 N (forM b m (items.drop (i + 1)) ρ5) from o5)⟩
          | ct => exact fun F' H' Ls' σ' S' e' => ⟨F', Ls', ρ5, S', s3.trans e'.mono, OutS.step e' (show OutS X.K X.mg D W F3 H3 Ls4 N (forM b m (items.drop (i + 1)) ρ5) from o5)⟩
          | bk => exact o5
          | rt p => exact o5
    · have e : i = items.length := by omega
      subst e
      rw [List.drop_length] at o2
      exact .inl ⟨ik.stops H2 (s2.trans S2.sub), o2 F2 H2 Ls2 σ2 S2 Ev.refl⟩
theorem ds_while {c : Expr} {body : List Stmt} {mt : MT} {m : MS} (n : Nat) (hp : PassesOwn (model X.prog X.w) X.A X.env X.xe) (hc : DT X D W c mt) (hb : DB X D W body m) : DS X D W (.While c body [] pos) (whileM mt m n) := by
  obtain ⟨tc, pc, sc⟩ := hc
  obtain ⟨tb, pb, sb⟩ := hb
  refine ⟨_, ps_while hp pc pb, fun F H Ls σ ρ N S o => ?_⟩
  refine ⟨fun k σ' H' => ∃ F' Ls' ρ', SA X.K X.mg D F' H' Ls' σ' ρ' ∧ OutS X.K X.mg D W F' H' Ls' N (whileM mt m k ρ'), ⟨n, F, Ls, ρ, S, o⟩, ?_⟩
  rintro k σ1 H1 ⟨F1, Ls1, ρ1, S1, o1⟩
  cases k with
  | zero => exact o1.elim
  | succ k =>
    unfold whileM at o1
    refine sc F1 H1 Ls1 σ1 ρ1 _ S1 (tS o1 fun t ρ2 F2 H2 Ls2 S2 e2 o2 => ?_)
    cases t with
    | false => exact iteF (o2 F2 H2 Ls2 σ1 S2 Ev.refl)
    | true =>
      refine iteT ⟨fun σ' H' => ∃ F' Ls' ρ', SA X.K X.mg D F' H' Ls' σ' ρ' ∧ OutS X.K X.mg D W F' H' Ls' N (whileM mt m k ρ'), fun σ' H' q => ⟨k, Nat.lt_succ_self k, q⟩, ?_⟩
      refine sb F2 H2 Ls2 σ1 ρ2 _ S2 ?_
      have o3 : OutS X.K X.mg D W F2 H2 Ls2 N (m ρ2 >>= fun r => match r.1 with
        | .nx => whileM mt m k r.2
        | .ct => whileM mt m k r.2
        | .bk => .ok (.nx, r.2)
        | .rt p => .ok (.rt p, r.2)) := o2
      revert o3
      rcases m ρ2 with (⟨c, f, pl⟩ | _) | ⟨fl, ρ5⟩
      · exact fun o => o
      · exact fun o => o
      · intro o5
        cases fl with
        | nx => exact fun F' H' Ls' σ' S' e' => ⟨F', Ls', ρ5, S', OutS.step e' (show OutS X.K X.mg D W F2 H2 Ls2 N (whileM mt m k ρ5) from o5)⟩
        | ct => exact fun F' H' Ls' σ' S' e' => ⟨F', Ls', ρ5, S', OutS.step e' (show OutS X.K X.mg D W F2 H2 Ls2 N (whileM mt m k ρ5) from o5)⟩
        | bk => exact o5
        | rt p => exact o5

/-! ### name op= e -/
def sAug (g : PV → PV → R PV) (i : Nat) (m : ME) : MS := fun ρ => match ρ[i]? with
  | some (some p) => if fz p = true then m ρ >>= fun b => g p b.1 >>= fun z => .ok (.nx, b.2.set i (some z)) else .error .stuck
  | _ => .error .stuck
theorem ds_aug {op : Operator} {r : R2} {g : PV → PV → R PV} {i : Nat} {x : Str} {e : Expr} {me : ME} {tmp : Bool} {pos' : Pos} (ho : OpR X (inplaceOp op) r) (hs : OpS X.K X.mg r g) (hx : Lc X D i x) (h : DE' tmp X D W e me) : DS X D W (.AugAssign (.Name x pos') op e pos) (sAug g i me) := by
  obtain ⟨t, hp, hs'⟩ := h
  refine ⟨_, ps_aug hx.nd hx.at_ hx.loc hp (ti := r) ho hx.fn, fun F H Ls σ ρ N S o => ?_⟩
  unfold sAug at o
  split at o
  · rename_i p ep
    split at o
    · rename_i hf
      obtain ⟨v, ev, hv⟩ := S.slot i p ep
      refine ⟨v, ev, hs' F H Ls σ ρ _ S (eS o fun q ρ1 F1 H1 Ls1 L1 y S1 e1 V1 _ o1 => ?_)⟩
      refine hs D W F1 H1 Ls1 σ ρ1 _ true p q v y noL L1 S1 ((hv.fzz _ _ _ hf).mono e1.mono _ _).val V1 ?_
      revert o1
      dsimp only
      rcases g p q with (⟨c, f, pl⟩ | _) | z
      · exact fun o => o σ
      · exact fun o => o
      · exact fun o F2 H2 Ls2 L2 u S2 e2 V2 t2 => o F2 H2 (setL Ls2 i L2) (σ.set i (some u)) (S2.store V2 (t2 rfl).lone hx.io) (e2.store fun b hb => (t2 rfl b hb).1)
    · exact o.elim
  · exact o.elim
end
section
variable {X : Cx}
def rIAdd : R2 := fun x y H Q => rI0 (fun i j => .int (i + j)) x y H Q ∨ rStr2 x y H Q
theorem opi_add : OpR X (inplaceOp .Add) rIAdd := iop_add.or iop_add_str
theorem opi_sub : OpR X (inplaceOp .Sub) (rI0 fun i j => .int (i - j)) := iop_sub
theorem opi_mul : OpR X (inplaceOp .Mult) (rI CMul fun i j => .int (i * j)) := iop_mul
theorem opi_div : OpR X (inplaceOp .FloorDiv) (rI CDiv fun i j => .int (i / j)) := iop_fdiv
def pyIAdd : PV → PV → R PV
  | .int i, .int j => .ok (.int (i + j))
  | .str x, .str y => if x.length + y.length ≤ sizeLine then .ok (.str (x ++ y)) else .error .stuck
  | _, _ => .error .stuck
def pyIMul : PV → PV → R PV
  | .int i, .int j => if i.natAbs < 18446744073709551616 ∨ j.natAbs < 18446744073709551616 then .ok (.int (i * j)) else .error .stuck
  | _, _ => .error .stuck
def pyIDiv : PV → PV → R PV
  | .int i, .int j => if 0 < j ∧ j < 1073741824 then .ok (.int (i / j)) else .error .stuck
  | _, _ => .error .stuck
variable {K : Frag} {mg : Mg}
theorem opsi_add : OpS K mg rIAdd pyIAdd := by
  intro D W F H Ls σ ρ Q tmp p q x y L1 L2 S V1 V2 o
  unfold pyIAdd at o
  split at o
  · simp only [Val] at V1 V2
    exact .inl ⟨_, _, V1, V2, OutE.pure o S (by simp [Fz])⟩
  · simp only [Val] at V1 V2
    split at o
    · rename_i hc
      exact .inr ⟨_, _, V1, V2, hc, OutE.pure o S (by simp [Fz])⟩
    · exact o.elim
  · exact o.elim
theorem opsi_mul : OpS K mg (rI CMul fun i j => .int (i * j)) pyIMul := by
  intro D W F H Ls σ ρ Q tmp p q x y L1 L2 S V1 V2 o
  unfold pyIMul at o
  split at o
  · simp only [Val] at V1 V2
    split at o
    · rename_i hc
      refine ⟨_, _, V1, V2, ?_, OutE.pure o S (by simp [Fz])⟩
      unfold CMul
      rcases hc with hc | hc
      · exact .inl ⟨by omega, by omega⟩
      · exact .inr ⟨by omega, by omega⟩
    · exact o.elim
  · exact o.elim
theorem opsi_div : OpS K mg (rI CDiv fun i j => .int (i / j)) pyIDiv := by
  intro D W F H Ls σ ρ Q tmp p q x y L1 L2 S V1 V2 o
  unfold pyIDiv at o
  split at o
  · simp only [Val] at V1 V2
    split at o
    · rename_i hc
      exact ⟨_, _, V1, V2, ⟨hc.1, hc.2⟩, OutE.pure o S (by simp [Fz])⟩
    · exact o.elim
  · exact o.elim
end

/-! ### a list of one's own is changed -/
section
variable {K : Frag} {mg : Mg} {D : DX} {F H H' : Hp} {Ls : Lb} {L : LM} {σ : St} {ρ : Rho} {i : Nat} {a : Addr} {xs ys : List PV} {vs us : List V}
theorem ValL.frameC {F' : Hp} (s : Sub F F') : ∀ {w : List Nat} {j : Nat} {xs : List PV} {vs : List V}, (∀ b k, Under (w ++ [k]) (L b) → H' b = H b) → ValL K mg F H L w j xs vs → ValL K mg F' H' L w j xs vs
  | _, _, [], _, _, h => by simpa [ValL] using h
  | w, j, x :: xs, vs, k, h => by
    simp only [ValL] at h ⊢
    obtain ⟨v, vr, e, h1, h2⟩ := h
    exact ⟨v, vr, e, h1.frame s (w ++ [j]) x v fun b u => k b j u, ValL.frameC s k h2⟩
theorem under_ne {w : List Nat} {k : Nat} {x : Option (List Nat)} (h : x = some w) (u : Under (w ++ [k]) x) : False := by
  obtain ⟨r, e⟩ := u
  rw [h] at e
  have e := congrArg List.length (Option.some.inj e)
  simp at e
theorem Val.own {o : Bool} {v : V} (h : Val K mg F H L [] (.lst true xs) v) : ∃ a vs, v = .ref a ∧ L a = some [] ∧ H a = some (.lst vs) ∧ ValL K mg F H L [] 0 xs vs := by
  simp only [Val] at h
  simpa using h
theorem SA.mutL (S : SA K mg D F H Ls σ ρ) (e : σ[i]? = some (some (.ref a))) (hl : Ls i a = some []) (hn : ValL K mg F H (Ls i) [] 0 ys us) : SA K mg D F (upd H a (.lst us)) Ls σ (ρ.set i (some (.lst true ys))) := by
  have ho := S.own i a (by rw [hl]; rfl)
  have other : ∀ {j b}, j ≠ i → (Ls j b).isSome = true → b ≠ a := fun {j b} hj hb z => by
    subst z
    exact hj (S.dis j i b hb (by rw [hl]; rfl))
  refine ⟨fun b o h => ?_, by simp [S.len], fun j q ej => ?_, fun j b h => ⟨(S.own j b h).1, (S.own j b h).2.upd True.intro⟩, S.dis, S.io, S.fob, fun p hp => tabS_upd ho.2 (S.tab p hp)⟩
  · rw [upd_ne (fun z => by rw [z, ho.1] at h; cases h)]
    exact S.sub b o h
  · by_cases hj : i = j
    · subst hj
      have hlen : i < ρ.length := by have := (List.getElem?_eq_some_iff.mp ej).1; simpa using this
      rw [List.getElem?_set_self hlen] at ej
      cases ej
      refine ⟨_, e, ?_⟩
      simp only [Val]
      exact ⟨a, us, rfl, by simp only [if_true]; exact ⟨hl, upd_same, hn.frameC (Sub.refl F) fun b k u => upd_ne fun z => by subst z; exact under_ne hl u⟩⟩
    · rw [List.getElem?_set_ne hj] at ej
      obtain ⟨v, e1, h⟩ := S.slot j q ej
      exact ⟨v, e1, h.frame (Sub.refl F) [] q v fun b u => upd_ne (other (Ne.symm hj) (by obtain ⟨r, q⟩ := u; rw [q]; rfl))⟩
theorem Ev.mut (hl : (Ls i a).isSome = true) {o : HO} (hn : NT o := by exact True.intro) (ho : Ob H a) : Ev F H Ls F (upd H a o) Ls where
  mono := Sub.refl F
  frame := fun b u h _ hb => by rw [upd_ne (fun z => by rw [z] at hb; rw [hb i] at hl; cases hl)]; exact h
  fnew := fun _ h => .inl h
  lnew := fun i _ h => .inl ⟨i, h⟩
  obs := fun b h => h.upd hn
  tabs := fun t p hp => tabS_upd ho (t p hp)
end
def rExtR : V → List V → Hp → VK → Prop := fun x vs H Q => ∃ l b xs zs, x = .ref l ∧ vs = [.ref b] ∧ H l = some (.lst xs) ∧ Rd H b (.lst zs) ∧ xs.length + zs.length ≤ sizeLine ∧ Q .non (upd H l (.lst (xs ++ zs)))
theorem mt_extR {X : Cx} : MtM X "list.extend" rExtR := by
  intro pins s σ H x
      vs v us Q I rx rv h
  obtain ⟨l, b, xs, zs, rfl,
      rfl, hH, hB, hz, q⟩ := h
  cases rx
  obtain ⟨u, rfl, ru⟩ := rv.one
  cases ru
  obtain ⟨_, i1, n, r, hl, e⟩ := I.lstM hH
  obtain ⟨_, i2, n2, r2, hl2, e2⟩ := lstRd I hB
  have hsz : i1.toArray.size + i2.toArray.size ≤ sizeLine := by simp only [List.size_toArray]; omega
  have hlong : ¬ (!i1.toArray.isEmpty && Builtin.List.listTooLong (i1.toArray.size + i2.toArray.size)) = true := by
    rw [notLongL hsz, Bool.and_false]; simp
  refine call_meets F.slot_list_extend ⟨_, e, rfl⟩ F.entry_list_extend (F.args_list_extend_2 _ _) (AutoSeq1.list_extend_list_list_0 l i1.toArray n b i2.toArray n2 hlong (by simp only [List.size_toArray]; omega) (by omega))
    ⟨e, e2, .non, _, I.lset (its' := i1 ++ i2) hH e (by simp) (r.append r2) (by simp only [List.length_append]; omega), rfl, q⟩
def sApp (i : Nat) (m : ME) : MS := fun ρ => match ρ[i]? with
  | some (some (.lst true _)) => m ρ >>= fun b => match b.2[i]? with
    | some (some (.lst true xs)) => if xs.length < sizeLine then .ok (.nx, b.2.set i (some (.lst true (xs ++ [frz b.1])))) else .error .stuck
    | _ => .error .stuck
  | _ => .error .stuck
def sExt (i : Nat) (m : ME) : MS := fun ρ => match ρ[i]? with
  | some (some (.lst true _)) => m ρ >>= fun b => match b.2[i]?, frz b.1 with
    | some (some (.lst true xs)), .lst _ ys => if xs.length + ys.length ≤ sizeLine then .ok (.nx, b.2.set i (some (.lst true (xs ++ ys)))) else .error .stuck
    | _, _ => .error .stuck
  | _ => .error .stuck
/-- x[k] = e -/
def sStore (i : Nat) (mk : ME) (m : ME) : MS := fun ρ => m ρ >>= fun b => match b.2[i]? with
  | some (some (.lst true _)) => mk b.2 >>= fun k => match k.2[i]?, k.1 with
    | some (some (.lst true xs)), .int j => match ixN xs.length j with
      | some n => .ok (.nx, k.2.set i (some (.lst true (xs.set n (frz b.1)))))
      | none => .error .stuck
    | _, _ => .error .stuck
  | _ => .error .stuck
section
variable {X : Cx} {D : DX} {W : WX} {pos apos cpos px : Pos} {i : Nat} {x : Str} {e : Expr} {me : ME} {tmp : Bool}
theorem tyL {K : Frag} {H : Hp} {a : Addr} {vs : List V} (h : H a = some (.lst vs)) : tyV K "list" (.ref a) H := .inl ⟨rfl, _, SqL.of h⟩
theorem ds_app (hx : Sl X i x) (h : DM X D W e me) (hbase : attributeBase (.Name x px) "append" X.env (eval (.Name x px) X.env) = eval (.Name x px) X.env := by rfl)
    (hfew : ((backTo cpos (starEach [e] X.env)).all (fun x => !x.1) && (backToKw cpos (keywordEach [] X.env)).all (fun x => x.1.isSome) && decide ([e].length + ([] : List Keyword).length + (if ([] : List Keyword).isEmpty then 0 else 1) < 30)) = true := by rfl)
    (hline : (apos.endLine == cpos.line) = true := by rfl) (hs : starEach [e] X.env = (false, eval e X.env) :: starEach [] X.env := by rfl) (hplain : (backTo cpos (starEach [] X.env)).any (·.1) = false := by rfl)
    (hsw : swapsWith (.Call (.Attribute (.Name x px) "append" apos) [e] [] cpos) none pos.line X.env = pure false := by rfl) : DS X D W (.Expr (.Call (.Attribute (.Name x px) "append" apos) [e] [] cpos) pos) (sApp i me) := by
  obtain ⟨t, hp, hs'⟩ := h
  refine ⟨_, ps_expr (pe_bm PySem.F.plainAttrs_list PySem.F.slot_list_append PySem.F.type_list_append mt_append (pe_var hx.1 hx.2.1 hx.2.2.1 hx.2.2.2) (pa_cons hp pa_nil hs) hbase hfew hline hs hplain) hsw, fun F H Ls σ ρ N S o => ?_⟩
  unfold sApp at o
  split at o
  · rename_i xs0 e0
    obtain ⟨v, ev, hv⟩ := S.slot i _ e0
    obtain ⟨a, vs, rfl, _, ha, _⟩ := Val.own (o := true) hv
    refine ⟨.ref a, ev, tyL ha, hs' F H Ls σ ρ _ S (fS o fun p ρ1 F1 H1 Ls1 y S1 e1 V1 o1 => ?_)⟩
    dsimp only at o1
    split at o1
    · rename_i xs e2
      split at o1
      · rename_i hz
        obtain ⟨v1, ev1, hv1⟩ := S1.slot i _ e2
        rw [ev] at ev1
        cases ev1
        obtain ⟨a1, vs1, ea, hl1, ha1, hc1⟩ := Val.own (o := true) hv1
        cases ea
        refine ⟨a, vs1, y, rfl, rfl, ha1, by rw [← hc1.length]; exact hz, ?_⟩
        exact o1 F1 _ Ls1 σ (S1.mutL ev hl1 (hc1.append (by simp only [ValL]; exact ⟨y, [], rfl, V1.val, rfl⟩))) (Ev.mut (i := i) (by rw [hl1]; rfl) (ho := ⟨_, ha1, True.intro⟩))
      · exact o1.elim
    · exact o1.elim
  · exact o.elim
theorem ds_ext (hx : Sl X i x) (h : DM X D W e me) (hbase : attributeBase (.Name x px) "extend" X.env (eval (.Name x px) X.env) = eval (.Name x px) X.env := by rfl)
    (hfew : ((backTo cpos (starEach [e] X.env)).all (fun x => !x.1) && (backToKw cpos (keywordEach [] X.env)).all (fun x => x.1.isSome) && decide ([e].length + ([] : List Keyword).length + (if ([] : List Keyword).isEmpty then 0 else 1) < 30)) = true := by rfl)
    (hline : (apos.endLine == cpos.line) = true := by rfl) (hs : starEach [e] X.env = (false, eval e X.env) :: starEach [] X.env := by rfl) (hplain : (backTo cpos (starEach [] X.env)).any (·.1) = false := by rfl)
    (hsw : swapsWith (.Call (.Attribute (.Name x px) "extend" apos) [e] [] cpos) none pos.line X.env = pure false := by rfl) : DS X D W (.Expr (.Call (.Attribute (.Name x px) "extend" apos) [e] [] cpos) pos) (sExt i me) := by
  obtain ⟨t, hp, hs'⟩ := h
  refine ⟨_, ps_expr (pe_bm PySem.F.plainAttrs_list PySem.F.slot_list_extend PySem.F.type_list_extend mt_extR (pe_var hx.1 hx.2.1 hx.2.2.1 hx.2.2.2) (pa_cons hp pa_nil hs) hbase hfew hline hs hplain) hsw, fun F H Ls σ ρ N S o => ?_⟩
  unfold sExt at o
  split at o
  · rename_i xs0 e0
    obtain ⟨v, ev, hv⟩ := S.slot i _ e0
    obtain ⟨a, vs, rfl, _, ha, _⟩ := Val.own (o := true) hv
    refine ⟨.ref a, ev, tyL ha, hs' F H Ls σ ρ _ S (fS o fun p ρ1 F1 H1 Ls1 y S1 e1 V1 o1 => ?_)⟩
    dsimp only at o1
    split at o1
    · rename_i xs b ys e2 ep
      split at o1
      · rename_i hz
        obtain ⟨v1, ev1, hv1⟩ := S1.slot i _ e2
        rw [ev] at ev1
        cases ev1
        obtain ⟨a1, vs1, ea, hl1, ha1, hc1⟩ := Val.own (o := true) hv1
        cases ea
        rw [ep] at V1
        obtain ⟨a2, vs2, rfl, r2, f2⟩ := V1.list
        refine ⟨a, a2, vs1, vs2, rfl, rfl, ha1, S1.sub.rd r2, by rw [← hc1.length, ← f2.length]; exact hz, ?_⟩
        exact o1 F1 _ Ls1 σ (S1.mutL ev hl1 (hc1.append f2.valL)) (Ev.mut (i := i) (by rw [hl1]; rfl) (ho := ⟨_, ha1, True.intro⟩))
      · exact o1.elim
    · exact o1.elim
  · exact o.elim
theorem ValL.set {K : Frag} {mg : Mg} {F H : Hp} {L : LM} {x : PV} {v : V} (f : Fz K mg F x v) : ∀ {xs : List PV} {vs : List V} {w : List Nat} {j n : Nat}, ValL K mg F H L w j xs vs → ValL K mg F H L w j (xs.set n x) (vs.set n v)
  | [], _, _, _, _, h => by simp only [ValL] at h; subst h; simp [ValL]
  | y :: xs, vs, w, j, 0, h => by
    simp only [ValL, List.set_cons_zero] at h ⊢
    obtain ⟨v', vr, e', h1, h2⟩ := h
    exact ⟨v, vr, by simp [e'], f.val, h2⟩
  | y :: xs, vs, w, j, n + 1, h => by
    simp only [ValL, List.set_cons_succ] at h ⊢
    obtain ⟨v', vr, e', h1, h2⟩ := h
    exact ⟨v', vr.set n v, by simp [e'], h1, ValL.set f h2⟩
theorem ds_store {k : Expr} {mk : ME} {tp : Pos} (hx : Sl X i x) (hk : DE' tmp X D W k mk) (h : DM X D W e me)
    (ha : ∀ v, assign (.Subscript (.Name x px) k tp) X.env v = (do
      let ov ← holding [v] (eval (.Name x px) X.env)
      let iv ← holding [v, ov] (eval k X.env)
      standAt tp
      holding [v, ov, iv]
          (setItem ov iv v)
      release [v, ov, iv] []) := by intro _; rfl)
    (hs : swapsWithSole [.Subscript (.Name x px) k tp] e pos.line X.env = pure false := by rfl) (hw : swappedStores [.Subscript (.Name x px) k tp] e X.env = pure none := by rfl)
    (h1 : (assignEach [.Subscript (.Name x px) k tp] X.env).map (·.2) = [assign (.Subscript (.Name x px) k tp) X.env] := by rfl) : DS X D W (.Assign [.Subscript (.Name x px) k tp] e pos) (sStore i mk me) := by
  obtain ⟨t, hp, hs'⟩ := h
  obtain ⟨u, hu, hk'⟩ := hk
  refine ⟨_, ps_asg hp (pg_sub (pe_var hx.1 hx.2.1 hx.2.2.1 hx.2.2.2) hu set_list ha) hs hw h1, fun F H Ls σ ρ N S o => ?_⟩
  refine hs' F H Ls σ ρ _ S (fS o fun p ρ1 F1 H1 Ls1 y S1 e1 V1 o1 => ?_)
  dsimp only at o1
  split at o1
  · rename_i xs0 e0
    obtain ⟨v, ev, hv⟩ := S1.slot i _ e0
    obtain ⟨a, vs, rfl, _, ha, _⟩ := Val.own (o := true) hv
    refine ⟨.ref a, ev, hk' F1 H1 Ls1 σ ρ1 _ S1 (eS o1 fun kp ρ2 F2 H2 Ls2 L2 z S2 e2 V2 _ o2 => ?_)⟩
    dsimp only at o2
    split at o2
    · rename_i xs j e3
      split at o2
      · rename_i n hn
        obtain ⟨v1, ev1, hv1⟩ := S2.slot i _ e3
        rw [ev] at ev1
        cases ev1
        obtain ⟨a1, vs1, ea, hl1, ha1, hc1⟩ := Val.own (o := true) hv1
        cases ea
        simp only [Val] at V2
        refine ⟨a, vs1, j, n, rfl, V2, ha1, by rw [← hc1.length]; exact hn, ?_⟩
        exact o2 F2 _ Ls2 σ (S2.mutL ev hl1 (hc1.set (V1.mono e2.mono _ _))) (Ev.mut (i := i) (by rw [hl1]; rfl) (ho := ⟨_, ha1, True.intro⟩))
      · exact o2.elim
    · exact o2.elim
  · exact o1.elim
end
end PX
set_option Elab.async false
set_option linter.all false
set_option maxRecDepth 100000
set_option maxHeartbeats 3900000
namespace PX
open PySem L2
variable [HasT]

/-! ### readings that hang on the pure function alone -/
def canE (K : Frag) (mg : Mg) (D : DX) (W : WX) (tmp : Bool) (m : ME) : TE := fun σ H Q => ∃ F Ls ρ, SA K mg D F H Ls σ ρ ∧ OutE K mg D W F H Ls σ Q tmp (m ρ)
def canT (K : Frag) (mg : Mg) (D : DX) (W : WX) (m : MT) : TT := fun σ H Q => ∃ F Ls ρ, SA K mg D F H Ls σ ρ ∧ OutT K mg D W F H Ls σ Q (m ρ)
def canG (K : Frag) (mg : Mg) (D : DX) (is : List Nat) (b : PV → Rho → R Rho) : TG := fun v σ H Q => ∃ F Ls ρ p, SA K mg D F H Ls σ ρ ∧ Fz K mg F p v ∧ OutG K mg D F H Ls σ is Q (b p ρ)
theorem DE'.can {tmp : Bool} {X : Cx} {D : DX} {W : WX} {e : Expr} {m : ME} (h : DE' tmp X D W e m) : PE X e (canE X.K X.mg D W tmp m) := by
  obtain ⟨t, hp, hs⟩ := h
  exact ⟨fun pins s σ H Q I ⟨F, Ls, ρ, S, o⟩ => hp.run pins s σ H Q I (hs F H Ls σ ρ Q S o)⟩
theorem DT.can {X : Cx} {D : DX} {W : WX} {e : Expr} {m : MT} (h : DT X D W e m) : PT X e (canT X.K X.mg D W m) := by
  obtain ⟨t, hp, hs⟩ := h
  exact ⟨fun pins s σ H Q I ⟨F, Ls, ρ, S, o⟩ => hp.run pins s σ H Q I (hs F H Ls σ ρ Q S o)⟩
theorem DG.can {X : Cx} {D : DX} {e : Expr} {is : List Nat} {b : PV → Rho → R Rho} (h : DG X D e is b) : PG X e (canG X.K X.mg D is b) := by
  obtain ⟨t, hp, hs⟩ := h
  exact ⟨fun pins s σ H v u Q I r ⟨F, Ls, ρ, p, S, f, o⟩ => hp.run pins s σ H v u Q I r (hs F H Ls σ ρ p v Q S f o)⟩

/-! ### comprehensions -/
def wipeR (ρ : Rho) : List Nat → Rho
  | [] => ρ
  | v :: vs => (wipeR ρ vs).set v none
def keepP : Option (Option PV) → Option PV
  | some (some p) => if fz p = true then some p else none
  | _ => none
/-- the names that the comprehension has hidden come back -/
def restR (ρ1 ρ2 : Rho) : List Nat → Rho
  | [] => ρ2
  | v :: vs => (restR ρ1 ρ2 vs).set v (keepP ρ1[v]?)
theorem wipeR_len (ρ : Rho) : ∀ vs, (wipeR ρ vs).length = ρ.length
  | [] => rfl
  | v :: vs => by simp [wipeR, wipeR_len ρ vs]
theorem restR_len (ρ1 ρ2 : Rho) : ∀ vs, (restR ρ1 ρ2 vs).length = ρ2.length
  | [] => rfl
  | v :: vs => by simp [restR, restR_len ρ1 ρ2 vs]
theorem wipeR_some {ρ : Rho} {i : Nat} {p : PV} : ∀ {vs : List Nat}, (wipeR ρ vs)[i]? = some (some p) → ρ[i]? = some (some p) ∧ i ∉ vs
  | [], h => ⟨h, by simp⟩
  | v :: vs, h => by
    unfold wipeR at h
    by_cases e : v = i
    · subst e
      rw [List.getElem?_set] at h
      simp only [if_true] at h
      split at h <;> cases h
    · rw [List.getElem?_set_ne e] at h
      obtain ⟨a, b⟩ := wipeR_some h
      exact ⟨a, by simp [Ne.symm e, b]⟩
theorem restR_some {ρ1 ρ2 : Rho} {i : Nat} {p : PV} : ∀ {vs : List Nat}, (restR ρ1 ρ2 vs)[i]? = some (some p) → (i ∈ vs ∧ ρ1[i]? = some (some p) ∧ fz p = true) ∨ (i ∉ vs ∧ ρ2[i]? = some (some p))
  | [], h => .inr ⟨by simp, h⟩
  | v :: vs, h => by
    unfold restR at h
    by_cases e : v = i
    · subst e
      rw [List.getElem?_set] at h
      simp only [if_true] at h
      split at h
      · refine .inl ⟨by simp, ?_⟩
        have h := Option.some.inj h
        unfold keepP at h
        split at h
        · rename_i q hq
          split at h
          · rename_i hf
            cases h
            exact ⟨hq, hf⟩
          · cases h
        · cases h
      · cases h
    · rw [List.getElem?_set_ne e] at h
      rcases restR_some h with ⟨a, b⟩ | ⟨a, b⟩
      · exact .inl ⟨by simp [a], b⟩
      · exact .inr ⟨by simp [Ne.symm e, a], b⟩
section
variable {K : Frag} {mg : Mg} {D : DX} {F H F1 H1 F2 H2 : Hp} {Ls Ls1 Ls2 : Lb} {σ : St} {ρ ρ1 ρ2 : Rho} {vs : List Nat}
theorem SA.wipe (S : SA K mg D F H Ls σ ρ) (hd : D.io = none ∨ 0 ∉ vs) : SA K mg D F H Ls (wipe σ vs) (wipeR ρ vs) where
  sub := S.sub
  len := by rw [wipeR_len, wipe_length]; exact S.len
  slot := fun i p e => by
    obtain ⟨a, b⟩ := wipeR_some e
    obtain ⟨v, e1, h⟩ := S.slot i p a
    exact ⟨v, by rw [wipe_get, if_neg b]; exact e1, h⟩
  own := S.own
  dis := S.dis
  io := fun a h => by
    rcases hd with hd | hd
    · rw [hd] at h; cases h
    · rw [wipe_get, if_neg hd]; exact S.io a h
  fob := S.fob
  tab := S.tab
/-- only the slots' pure values forgotten -/
theorem SA.wipeρ (S : SA K mg D F H Ls σ ρ) : SA K mg D F H Ls σ (wipeR ρ vs) where
  sub := S.sub
  len := by rw [wipeR_len]; exact S.len
  slot := fun i p e => S.slot i p (wipeR_some e).1
  own := S.own
  dis := S.dis
  io := S.io
  fob := S.fob
  tab := S.tab
def dropLs (Ls : Lb) (vs : List Nat) : Lb := fun j => if j ∈ vs then noL else Ls j
theorem dropLs_some {j : Nat} {a : Addr} (h : (dropLs Ls vs j a).isSome = true) : (Ls j a).isSome = true ∧ j ∉ vs := by
  unfold dropLs at h
  by_cases e : j ∈ vs
  · rw [if_pos e] at h; cases h
  · rw [if_neg e] at h; exact ⟨h, e⟩
theorem SA.unwipe (S1 : SA K mg D F1 H1 Ls1 σ ρ1) (S2 : SA K mg D F2 H2 Ls2 (L2.wipe σ vs) ρ2) (s : Sub F1 F2) : SA K mg D F2 H2 (dropLs Ls2 vs) σ (restR ρ1 ρ2 vs) where
  sub := S2.sub
  len := by rw [restR_len, S2.len, wipe_length]
  slot := fun i p e => by
    rcases restR_some e with ⟨a, b, f⟩ | ⟨a, b⟩
    · obtain ⟨v, e1, h⟩ := S1.slot i p b
      exact ⟨v, e1, ((h.fzz _ _ _ f).mono s _ _).val⟩
    · obtain ⟨v, e1, h⟩ := S2.slot i p b
      rw [wipe_get, if_neg a] at e1
      have : dropLs Ls2 vs i = Ls2 i := by unfold dropLs; rw [if_neg a]
      exact ⟨v, e1, by rw [this]; exact h⟩
  own := fun i a h => S2.own i a (dropLs_some h).1
  dis := fun i j a h1 h2 => S2.dis i j a (dropLs_some h1).1 (dropLs_some h2).1
  io := fun a h => (wipe_some (S2.io a h)).1
  fob := S2.fob
  tab := S2.tab
theorem Ev.dropLs {F₀ H₀ : Hp} {Ls₀ : Lb} (e : Ev F₀ H₀ Ls₀ F H Ls) : Ev F₀ H₀ Ls₀ F H (PX.dropLs Ls vs) :=
  ⟨e.mono, e.frame, e.fnew, fun i b h => e.lnew i b (dropLs_some h).1, e.obs, e.tabs⟩
/-- an object that no slot has and that is not frozen is changed -/
theorem SA.free (S : SA K mg D F H Ls σ ρ) {a : Addr} {o : HO} (hn : NT o) (ho : Ob H a) (hf : F a = none) (hl : ∀ i, Ls i a = none) : SA K mg D F (upd H a o) Ls σ ρ where
  sub := fun b u h => by rw [upd_ne (fun z => by rw [z, hf] at h; cases h)]; exact S.sub b u h
  len := S.len
  slot := fun i p e => by
    obtain ⟨v, e1, h⟩ := S.slot i p e
    exact ⟨v, e1, h.frame (Sub.refl F) [] p v fun b u => upd_ne fun z => by obtain ⟨r, q⟩ := u; rw [z, hl i] at q; cases q⟩
  own := fun i b h => ⟨(S.own i b h).1, (S.own i b h).2.upd hn⟩
  dis := S.dis
  io := S.io
  fob := S.fob
  tab := fun p hp => tabS_upd ho (S.tab p hp)
theorem Ev.free {F₀ H₀ : Hp} {Ls₀ : Lb} (e : Ev F₀ H₀ Ls₀ F H Ls) {a : Addr} {o : HO} (hn : NT o) (ho : Ob H a) (ha : ¬ Ob H₀ a) : Ev F₀ H₀ Ls₀ F (upd H a o) Ls :=
  ⟨e.mono, fun b u h n hb => by rw [upd_ne (Ob.apart h n ha)]; exact e.frame b u h n hb, e.fnew, e.lnew, fun b h => (e.obs b h).upd hn, fun t p hp => tabS_upd ho (e.tabs t p hp)⟩
end
theorem wipe_idem {σ : St} {vs : List Nat} : wipe (wipe σ vs) vs = wipe σ vs := by
  apply List.ext_getElem?
  intro j
  rw [wipe_get, wipe_get, wipe_length]
  split <;> simp [*]
def W0 : WX := fun _ _ _ _ => False
theorem takesW0 {X : Cx} : Takes X W0 := fun _ _ x => by
  obtain ⟨_, _, _, _, _, _, _, _,
      _, _, _, _, _, _, _, _, z⟩ := x
  exact z.elim
/-- the turns of a comprehension; the slots vs are its own -/
def compM (vs : List Nat) (b : PV → Rho → R Rho) (t : MT) (el : ME) : List PV → Rho → R (List PV × Rho)
  | [], ρ => .ok ([], ρ)
  | x :: xs, ρ => noX (b x ρ) >>= fun ρ1 => noX (t ρ1) >>= fun c => if c.1 = true then noX (el c.2) >>= fun y => compM vs b t el xs (wipeR y.2 vs) >>= fun r => .ok (frz y.1 :: r.1, r.2)
    else compM vs b t el xs (wipeR c.2 vs)
def eComp (vs : List Nat) (it : MA) (b : PV → Rho → R Rho) (t : MT) (el : ME) : ME := fun ρ => it ρ >>= fun a => if a.1.length ≤ sizeLine then compM vs b t el a.1 (wipeR a.2 vs) >>= fun r => .ok (.lst true r.1, restR a.2 r.2 vs) else .error .stuck
def tYesM : MT := fun ρ => .ok (true, ρ)
/-- a clause's tests -/
def DTs (X : Cx) (D : DX) (W : WX) (es : List Expr) (m : MT) : Prop := PTs X es (canT X.K X.mg D W m)
theorem dts_nil {X : Cx} {D : DX} {W : WX} : DTs X D W [] tYesM := ⟨fun pins s σ H Q I ⟨F, Ls, ρ, S, o⟩ => pts_nil.run pins s σ H Q I (o F H Ls S Ev.refl)⟩
theorem dts_one {X : Cx} {D : DX} {W : WX} {e : Expr} {m : MT} (h : DT X D W e m) : DTs X D W [e] m := pts_one h.can
theorem noX_out {α : Type} {r : R α} {P : Prop} (h : ∀ a, r = .ok a → P) (e : ∀ c, noX r = .error c → P) : P := by
  cases r with
  | ok a => exact h a rfl
  | error c => exact e .stuck rfl
section
variable {X : Cx} {D : DX} {W : WX} {tmp : Bool} {elt tg iter : Expr} {ifs : List Expr} {scope : Scope} {own : List (Str × Nat)} {pos : Pos} {it : MA} {is : List Nat} {b : PV → Rho → R Rho} {mt : MT} {me : ME}
theorem comp_spec {wi : TI} (hd : D.io = none ∨ 0 ∉ own.map (·.2)) (his : ∀ i ∈ is, i ∈ own.map (·.2)) (si : ∀ F H Ls σ ρ Q, SA X.K X.mg D F H Ls σ ρ → OutI X.K X.mg D W F H Ls σ Q (it ρ) → wi σ H Q)
    {F H : Hp} {Ls : Lb} {σ : St} {ρ : Rho} {Q : VK} (S : SA X.K X.mg D F H Ls σ ρ) (o : OutE X.K X.mg D W F H Ls σ Q tmp (eComp (own.map (·.2)) it b mt me ρ)) :
    tLc wi (canG X.K X.mg D is b) (canT X.K X.mg D W0 mt) (canE X.K X.mg D W0 true me) (own.map (·.2)) σ H Q := by
  refine si F H Ls σ ρ _ S ?_
  generalize own.map (·.2) = vs at *
  revert o
  unfold eComp
  rcases it ρ with (⟨c, f, pl⟩ | _) | ⟨items, ρ1⟩
  · exact fun o => o
  · exact fun o => o
  · intro o J F1 H1 Ls1 S1 e1 ik C hC
    have o : OutE X.K X.mg D W F H Ls σ Q tmp (if items.length ≤ sizeLine then compM vs b mt me items (wipeR ρ1 vs) >>= fun r => .ok (.lst true r.1, restR ρ1 r.2 vs) else .error .stuck) := o
    by_cases hz : items.length ≤ sizeLine
    · rw [if_pos hz] at o
      have hC0 : ¬ Ob H C := fun z => (e1.obs C z).ne hC
      refine ⟨fun i k H' => k = items.length - i ∧ i ≤ items.length ∧ ∃ F' Ls' ρ' acc us, SA X.K X.mg D F' H' Ls' (wipe σ vs) ρ' ∧ Sub F1 F' ∧ Ev F H Ls F' H' Ls' ∧ H' C = some (.lst us) ∧ FzL X.K X.mg F' acc us ∧ acc.length ≤ i ∧ F' C = none ∧ (∀ j, Ls' j C = none) ∧
          OutE X.K X.mg D W F H Ls σ Q tmp (compM vs b mt me (items.drop i) ρ' >>= fun r => .ok (.lst true (acc ++ r.1), restR ρ1 r.2 vs)),
        ⟨items.length, by simp, Nat.zero_le _, F1, Ls1, wipeR ρ1 vs, [], [], (S1.wipe hd).alloc hC, Sub.refl _, e1.trans (Ev.alloc hC), upd_same, by simp [FzL], Nat.le_refl _, S1.sub.non hC, fun j => S1.nl hC j, by simpa using o⟩, ?_⟩
      rintro i k H2 ⟨rfl, hi, F2, Ls2, ρ2, acc, us, S2, s2, e2, c2, f2, l2, n2, u2, o2⟩
      by_cases hlt : i < items.length
      · refine .inr ⟨ik.goes i H2 hlt (s2.trans S2.sub), fun H' => ∃ F' Ls' ρ' acc us, SA X.K X.mg D F' H' Ls' (wipe σ vs) ρ' ∧ Sub F1 F' ∧ Ev F H Ls F' H' Ls' ∧ H' C = some (.lst us) ∧ FzL X.K X.mg F' acc us ∧ acc.length ≤ i + 1 ∧ F' C = none ∧ (∀ j, Ls' j C = none) ∧
            OutE X.K X.mg D W F H Ls σ Q tmp (compM vs b mt me (items.drop (i + 1)) ρ' >>= fun r => .ok (.lst true (acc ++ r.1), restR ρ1 r.2 vs)),
          fun H' q => ⟨items.length - (i + 1), by omega, rfl, hlt, q⟩, fun x H3 y => ?_⟩
        rw [List.drop_eq_getElem_cons hlt] at o2
        obtain ⟨F3, S3, e3, f3⟩ := SA.item ik S2 s2 (List.getElem?_eq_getElem hlt) y
        refine ⟨F3, Ls2, ρ2, items[i], S3, f3, ?_⟩
        unfold compM at o2
        revert o2
        rcases b items[i] ρ2 with er | ρ3
        · exact fun o => o.elim
        · intro o2 Ls4 σ4 S4 e4 w4
          have hw : wipe σ4 vs = wipe σ vs := (w4 vs his).trans wipe_idem
          refine ⟨hw, F3, Ls4, ρ3, S4, ?_⟩
          have ev4 : Ev F H Ls F3 H3 Ls4 := (e2.trans e3).trans e4
          have o3 : OutE X.K X.mg D W F H Ls σ Q tmp ((noX (mt ρ3) >>= fun c => if c.1 = true then noX (me c.2) >>= fun y => compM vs b mt me (items.drop (i + 1)) (wipeR y.2 vs) >>= fun r => .ok (frz y.1 :: r.1, r.2)
            else compM vs b mt me (items.drop (i + 1)) (wipeR c.2 vs)) >>= fun r => .ok (.lst true (acc ++ r.1), restR ρ1 r.2 vs)) := o2
          have sC : Ob H2 C := ⟨_, c2, True.intro⟩
          -- what is kept of C through an evolution from (F2, H2, Ls2)
          have atC : ∀ {F' H' : Hp} {Ls' : Lb}, Ev F2 H2 Ls2 F' H' Ls' → H' C = some (.lst us) ∧ F' C = none ∧ ∀ j, Ls' j C = none := fun {F' H' Ls'} ev => by
            refine ⟨ev.frame C _ c2 True.intro u2, ?_, ev.un sC u2⟩
            cases q : F' C with
            | none => rfl
            | some v =>
              rcases ev.fnew C (by rw [q]; simp) with z | ⟨j, z⟩ | z
              · exact absurd n2 z
              · rw [u2 j] at z; cases z
              · exact absurd sC z
          revert o3
          rcases mt ρ3 with er | ⟨c, ρ4⟩
          · exact fun o => o.elim
          · intro o4 F5 H5 Ls5 S5 e5
            have ev5 := (e3.trans e4).trans e5
            have wS : ∀ {F' H' : Hp} {Ls' : Lb} {ρ' : Rho}, SA X.K X.mg D F' H' Ls' σ4 ρ' → SA X.K X.mg D F' H' Ls' (wipe σ vs) (wipeR ρ' vs) := fun {F' H' Ls' ρ'} S => by
              have q := S.wipe hd
              rw [hw] at q
              exact q
            cases c with
            | false =>
              refine iteF ?_
              obtain ⟨k1, k2, k3⟩ := atC ev5
              exact ⟨F5, Ls5, wipeR ρ4 vs, acc, us, wS S5, s2.trans ev5.mono, ev4.trans e5, k1, f2.mono ev5.mono _ _, by omega, k2, k3, o4⟩
            | true =>
              refine iteT ⟨F5, Ls5, ρ4, S5, ?_⟩
              have o5 : OutE X.K X.mg D W F H Ls σ Q tmp ((noX (me ρ4) >>= fun y => compM vs b mt me (items.drop (i + 1)) (wipeR y.2 vs) >>= fun r => .ok (frz y.1 :: r.1, r.2)) >>= fun r => .ok (.lst true (acc ++ r.1), restR ρ1 r.2 vs)) := o4
              revert o5
              rcases me ρ4 with er | ⟨p, ρ6⟩
              · exact fun o => o.elim
              · intro o6 F7 H7 Ls7 L7 v S7 e7 V7 t7
                have T7 := t7 rfl
                have ev7 := (ev5.trans e7).takeT (T7.back ev5)
                obtain ⟨k1, k2, k3⟩ := atC ev7
                have S8 := wS (S7.takeT T7)
                have hl : us.length = acc.length := f2.length.symm
                refine ⟨us, k1, by omega, take F7 H7 L7, Ls7, wipeR ρ6 vs, acc ++ [frz p], us ++ [v], S8.free True.intro ⟨_, k1, True.intro⟩ k2 k3, s2.trans ev7.mono, (e2.trans ev7).free True.intro ⟨_, k1, True.intro⟩ hC0, upd_same, (f2.mono ev7.mono _ _).append (by simp only [FzL]; exact ⟨v, [], rfl, V7.freeze T7.sub [] p v, rfl⟩), by simp; omega, k2, k3, ?_⟩
                have o7 : OutE X.K X.mg D W F H Ls σ Q tmp ((compM vs b mt me (items.drop (i + 1)) (wipeR ρ6 vs) >>= fun r => .ok (frz p :: r.1, r.2)) >>= fun r => .ok (.lst true (acc ++ r.1), restR ρ1 r.2 vs)) := o6
                revert o7
                rcases compM vs b mt me (items.drop (i + 1)) (wipeR ρ6 vs) with er | r
                · exact fun o => o
                · intro o
                  have e : acc ++ frz p :: r.1 = acc ++ [frz p] ++ r.1 := by simp
                  show OutE X.K X.mg D W F H Ls σ Q tmp (.ok (.lst true (acc ++ [frz p] ++ r.1), restR ρ1 r.2 vs))
                  rw [← e]
                  exact o
      · have e : i = items.length := by omega
        subst e
        rw [List.drop_length] at o2
        have o3 : OutE X.K X.mg D W F H Ls σ Q tmp (.ok (.lst true (acc ++ []), restR ρ1 ρ2 vs)) := o2
        rw [List.append_nil] at o3
        refine .inl ⟨ik.stops H2 (s2.trans S2.sub), o3 F2 H2 (dropLs Ls2 vs) (fun a => if a = C then some [] else none) (.ref C) (S1.unwipe S2 s2) e2.dropLs ?_ fun _ a ha => ?_⟩
        · simp only [Val]
          exact ⟨C, us, rfl, by simp only [if_true]; exact ⟨trivial, c2, f2.valL⟩⟩
        · have e : a = C := by
            by_cases h : a = C
            · exact h
            · have ha : (if a = C then some [] else none : Option (List Nat)).isSome = true := ha
              rw [if_neg h] at ha
              cases ha
          subst e
          refine ⟨hC0, n2, fun j => ?_, ⟨_, c2, True.intro⟩⟩
          unfold dropLs
          split
          · rfl
          · exact u2 j
    · rw [if_neg hz] at o
      exact o.elim
theorem de_comp (hc : X.calm = true) (hN : X.N.Nodup) (hd : D.io = none ∨ 0 ∉ own.map (·.2)) (his : ∀ i ∈ is, i ∈ own.map (·.2)) (hi : DI X D W tg iter it) (ok : BlkOk X.N X.env.scope scope own)
    (hg : ∀ (s : Shared) (H : Hp) (C : Addr) (cl : List (Str × Addr)) (fp : List Addr), DG (X.blk s H scope (compEnvC scope cl C X.env) fp) D tg is b) (ht : ∀ (s : Shared) (H : Hp) (C : Addr) (cl : List (Str × Addr)) (fp : List Addr), DTs (X.blk s H scope (compEnvC scope cl C X.env) fp) D W0 ifs mt)
    (he : ∀ (s : Shared) (H : Hp) (C : Addr) (cl : List (Str × Addr)) (fp : List Addr), DM (X.blk s H scope (compEnvC scope cl C X.env) fp) D W0 elt me) (hs : ∀ x, foldedSetIterable iter X.env x = pure x := by intro _; rfl) :
    DE' tmp X D W (.ListComp elt [⟨tg, iter, ifs, 0⟩] scope pos) (eComp (own.map (·.2)) it b mt me) := by
  obtain ⟨wi, pi, si⟩ := hi
  exact ⟨_, pe_lc (g := canG X.K X.mg D is b) (tt := canT X.K X.mg D W0 mt) (te := canE X.K X.mg D W0 true me) hc hN pi ok (fun s H C cl fp => (hg s H C cl fp).can) (fun s H C cl fp => ht s H C cl fp) (fun s H C cl fp => (he s H C cl fp).can) hs, fun F H Ls σ ρ Q S o => comp_spec hd his si S o⟩
theorem ds_setComp {i : Nat} {y : Str} {py spos : Pos} (hx : Lc X D i y) (hyl : X.env.scope.names.lookup y = some .local) (hsw : swapsWith (.ListComp elt [⟨tg, iter, ifs, 0⟩] scope pos) (some (.Name y py)) spos.line X.env = pure true)
    (hc : X.calm = true) (hd : D.io = none ∨ 0 ∉ own.map (·.2)) (his : ∀ i ∈ is, i ∈ own.map (·.2)) (hi : DI X D W tg iter it) (ok : BlkOk X.N X.env.scope scope own)
    (hg : ∀ (s : Shared) (H : Hp) (C : Addr) (cl : List (Str × Addr)) (fp : List Addr), DG (X.blk s H scope (compEnvC scope cl C X.env) fp) D tg is b) (ht : ∀ (s : Shared) (H : Hp) (C : Addr) (cl : List (Str × Addr)) (fp : List Addr), DTs (X.blk s H scope (compEnvC scope cl C X.env) fp) D W0 ifs mt)
    (he : ∀ (s : Shared) (H : Hp) (C : Addr) (cl : List (Str × Addr)) (fp : List Addr), DM (X.blk s H scope (compEnvC scope cl C X.env) fp) D W0 elt me) (hs : ∀ x, foldedSetIterable iter X.env x = pure x := by intro _; rfl) :
    DS X D W (.Assign [.Name y py] (.ListComp elt [⟨tg, iter, ifs, 0⟩] scope pos) spos) (sSet i (eComp (own.map (·.2)) it b mt me)) := by
  obtain ⟨wi, pi, si⟩ := hi
  refine ⟨_, ps_setLc (g := canG X.K X.mg D is b) (tt := canT X.K X.mg D W0 mt) (te := canE X.K X.mg D W0 true me) hc hx.nd hx.at_ hyl hsw pi ok (fun s H C cl fp => (hg s H C cl fp).can) (fun s H C cl fp => ht s H C cl fp) (fun s H C cl fp => (he s H C cl fp).can) hs, fun F H Ls σ ρ N S o => ?_⟩
  refine comp_spec (tmp := true) hd his si S ?_
  revert o
  unfold sSet
  generalize eComp (own.map (·.2)) it b mt me ρ = z
  rcases z with (⟨c, f, pl⟩ | _) | ⟨p, ρ1⟩
  · exact fun o => o σ
  · exact fun o => o
  · exact fun o F1 H1 Ls1 L v S1 e1 V1 t1 => o F1 H1 (setL Ls1 i L) (σ.set i (some v)) (S1.store V1 (t1 rfl).lone hx.io) (e1.store fun b hb => (t1 rfl b hb).1)
end
end PX
set_option Elab.async false
set_option linter.all false
set_option maxRecDepth 100000
set_option maxHeartbeats 3900000
namespace PX
open PySem L2
variable [HasT]

/-! ### what a
    def promises -/
section
variable (K : Frag) (mg : Mg)
def OutXF (F H : Hp) (Ls : Lb) (E : XK) (c f : Str) (pl : PV) : Prop := ∀ F' H' C d v, FS F' H' → Ev F H Ls F' H' noB → mg c = some (.ref C) → H' d = some (.xd [(f, v)]) → Fz K mg F' pl v → E (.ref C) (some d) H'
def OutF (F H : Hp) (Q : VK) (E : XK) : R PV → Prop
  | .ok r => ∀ F' H' L v, FS F' H' → Ev F H noB F' H' noB → Val K mg F' H' L [] r v → Tmp F' H' noB L H → Q v H'
  | .error (.exc c f pl) => OutXF K mg F H noB E c f pl
  | .error .stuck => False
def spD (n : Nat) (den : List PV → R PV) : Sp := fun vs H Q E => vs.length = n ∧ LamX.Tabs HasT.T H ∧ ∃ F ps, FS F H ∧ FzL K mg F ps vs ∧ OutF K mg F H Q E (den ps)
def oneL (L : LM) : Lb := fun i => if i = 0 then L else noL
def OwnL (F H : Hp) (L : LM) : Prop := ∀ b, (L b).isSome = true → F b = none ∧ Ob H b
def OutFIO (F H : Hp) (L0 : LM) (a : Addr) (Q : VK) (E : XK) : R (PV × PV) → Prop
  | .ok (r, p') => ∀ F' H' L' L v, FS F' H' → Ev F H (oneL L0) F' H' (oneL L') → Val K mg F' H' L' [] p' (.ref a) → OwnL F' H' L' → Val K mg F' H' L [] r v → Tmp F' H' (oneL L') L H → Q v H'
  | .error (.exc c f pl) => OutXF K mg F H (oneL L0) E c f pl
  | .error .stuck => False
/-- the first argument is the caller's own and may be changed -/
def spIO (n : Nat) (den : PV → List PV → R (PV × PV)) : Sp := fun vs H Q E => vs.length = n ∧ LamX.Tabs HasT.T H ∧ ∃ F L0 a p0 ps vr, vs = .ref a :: vr ∧ FS F H ∧ Val K mg F H L0 [] p0 (.ref a) ∧ OwnL F H L0 ∧ FzL K mg F ps vr ∧ OutFIO K mg F H L0 a Q E (den p0 ps)
end
def startR (n : Nat) (as : List PV) : Rho := as.map some ++ List.replicate (n - as.length) none
def fin : R (Fl × Rho) → R PV
  | .ok (.nx, _) => .ok .non
  | .ok (.rt p, _) => .ok p
  | .ok _ => .error .stuck
  | .error e => .error e
def isOwn : PV → Bool
  | .lst o _ => o
  | .ins o _ _ _ => o
  | .dK o _ _ => o
  | .dT o _ _ => o
  | _ => false
def finIO : R (Fl × Rho) → R (PV × PV)
  | .ok (.nx, ρ) => match ρ[0]? with
    | some (some p) => if isOwn p = true then .ok (.non, p) else .error .stuck
    | _ => .error .stuck
  | .ok (.rt r, ρ) => match ρ[0]? with
    | some (some p) => if isOwn p = true then .ok (r, p) else .error .stuck
    | _ => .error .stuck
  | .ok _ => .error .stuck
  | .error e => .error e
section
variable {K : Frag} {mg : Mg} {F H : Hp}
theorem start_get {n : Nat} {vs : List V} {N : List Str} {i : Nat} {v : V} (h : vs[i]? = some v) : (L2.start N vs)[i]? = some (some v) := by
  unfold L2.start
  rw [List.getElem?_append_left (by have := (List.getElem?_eq_some_iff.mp h).1; simpa using this), List.getElem?_map, h]
  rfl
theorem startR_get {n : Nat} {as : List PV} {i : Nat} {p : PV} (h : (startR n as)[i]? = some (some p)) : as[i]? = some p := by
  unfold startR at h
  by_cases hi : i < as.length
  · rw [List.getElem?_append_left (by simpa using hi), List.getElem?_map] at h
    cases q : as[i]? with
    | none => rw [q] at h; cases h
    | some r => rw [q] at h; cases h; rfl
  · rw [List.getElem?_append_right (by simpa using hi), List.getElem?_replicate] at h
    split at h <;> cases h
theorem startSA {N : List Str} {as : List PV} {vs : List V} (s : FS F H) (tb : LamX.Tabs HasT.T H) (f : FzL K mg F as vs) (hl : vs.length ≤ N.length) : SA K mg ⟨none⟩ F H noB (L2.start N vs) (startR N.length as) where
  sub := s.sub
  fob := s.ob
  tab := tb
  len := by simp [startR, L2.start, f.length]
  slot := fun i p e => by
    obtain ⟨v, hv, g⟩ := f.get (startR_get e)
    exact ⟨v, start_get (n := 0) hv, g.val⟩
  own := fun i a h => by cases h
  dis := fun i j a h => by cases h
  io := fun a h => by cases h
theorem startSAIO {N : List Str} {L0 : LM} {a : Addr} {p0 : PV} {as : List PV} {vs : List V} (s : FS F H) (tb : LamX.Tabs HasT.T H) (h0 : Val K mg F H L0 [] p0 (.ref a)) (w : OwnL F H L0) (f : FzL K mg F as vs) (hl : vs.length + 1 ≤ N.length) : SA K mg ⟨some a⟩ F H (oneL L0) (L2.start N (.ref a :: vs)) (startR N.length (p0 :: as)) where
  sub := s.sub
  fob := s.ob
  tab := tb
  len := by simp [startR, L2.start, f.length]
  slot := fun i p e => by
    cases i with
    | zero =>
      have e := startR_get e
      cases e
      exact ⟨.ref a, start_get (n := 0) rfl, h0⟩
    | succ i =>
      have e := startR_get e
      have e : as[i]? = some p := e
      obtain ⟨v, hv, g⟩ := f.get e
      exact ⟨v, start_get (n := 0) (by simpa using hv), g.val⟩
  own := fun i b h => by
    unfold oneL at h
    split at h
    · exact w b h
    · cases h
  dis := fun i j b h1 h2 => by
    unfold oneL at h1 h2
    split at h1
    · split at h2
      · rename_i x y; rw [x, y]
      · cases h2
    · cases h1
  io := fun b h => by cases h; exact start_get (n := 0) rfl
end
/-- where a def stands, and what it keeps -/
structure Cal (P : Program) (w : World) (K : Frag) (mg : Mg) (base : Heap) (x : Str) (k n : Nat) (den : List PV → R PV) : Prop where
  ex : ∃ f fd ps, FnOk P w K mg base (L2.CX P w) k f fd ps (spD K mg n den) ∧ mg x = some (.ref f) ∧ PySem.W.keepIn K (.ref f) = true ∧ Binds K fd ps []
structure CalIO (P : Program) (w : World) (K : Frag) (mg : Mg) (base : Heap) (x : Str) (k n : Nat) (den : PV → List PV → R (PV × PV)) : Prop where
  ex : ∃ f fd ps, FnOk P w K mg base (L2.CX P w) k f fd ps (spIO K mg n den) ∧ mg x = some (.ref f) ∧ PySem.W.keepIn K (.ref f) = true ∧ Binds K fd ps []
/-- a method of
    the class at C -/
structure CalM (P : Program) (w : World) (K : Frag) (mg : Mg) (base : Heap) (C : Addr) (x : Str) (k n : Nat) (den : List PV → R PV) : Prop where
  ex : ∃ f fd ps, FnOk P w K mg base (L2.CX P w) k f fd ps (spD K mg n den) ∧ Meth K C x f ∧ Binds K fd ps []
structure CalMIO (P : Program) (w : World) (K : Frag) (mg : Mg) (base : Heap) (C : Addr) (x : Str) (k n : Nat) (den : PV → List PV → R (PV × PV)) : Prop where
  ex : ∃ f fd ps, FnOk P w K mg base (L2.CX P w) k f fd ps (spIO K mg n den) ∧ Meth K C x f ∧ Binds K fd ps []
section
variable {P : Program} {w : World} {K : Frag} {mg : Mg} {base : Heap}
/-- what is wanted of exceptions in a def's body -/
abbrev wOf (E : XK) : WX := fun cls d _ H => E cls d H
theorem fun_okC {x qual : Str} {st : Stmt} {f : Addr} {fd : FuncData} {N ps : List Str} {k : Nat} {sp : Sp} (F : Fun K x qual st f fd) (S : FnScope N ps (defScope st)) (len : ∀ vs H Q E, sp vs H Q E → vs.length = ps.length)
    (hbody : ∀ (cdv : Value) (A : Around) (outer : List Env) (s : Shared) (H : Hp) (vs : List V) (Q : VK) (E : XK), fd.code = cdv → Room k (A.deeper (PyProof.Rows.envOfC qual (defScope st) s.heap.objs.size f cdv)) → sp vs H Q E →
      ∃ t, PSs (cxOf (L2.CX P w) P w K mg base N qual (defScope st) f cdv A outer s H E) (defBody st) t ∧ t { nx := fun _ H' => Q .non H', rt := Q } (L2.start N vs) H) : FnOk P w K mg base (L2.CX P w) (k + 1) f fd ps sp := by
  obtain ⟨oc, od, kV, doc, pm, an, cdv, ct, osl, hfd, lk, hcd⟩ := F.ex
  subst hfd
  exact fn_of lk hcd S len fun A outer s H vs Q E hr hsp => hbody cdv A outer s H vs Q E rfl hr hsp
theorem fn_D {x qual : Str} {st : Stmt} {f : Addr} {fd : FuncData} {N ps : List Str} {k : Nat} {m : MS} (F : Fun K x qual st f fd) (S : FnScope N ps (defScope st))
    (body : ∀ (cdv : Value) (A : Around) (outer : List Env) (s : Shared) (H : Hp) (E : XK), fd.code = cdv → Room k (A.deeper (PyProof.Rows.envOfC qual (defScope st) s.heap.objs.size f cdv)) → DB (cxOf (L2.CX P w) P w K mg base N qual (defScope st) f cdv A outer s H E) ⟨none⟩ (wOf E) (defBody st) m) :
    FnOk P w K mg base (L2.CX P w) (k + 1) f fd ps (spD K mg ps.length fun as => fin (m (startR N.length as))) := by
  refine fun_okC F S (fun vs H Q E h => h.1) (fun cdv A outer s H vs Q E hcode hr h => ?_)
  obtain ⟨hl, tb0, F0, as, s0, f0, o⟩ := h
  obtain ⟨t, hp, hs⟩ := body cdv A outer s H E hcode hr
  refine ⟨t, hp, ?_⟩
  have hN : ps.length ≤ N.length := by have q := congrArg List.length S.pre; rw [List.length_take] at q; omega
  have S0 : SA K mg ⟨none⟩ F0 H noB (L2.start N vs) (startR N.length as) := startSA s0 tb0 f0 (by rw [hl]; exact hN)
  refine hs F0 H noB (L2.start N vs) (startR N.length as) { nx := fun _ H' => Q .non H', rt := Q } S0 ?_
  revert o
  show OutF K mg F0 H Q E (fin (m (startR N.length as))) → OutS K mg ⟨none⟩ (wOf E) F0 H noB { nx := fun _ H' => Q .non H', rt := Q } (m (startR N.length as))
  have back : ∀ {F' H' : Hp} {Ls' : Lb}, Ev F0 H noB F' H' Ls' → Ev F0 H noB F' H' noB := fun {F' H' Ls'} e => ⟨e.mono, e.frame, e.fnew, (fun i b h => by cases h), e.obs, e.tabs⟩
  rcases m (startR N.length as) with (⟨c, f, pl⟩ | _) | ⟨fl, ρ'⟩
  · exact fun o σ' F' H' C d v s e => o F' H' C d v s e
  · exact fun o => o
  · cases fl with
    | nx => exact fun o F' H' Ls' σ' S' e' => o F' H' noL .non S'.fs (back e') (by simp [Val]) Tmp.no
    | bk => exact fun o => o.elim
    | ct => exact fun o => o.elim
    | rt p => exact fun o F' H' Ls' σ' L v S' e' V' T' => o F' H' L v S'.fs (back e') V' fun b h => ⟨(T' b h).1, (T' b h).2.1, fun _ => rfl, (T' b h).2.2.2⟩
theorem fn_IO {x qual : Str} {st : Stmt} {f : Addr} {fd : FuncData} {N ps : List Str} {k : Nat} {m : MS} (F : Fun K x qual st f fd) (S : FnScope N ps (defScope st))
    (body : ∀ (a : Addr) (cdv : Value) (A : Around) (outer : List Env) (s : Shared) (H : Hp) (E : XK), fd.code = cdv → Room k (A.deeper (PyProof.Rows.envOfC qual (defScope st) s.heap.objs.size f cdv)) → DB (cxOf (L2.CX P w) P w K mg base N qual (defScope st) f cdv A outer s H E) ⟨some a⟩ (wOf E) (defBody st) m) :
    FnOk P w K mg base (L2.CX P w) (k + 1) f fd ps (spIO K mg ps.length fun p as => finIO (m (startR N.length (p :: as)))) := by
  refine fun_okC F S (fun vs H Q E h => h.1) (fun cdv A outer s H vs Q E hcode hr h => ?_)
  obtain ⟨hl, tb0, F0, L0, a, p0, as, vr, rfl, s0, h0, w0, f0, o⟩ := h
  obtain ⟨t, hp, hs⟩ := body a cdv A outer s H E hcode hr
  refine ⟨t, hp, ?_⟩
  have hN : ps.length ≤ N.length := by have q := congrArg List.length S.pre; rw [List.length_take] at q; omega
  have S0 : SA K mg ⟨some a⟩ F0 H (oneL L0) (L2.start N (.ref a :: vr)) (startR N.length (p0 :: as)) := startSAIO s0 tb0 h0 w0 f0 (by rw [← hl] at hN; exact hN)
  refine hs F0 H (oneL L0) _ _ { nx := fun _ H' => Q .non H', rt := Q } S0 ?_
  revert o
  show OutFIO K mg F0 H L0 a Q E (finIO (m (startR N.length (p0 :: as)))) → OutS K mg ⟨some a⟩ (wOf E) F0 H (oneL L0) { nx := fun _ H' => Q .non H', rt := Q } (m (startR N.length (p0 :: as)))
  have back : ∀ {F' H' : Hp} {Ls' : Lb}, Ev F0 H (oneL L0) F' H' Ls' → Ev F0 H (oneL L0) F' H' (oneL (Ls' 0)) := fun {F' H' Ls'} e => ⟨e.mono, e.frame, e.fnew, (fun i b h => by
    unfold oneL at h
    split at h
    · exact e.lnew 0 b h
    · cases h), e.obs, e.tabs⟩
  have own : ∀ {F' H' : Hp} {Ls' : Lb} {σ' : St} {ρ' : Rho}, SA K mg ⟨some a⟩ F' H' Ls' σ' ρ' → OwnL F' H' (Ls' 0) := fun {F' H' Ls' σ' ρ'} S b h => S.own 0 b h
  have at0 : ∀ {F' H' : Hp} {Ls' : Lb} {σ' : St} {ρ' : Rho} {p : PV}, SA K mg ⟨some a⟩ F' H' Ls' σ' ρ' → ρ'[0]? = some (some p) → Val K mg F' H' (Ls' 0) [] p (.ref a) := fun {F' H' Ls' σ' ρ' p} S e => by
    obtain ⟨v, e1, h⟩ := S.slot 0 p e
    rw [S.io a rfl] at e1
    cases e1
    exact h
  rcases m (startR N.length (p0 :: as)) with (⟨c, f, pl⟩ | _) | ⟨fl, ρ'⟩
  · exact fun o σ' F' H' C d v s e => o F' H' C d v s e
  · exact fun o => o
  · cases fl with
    | nx =>
      unfold finIO
      dsimp only
      split
      · rename_i p ep
        split
        · exact fun o F' H' Ls' σ' S' e' => o F' H' (Ls' 0) noL .non S'.fs (back e') (at0 S' ep) (own S') (by simp [Val]) Tmp.no
        · exact fun o => o.elim
      · exact fun o => o.elim
    | bk => exact fun o => o.elim
    | ct => exact fun o => o.elim
    | rt r =>
      unfold finIO
      dsimp only
      split
      · rename_i p ep
        split
        · exact fun o F' H' Ls' σ' L v S' e' V' T' => o F' H' (Ls' 0) L v S'.fs (back e') (at0 S' ep) (own S') V' fun b h => ⟨(T' b h).1, (T' b h).2.1, fun i => by
            unfold oneL
            split
            · exact (T' b h).2.2.1 0
            · rfl, (T' b h).2.2.2⟩
        · exact fun o => o.elim
      · exact fun o => o.elim
end

/-! ### calls -/
def eCall0 (den : List PV → R PV) : ME := fun ρ => den [] >>= fun r => .ok (r, ρ)
def eCall (den : List PV → R PV) (n : Nat) (m : MA) : ME := fun ρ => m ρ >>= fun a => if a.1.length = n then den a.1 >>= fun r => .ok (r, a.2) else .error .stuck
section
variable {K : Frag} {mg : Mg} {D : DX} {W : WX} {F H F' H' : Hp} {Ls : Lb} {σ : St} {ρ : Rho}
/-- a callee that leaves all that stood -/
theorem Ev.ofCall (S : SA K mg D F H Ls σ ρ) (e : Ev F H noB F' H' noB) : Ev F H Ls F' H' Ls :=
  ⟨e.mono, fun b o h n _ => e.frame b o h n fun _ => rfl, fun b h => by
    rcases e.fnew b h with z | ⟨i, z⟩ | z
    · exact .inl z
    · cases z
    · exact .inr (.inr z), fun i b h => .inl ⟨i, h⟩, e.obs, e.tabs⟩
theorem SA.ofCall (S : SA K mg D F H Ls σ ρ) (s : FS F' H') (e : Ev F H noB F' H' noB) : SA K mg D F' H' Ls σ ρ where
  sub := s.sub
  fob := s.ob
  tab := e.tabs S.tab
  len := S.len
  slot := fun i p q => by
    obtain ⟨v, e1, h⟩ := S.slot i p q
    refine ⟨v, e1, h.frame e.mono [] p v fun b u => ?_⟩
    obtain ⟨r, hr⟩ := u
    obtain ⟨o, ho, n⟩ := (S.own i b (by rw [hr]; rfl)).2
    rw [ho]
    exact e.frame b o ho n fun _ => rfl
  own := fun i b h => by
    obtain ⟨h1, h2⟩ := S.own i b h
    refine ⟨?_, e.obs b h2⟩
    cases q : F' b with
    | none => rfl
    | some o =>
      rcases e.fnew b (by rw [q]; simp) with z | ⟨i, z⟩ | z
      · exact absurd h1 z
      · cases z
      · exact absurd h2 z
  dis := S.dis
  io := S.io
theorem Tmp.ofCall {L : LM} (S : SA K mg D F H Ls σ ρ) (t : Tmp F' H' noB L H) : Tmp F' H' Ls L H := fun b h => ⟨(t b h).1, (t b h).2.1, fun i => S.nl' (t b h).1 i, (t b h).2.2.2⟩
theorem call_out {Q : VK} {tmp : Bool} {r : R PV} (S : SA K mg D F H Ls σ ρ) (o : OutE K mg D W F H Ls σ Q tmp (r >>= fun z => .ok (z, ρ))) : OutF K mg F H Q (WE W σ) r := by
  revert o
  rcases r with (⟨c, f, pl⟩ | _) | z
  · exact fun o F' H' C d v s e => o F' H' C d v s ⟨(Ev.ofCall S e).mono, (Ev.ofCall S e).frame, (Ev.ofCall S e).fnew, (fun i b h => by cases h), e.obs, e.tabs⟩
  · exact fun o => o
  · exact fun o F' H' L v s e V t => o F' H' Ls L v (S.ofCall s e) (Ev.ofCall S e) V fun _ => t.ofCall S
end
section
variable {X : Cx} {D : DX} {W : WX} {x : Str} {k n : Nat} {den : List PV → R PV} {p pos : Pos} {e : Expr} {es : List Expr} {m : MA} {tmp : Bool}
theorem de_call (c : Cal X.prog X.w X.K X.mg X.base x k n den) (tk : Takes X W) (hr : Room k X.A) (hg : Gl X x) (h : DA X D W (e :: es) m)
    (hdb : (x == ("__debug__" : Str)) = false := by decide) (he : starEach (e :: es) X.env = (false, eval e
        X.env) :: starEach es X.env := by rfl) (hpl : (backTo pos (starEach es X.env)).any (·.1) = false := by rfl) :
    DE' tmp X D W (.Call (.Name x p) (e :: es) [] pos) (eCall den n m) := by
  obtain ⟨f, fd, ps, Fn, hm, hk, hb⟩ := c.ex
  obtain ⟨t, hp, hs⟩ := h
  refine ⟨_, pe_callS Fn hr hg hm hk hb (fun σ => passAt tk σ) hp hdb he hpl, fun F H Ls σ ρ Q S o => hs F H Ls σ ρ _ S (aE o fun as ρ1 F1 H1 Ls1 vs S1 e1 V1 o1 => ?_)⟩
  dsimp only at o1
  split at o1
  · rename_i hn
    exact ⟨by rw [← V1.length]; exact hn, S1.tab, F1, as, S1.fs, V1, call_out S1 o1⟩
  · exact o1.elim
theorem pe_callS0 {E : St → XK} {f : Addr} {fd : FuncData} {ps : List Str} {sp : Sp} {CX : CXT} (F : FnOk X.prog X.w X.K X.mg X.base CX k f fd ps sp) (hr : Room k X.A) (hg : Gl X x) (hm : X.mg x = some (.ref f)) (hk : PySem.W.keepIn X.K (.ref f) = true) (hb : Binds X.K fd ps []) (hx : ∀ σ, PassesAt CX X σ (E σ))
    (hdb : (x == ("__debug__" : Str)) = false := by decide) : PE X (.Call (.Name x p) [] [] pos) (fun σ H Q => sp [] H Q (E σ)) := by
  refine ⟨fun pins s
      σ H Q I h => ?_⟩
  exact wpAny_Call_Name_kw (ld_glob I hg hm (PySem.W.callWith_K0 I.kIn hk (run_fnS (us := []) F hr hb (hx σ) I .nil h)) hdb)
theorem de_call0 (c : Cal X.prog X.w X.K X.mg X.base x k 0 den) (tk : Takes X W) (hr : Room k X.A) (hg : Gl X x) (hdb : (x == ("__debug__" : Str)) = false := by decide) :
    DE' tmp X D W (.Call (.Name x p) [] [] pos) (eCall0 den) := by
  obtain ⟨f, fd, ps, Fn, hm, hk, hb⟩ := c.ex
  exact ⟨_, pe_callS0 Fn hr hg hm hk hb (fun σ => passAt tk σ) hdb, fun F H Ls σ ρ Q S o => ⟨rfl, S.tab, F, [], S.fs, by simp [FzL], call_out S o⟩⟩
end

/-! ### calls that change their first argument -/
theorem Val.ownRef {K : Frag} {mg : Mg} {F H : Hp} {L : LM} {w : List Nat} {p : PV} {v : V} (h : Val K mg F H L w p v) (o : isOwn p = true) : ∃ a, v = .ref a := by
  cases p with
  | lst b xs => simp only [Val] at h; obtain ⟨a, vs, rfl, _⟩ := h; exact ⟨a, rfl⟩
  | ins b c fs xs => simp only [Val] at h; obtain ⟨a, C, dx, vs, rfl, _⟩ := h; exact ⟨a, rfl⟩
  | dK b ks xs => simp only [Val] at h; obtain ⟨a, vs, rfl, _⟩ := h; exact ⟨a, rfl⟩
  | dT b ks xs => simp only [Val] at h; obtain ⟨a, vs, rfl, _⟩ := h; exact ⟨a, rfl⟩
  | _ => cases o
section
variable {K : Frag} {mg : Mg} {D : DX} {W : WX} {F H F' H' : Hp} {Ls : Lb} {σ : St} {ρ : Rho} {i : Nat} {L' : LM} {a : Addr} {p p' : PV}
theorem Ev.ofIO (S : SA K mg D F H Ls σ ρ) (e : Ev F H (oneL (Ls i)) F' H' (oneL L')) : Ev F H Ls F' H' (setL Ls i L') where
  mono := e.mono
  obs := e.obs
  tabs := e.tabs
  frame := fun b o h n u => e.frame b o h n fun j => by
    unfold oneL
    split
    · exact u i
    · rfl
  fnew := fun b h => by
    rcases e.fnew b h with z | ⟨j, z⟩ | z
    · exact .inl z
    · unfold oneL at z
      split at z
      · exact .inr (.inl ⟨i, z⟩)
      · cases z
    · exact .inr (.inr z)
  lnew := fun j b h => by
    by_cases hj : j = i
    · rw [hj, setL_self] at h
      rcases e.lnew 0 b (by unfold oneL; rw [if_pos rfl]; exact h) with ⟨l, z⟩ | z
      · unfold oneL at z
        split at z
        · exact .inl ⟨i, z⟩
        · cases z
      · exact .inr z
    · rw [setL_ne hj] at h
      exact .inl ⟨j, h⟩
theorem SA.ofIO (S : SA K mg D F H Ls σ ρ) (he : σ[i]? = some (some (.ref a))) (s : FS F' H') (e : Ev F H (oneL (Ls i)) F' H' (oneL L')) (hv : Val K mg F' H' L' [] p' (.ref a)) (w : OwnL F' H' L') : SA K mg D F' H' (setL Ls i L') σ (ρ.set i (some p')) := by
  have other : ∀ {j b}, j ≠ i → (Ls j b).isSome = true → (∀ k, oneL (Ls i) k b = none) ∧ Ob H b ∧ F b = none := fun {j b} hj h => by
    refine ⟨fun k => ?_, (S.own j b h).2, (S.own j b h).1⟩
    unfold oneL
    split
    · cases q : Ls i b with
      | none => rfl
      | some r => exact absurd (S.dis j i b h (by rw [q]; rfl)) hj
    · rfl
  refine ⟨s.sub, by simp [S.len], fun j q ej => ?_, fun j b h => ?_, fun j k b h1 h2 => ?_, S.io, s.ob, e.tabs S.tab⟩
  · by_cases hj : i = j
    · subst hj
      have hl : i < ρ.length := by have := (List.getElem?_eq_some_iff.mp ej).1; simpa using this
      rw [List.getElem?_set_self hl] at ej
      cases ej
      exact ⟨_, he, by rw [setL_self]; exact hv⟩
    · rw [List.getElem?_set_ne hj] at ej
      obtain ⟨v, e1, h⟩ := S.slot j q ej
      refine ⟨v, e1, ?_⟩
      rw [setL_ne (Ne.symm hj)]
      refine h.frame e.mono [] q v fun b u => ?_
      obtain ⟨r, hr⟩ := u
      obtain ⟨u1, ⟨o, q, n⟩, _⟩ := other (b := b) (Ne.symm hj) (by rw [hr]; rfl)
      rw [q]
      exact e.frame b o q n u1
  · by_cases hj : j = i
    · rw [hj, setL_self] at h
      exact w b h
    · rw [setL_ne hj] at h
      obtain ⟨u1, u2, u3⟩ := other hj h
      refine ⟨?_, e.obs b u2⟩
      cases q : F' b with
      | none => rfl
      | some o =>
        rcases e.fnew b (by rw [q]; simp) with z | ⟨l, z⟩ | z
        · exact absurd u3 z
        · rw [u1 l] at z; cases z
        · exact absurd u2 z
  · have cross : ∀ {j b}, j ≠ i → (L' b).isSome = true → (Ls j b).isSome = true → False := fun {j b} hj h1 h2 => by
      obtain ⟨u1, u2, u3⟩ := other hj h2
      rcases e.lnew 0 b (by unfold oneL; rw [if_pos rfl]; exact h1) with ⟨l, z⟩ | z
      · rw [u1 l] at z; cases z
      · exact z u2
    by_cases hj : j = i
    · by_cases hk : k = i
      · rw [hj, hk]
      · rw [hj, setL_self] at h1
        rw [setL_ne hk] at h2
        exact (cross hk h1 h2).elim
    · by_cases hk : k = i
      · rw [hk, setL_self] at h2
        rw [setL_ne hj] at h1
        exact (cross hj h2 h1).elim
      · rw [setL_ne hj] at h1
        rw [setL_ne hk] at h2
        exact S.dis j k b h1 h2
theorem io_out {Q : VK} {tmp : Bool} {r : R (PV × PV)} (S : SA K mg D F H Ls σ ρ) (he : σ[i]? = some (some (.ref a))) (o : OutE K mg D W F H Ls σ Q tmp (r >>= fun z => .ok (z.1, ρ.set i (some z.2)))) : OutFIO K mg F H (Ls i) a Q (WE W σ) r := by
  revert o
  rcases r with (⟨c, f, pl⟩ | _) | ⟨z, p'⟩
  · refine fun o F' H' C d v s e => o F' H' C d v s ⟨e.mono, fun b u h n hb => e.frame b u h n fun j => ?_, fun b h => ?_, (fun i b h => by cases h), e.obs, e.tabs⟩
    · unfold oneL
      split
      · exact hb i
      · rfl
    · rcases e.fnew b h with z | ⟨j, z⟩ | z
      · exact .inl z
      · unfold oneL at z
        split at z
        · exact .inr (.inl ⟨i, z⟩)
        · cases z
      · exact .inr (.inr z)
  · exact fun o => o
  · refine fun o F' H' L' L v s e V0 w V t => o F' H' (setL Ls i L') L v (S.ofIO he s e V0 w) (Ev.ofIO S e) V fun _ b h => ⟨(t b h).1, (t b h).2.1, fun j => ?_, (t b h).2.2.2⟩
    by_cases hj : j = i
    · rw [hj, setL_self]
      have := (t b h).2.2.1 0
      unfold oneL at this
      rw [if_pos rfl] at this
      exact this
    · rw [setL_ne hj]
      exact S.nl' (t b h).1 j
end
def eCallIO (den : PV → List PV → R (PV × PV)) (i n : Nat) (m : MA) : ME := fun ρ => match ρ[i]? with
  | some (some _) => m ρ >>= fun a => if a.1.length + 1 = n then match a.2[i]? with
      | some (some p) => if isOwn p = true then den p a.1 >>= fun r => .ok (r.1, a.2.set i (some r.2)) else .error .stuck
      | _ => .error .stuck
    else .error .stuck
  | _ => .error .stuck
/-- the argument is new -/
def eCallT (den : PV → List PV → R (PV × PV)) (n : Nat) (m0 : ME) (m : MA) : ME := fun ρ => m0 ρ >>= fun b => m b.2 >>= fun a => if a.1.length + 1 = n ∧ isOwn b.1 = true then den b.1 a.1 >>= fun r => .ok (r.1, a.2) else .error .stuck
section
variable {X : Cx} {D : DX} {W : WX} {x y : Str} {k n i : Nat} {den : PV → List PV → R (PV × PV)} {p pos py : Pos} {e : Expr} {es : List Expr} {m : MA} {m0 : ME} {tmp : Bool}
theorem de_callIO (c : CalIO X.prog X.w X.K X.mg X.base x k n den) (tk : Takes X W) (hr : Room k X.A) (hg : Gl X x) (hy : Sl X i y) (h : DA X D W es m)
    (hdb : (x == ("__debug__" : Str)) = false := by decide) (he : starEach (.Name y py :: es) X.env = (false, eval (.Name y py) X.env) :: starEach es X.env := by rfl) (hpl : (backTo pos (starEach es X.env)).any (·.1) = false := by rfl) :
    DE' tmp X D W (.Call (.Name x p) (.Name y py :: es) [] pos) (eCallIO den i n m) := by
  obtain ⟨f, fd, ps, Fn, hm, hk, hb⟩ := c.ex
  obtain ⟨t, hp, hs⟩ := h
  refine ⟨_, pe_callS Fn hr hg hm hk hb (fun σ => passAt tk σ) (pa_cons (pe_var hy.1 hy.2.1 hy.2.2.1 hy.2.2.2) hp he) hdb he hpl, fun F H Ls σ ρ Q S o => ?_⟩
  unfold eCallIO at o
  split at o
  · rename_i q eq
    obtain ⟨v, ev, hv⟩ := S.slot i q eq
    refine ⟨v, ev, hs F H Ls σ ρ _ S (aE o fun as ρ1 F1 H1 Ls1 vs S1 e1 V1 o1 => ?_)⟩
    dsimp only at o1
    split at o1
    · rename_i hn
      split at o1
      · rename_i p1 ep
        split at o1
        · rename_i how
          obtain ⟨v1, ev1, hv1⟩ := S1.slot i p1 ep
          rw [ev] at ev1
          cases ev1
          obtain ⟨a, rfl⟩ := hv1.ownRef how
          exact ⟨by rw [List.length_cons, ← V1.length]; exact hn, S1.tab, F1, Ls1 i, a, p1, as, vs, rfl, S1.fs, hv1, fun b hb => S1.own i b hb, V1, io_out S1 ev o1⟩
        · exact o1.elim
      · exact o1.elim
    · exact o1.elim
  · exact o.elim
end
section
variable {K : Frag} {mg : Mg} {D : DX} {W : WX} {F₀ H₀ F H F' H' : Hp} {Ls₀ Ls Lx : Lb} {σ : St} {ρ : Rho} {L0 : LM} {a : Addr}
theorem oneL_some {L : LM} {j : Nat} {b : Addr} (h : (oneL L j b).isSome = true) : (L b).isSome = true := by
  unfold oneL at h
  split at h
  · exact h
  · cases h
theorem oneL_none {L : LM} {b : Addr} (h : L b = none) (j : Nat) : oneL L j b = none := by
  unfold oneL
  split
  · exact h
  · rfl
/-- a call that changes a new object -/
theorem Ev.tmp (S : SA K mg D F H Ls σ ρ) (e1 : Ev F₀ H₀ Ls₀ F H Ls) (t : Tmp F H Ls L0 H₀) (e : Ev F H (oneL L0) F' H' Lx) : Ev F₀ H₀ Ls₀ F' H' Ls where
  mono := e1.mono.trans e.mono
  obs := fun b h => e.obs b (e1.obs b h)
  tabs := fun h => e.tabs (e1.tabs h)
  frame := fun b o h n u => e.frame b o (e1.frame b o h n u) n (oneL_none (by
    cases q : L0 b with
    | none => rfl
    | some r => exact absurd ⟨o, h, n⟩ (t b (by rw [q]; rfl)).1))
  fnew := fun b h => by
    by_cases hn : Ob H₀ b
    rotate_left
    · exact .inr (.inr hn)
    · rcases e.fnew b h with z | ⟨j, z⟩ | z
      · exact e1.fnew b z
      · exact absurd hn (t b (oneL_some z)).1
      · exact absurd (e1.obs b hn) z
  lnew := e1.lnew
theorem SA.tmp (S : SA K mg D F H Ls σ ρ) (t : Tmp F H Ls L0 H₀) (s : FS F' H') (e : Ev F H (oneL L0) F' H' Lx) : SA K mg D F' H' Ls σ ρ := by
  have lone : ∀ {j b}, (Ls j b).isSome = true → L0 b = none := fun {j b} h => by
    cases q : L0 b with
    | none => rfl
    | some u => rw [(t b (by rw [q]; rfl)).2.2.1 j] at h; cases h
  refine ⟨s.sub, S.len, fun i p q => ?_, fun i b h => ⟨?_, e.obs b (S.own i b h).2⟩, S.dis, S.io, s.ob, e.tabs S.tab⟩
  · obtain ⟨v, e1, h⟩ := S.slot i p q
    refine ⟨v, e1, h.frame e.mono [] p v fun b u => ?_⟩
    obtain ⟨r, hr⟩ := u
    have hs : (Ls i b).isSome = true := by rw [hr]; rfl
    obtain ⟨o, q, n⟩ := (S.own i b hs).2
    rw [q]
    exact e.frame b o q n (oneL_none (lone hs))
  · cases q : F' b with
    | none => rfl
    | some o =>
      rcases e.fnew b (by rw [q]; simp) with z | ⟨j, z⟩ | z
      · exact absurd (S.own i b h).1 z
      · have z := oneL_some z
        rw [lone h] at z
        cases z
      · exact absurd (S.own i b h).2 z
theorem tmp_out {Q : VK} {tmp : Bool} {r : R (PV × PV)} (S : SA K mg D F H Ls σ ρ) (e1 : Ev F₀ H₀ Ls₀ F H Ls) (t : Tmp F H Ls L0 H₀) (o : OutE K mg D W F₀ H₀ Ls₀ σ Q tmp (r >>= fun z => .ok (z.1, ρ))) : OutFIO K mg F H L0 a Q (WE W σ) r := by
  revert o
  rcases r with (⟨c, f, pl⟩ | _) | ⟨z1, z2⟩
  · exact fun o F' H' C d v s e => o F' H' C d v s ⟨(Ev.tmp S e1 t e).mono, (Ev.tmp S e1 t e).frame, (Ev.tmp S e1 t e).fnew, (fun i b h => by cases h), (Ev.tmp S e1 t e).obs, (Ev.tmp S e1 t e).tabs⟩
  · exact fun o => o
  · refine fun o F' H' L' L v s e V0 w V t' => o F' H' Ls L v (S.tmp t s e) (Ev.tmp S e1 t e) V fun _ b h => ⟨fun z => (t' b h).1 (e1.obs b z), (t' b h).2.1, fun i => S.nl' (t' b h).1 i, (t' b h).2.2.2⟩
end
section
variable {X : Cx} {D : DX} {W : WX} {x y : Str} {k n i : Nat} {den : PV → List PV → R (PV × PV)} {p pos py : Pos} {e : Expr} {es : List Expr} {m : MA} {m0 : ME} {tmp : Bool}
theorem de_callT (c : CalIO X.prog X.w X.K X.mg X.base x k n den) (tk : Takes X W) (hr : Room k X.A) (hg : Gl X x) (h0 : DM X D W e m0) (h : DA X D W es m)
    (hdb : (x == ("__debug__" : Str)) = false := by decide) (he : starEach (e :: es) X.env = (false, eval e
        X.env) :: starEach es X.env := by rfl) (hpl : (backTo pos (starEach es X.env)).any (·.1) = false := by rfl) :
    DE' tmp X D W (.Call (.Name x p) (e :: es) [] pos) (eCallT den n m0 m) := by
  obtain ⟨f, fd, ps, Fn, hm, hk, hb⟩ := c.ex
  obtain ⟨t0, hp0, hs0⟩ := h0
  obtain ⟨t, hp, hs⟩ := h
  refine ⟨_, pe_callS Fn hr hg hm hk hb (fun σ => passAt tk σ) (pa_cons hp0 hp he) hdb he hpl, fun F H Ls σ ρ Q S o => hs0 F H Ls σ ρ _ S ?_⟩
  revert o
  unfold eCallT
  rcases m0 ρ with (⟨c, f, pl⟩ | _) | ⟨p0, ρ1⟩
  · exact fun o => o
  · exact fun o => o
  · intro o F1 H1 Ls1 L1 x S1 e1 V1 t1
    refine hs F1 H1 Ls1 σ ρ1 _ S1 ?_
    have o : OutE X.K X.mg D W F H Ls σ Q tmp (m ρ1 >>= fun a => if a.1.length + 1 = n ∧ isOwn p0 = true then den p0 a.1 >>= fun r => .ok (r.1, a.2) else .error .stuck) := o
    revert o
    rcases m ρ1 with (⟨c, f, pl⟩ | _) | ⟨as, ρ2⟩
    · exact fun o => OutX.step e1 o
    · exact fun o => o
    · intro o F2 H2 Ls2 vs S2 e2 V2
      have o : OutE X.K X.mg D W F H Ls σ Q tmp (if as.length + 1 = n ∧ isOwn p0 = true then den p0 as >>= fun r => .ok (r.1, ρ2) else .error .stuck) := o
      split at o
      · rename_i hn
        obtain ⟨a, rfl⟩ := V1.ownRef hn.2
        have T := (t1 rfl).later e2 (F := F) (H := H)
        exact ⟨by rw [List.length_cons, ← V2.length]; exact hn.1, S2.tab, F2, L1, a, p0, as, vs, rfl, S2.fs, V1.later (t1 rfl) e2, fun b hb => ⟨(T b hb).2.1, (T b hb).2.2.2⟩, V2, tmp_out S2 (e1.trans e2) T o⟩
      · exact o.elim
end
end PX
set_option Elab.async false
set_option linter.all false
set_option maxRecDepth 100000
set_option maxHeartbeats 3900000
namespace PX
open PySem L2
variable [HasT]

/-! ### built-in functions -/
def eB1 (g : PV → R PV) (m : ME) : ME := fun ρ => m ρ >>= fun a => g a.1 >>= fun z => .ok (z, a.2)
def CB1 (K : Frag) (mg : Mg) (r : List V → Hp → VK → Prop) (g : PV → R PV) : Prop := ∀ (D : DX) (W : WX) (F H : Hp) (Ls : Lb) (σ : St) (ρ : Rho) (Q : VK) (tmp : Bool) (p : PV) (x : V) (L : LM),
  SA K mg D F H Ls σ ρ → Val K mg F H L [] p x → OutE K mg D W F H Ls σ Q tmp (g p >>= fun z => .ok (z, ρ)) → r [x] H Q
def eBA (g : List PV → R PV) (m : MA) : ME := fun ρ => m ρ >>= fun a => g a.1 >>= fun z => .ok (z, a.2)
def CBA (K : Frag) (mg : Mg) (r : List V → Hp → VK → Prop) (g : List PV → R PV) : Prop := ∀ (D : DX) (W : WX) (F H : Hp) (Ls : Lb) (σ : St) (ρ : Rho) (Q : VK) (tmp : Bool) (ps : List PV) (xs : List V),
  SA K mg D F H Ls σ ρ → FzL K mg F ps xs → OutE K mg D W F H Ls σ Q tmp (g ps >>= fun z => .ok (z, ρ)) → r xs H Q
section
variable {X : Cx} {D : DX} {W : WX} {p pos px : Pos} {e : Expr} {es : List Expr} {m : ME} {n : MA} {tmp t1 : Bool} {r : List V → Hp → VK → Prop} {g : PV → R PV} {gs : List PV → R PV} {x : Str} {id T : String}
theorem b1_spec {t : TE} (hs : CB1 X.K X.mg r g) (h1 : ∀ F H Ls σ ρ Q, SA X.K X.mg D F H Ls σ ρ → OutE X.K X.mg D W F H Ls σ Q t1 (m ρ) → t σ H Q)
    {F H : Hp} {Ls : Lb} {σ : St} {ρ : Rho} {Q : VK} (S : SA X.K X.mg D F H Ls σ ρ) (o : OutE X.K X.mg D W F H Ls σ Q tmp (eB1 g m ρ)) : tCB r (tCons t tNil) σ H Q :=
  h1 F H Ls σ ρ _ S (eE o fun p ρ1 F1 H1 Ls1 L1 x S1 e1 V1 _ o1 => hs D W F1 H1 Ls1 σ ρ1 Q tmp p x L1 S1 V1 o1)
theorem de_b1 (hc : CallR X (.builtin id) r) (hs : CB1 X.K X.mg r g) (hg : Gl X x) (hm : X.mg x = none) (hv : bootBuiltins x = some (.builtin id)) (h : DE' t1 X D W e m) (hn : x ≠ "__name__" := by decide) (hdb : (x == ("__debug__" : Str)) = false := by decide)
    (he : starEach [e] X.env = (false, eval e X.env) :: starEach [] X.env := by rfl) (hpl : (backTo pos (starEach [] X.env)).any (·.1) = false := by rfl) : DE' tmp X D W (.Call (.Name x p) [e] [] pos) (eB1 g m) := by
  obtain ⟨t, hp, h1⟩ := h
  exact ⟨_, pe_callB hc hg hm hv (pa_cons hp pa_nil he) hn hdb he hpl, fun F H Ls σ ρ Q S o => b1_spec hs h1 S o⟩
theorem de_bt (hc : CallR X (.type T) r) (hs : CB1 X.K X.mg r g) (hg : Gl X x) (hm : X.mg x = none) (hv : bootBuiltins x = some (.type T)) (h : DE' t1 X D W e m) (hn : x ≠ "__name__" := by decide) (hdb : (x == ("__debug__" : Str)) = false := by decide)
    (he : starEach [e] X.env = (false, eval e X.env) :: starEach [] X.env := by rfl) (hpl : (backTo pos (starEach [] X.env)).any (·.1) = false := by rfl) : DE' tmp X D W (.Call (.Name x p) [e] [] pos) (eB1 g m) := by
  obtain ⟨t, hp, h1⟩ := h
  exact ⟨_, pe_callTy hc hg hm hv (pa_cons hp pa_nil he) hn hdb he hpl, fun F H Ls σ ρ Q S o => b1_spec hs h1 S o⟩
theorem de_ba (hc : CallR X (.builtin id) r) (hs : CBA X.K X.mg r gs) (hg : Gl X x) (hm : X.mg x = none) (hv : bootBuiltins x = some (.builtin id)) (h : DA X D W (e :: es) n) (hn : x ≠ "__name__" := by decide) (hdb : (x == ("__debug__" : Str)) = false := by decide)
    (he : starEach (e :: es) X.env = (false, eval e X.env) :: starEach es X.env := by rfl) (hpl : (backTo pos (starEach es X.env)).any (·.1) = false := by rfl) : DE' tmp X D W (.Call (.Name x p) (e :: es) [] pos) (eBA gs n) := by
  obtain ⟨t, hp, h1⟩ := h
  exact ⟨_, pe_callB hc hg hm hv hp hn hdb he hpl, fun F H Ls σ ρ Q S o => h1 F H Ls σ ρ _ S (aE o fun ps ρ1 F1 H1 Ls1 vs S1 e1 V1 o1 => hs D W F1 H1 Ls1 σ ρ1 Q tmp ps vs S1 V1 o1)⟩
theorem CallR.or {f : Value} {r r' : List V → Hp → VK → Prop} (h : CallR X f r) (h' : CallR X f r') : CallR X f (fun xs H Q => r xs H Q ∨ r' xs H Q) := fun pins s σ H xs us Q I rv o => o.elim (h pins s σ H xs us Q I rv) (h' pins s σ H xs us Q I rv)
end
/-- len -/
def pyLen : PV → R PV
  | .lst _ xs => .ok (.int xs.length)
  | .tup xs => .ok (.int xs.length)
  | .str z => if z.length ≤ sizeLine then .ok (.int z.length) else .error .stuck
  | .dK _ ks _ => .ok (.int ks.length)
  | .dT _ ks _ => .ok (.int ks.length)
  | _ => .error .stuck
def rLenAll (K : Frag) : List V → Hp → VK → Prop := fun xs H Q => (∃ p ys, xs = [.ref p] ∧ (SqL K H p ys ∨ SqT K H p ys) ∧ Q (.int ys.length) H) ∨ (∃ z, xs = [.str z] ∧ z.length ≤ sizeLine ∧ Q (.int z.length) H)
theorem cr_len {X : Cx} : CallR X (.builtin "len") (rLenAll X.K) := call_len_seq.or call_len_str
section
variable {K : Frag} {mg : Mg}
def pyLen' : PV → R PV
  | .lst _ xs => .ok (.int xs.length)
  | .tup xs => .ok (.int xs.length)
  | .scr xs => .ok (.int xs.length)
  | .str z => if z.length ≤ sizeLine then .ok (.int z.length) else .error .stuck
  | _ => .error .stuck
theorem cs_len : CB1 K mg (rLenAll K) pyLen' := by
  intro D W F H Ls σ ρ Q tmp p x L S V o
  unfold pyLen' at o
  split at o
  · obtain ⟨a, vs, rfl, r, h⟩ := V.list S.sub
    refine .inl ⟨a, vs, rfl, .inl (.inl r), ?_⟩
    rw [← h.length]
    exact OutE.pure (v := .int _) o S (by simp [Fz])
  · obtain ⟨a, vs, rfl, r, h⟩ := V.tuple S.sub
    refine .inl ⟨a, vs, rfl, .inr (S.sub.seqT r), ?_⟩
    rw [← h.length]
    exact OutE.pure (v := .int _) o S (by simp [Fz])
  · simp only [Val] at V
    obtain ⟨a, vs, rfl, r, h⟩ := V
    refine .inl ⟨a, vs, rfl, .inl (S.sub.seqLL r), ?_⟩
    rw [← h.length]
    exact OutE.pure (v := .int _) o S (by simp [Fz])
  · split at o
    · rename_i z hz
      simp only [Val] at V
      subst V
      exact .inr ⟨_, rfl, hz, OutE.pure (v := .int _) o S (by simp [Fz])⟩
    · exact o.elim
  · exact o.elim
/-- a list of ints -/
def pyInts : List PV → Option (List Int)
  | [] => some []
  | .int i :: xs => (pyInts xs).map fun r => i :: r
  | _ :: _ => none
def pyBools : List PV → Option (List Bool)
  | [] => some []
  | .bl i :: xs => (pyBools xs).map fun r => i :: r
  | _ :: _ => none
def pyStrs : List PV → Option (List Str)
  | [] => some []
  | .str i :: xs => (pyStrs xs).map fun r => i :: r
  | _ :: _ => none
theorem ValL.pyInts {F H : Hp} {L : LM} : ∀ {xs : List PV} {vs : List V} {w : List Nat} {j : Nat} {ns : List Int}, ValL K mg F H L w j xs vs → PX.pyInts xs = some ns → vs = ns.map V.int
  | [], vs, _, _, ns, h, e => by simp only [ValL] at h; simp only [PX.pyInts, Option.some.injEq] at e; subst h e; rfl
  | .int i :: xs, vs, w, j, ns, h, e => by
    simp only [ValL] at h
    obtain ⟨v, vr, rfl, h1, h2⟩ := h
    simp only [PX.pyInts, Option.map_eq_some_iff] at e
    obtain ⟨r, e, rfl⟩ := e
    simp only [Val] at h1
    rw [h1, h2.pyInts e]
    rfl
  | .non :: _, _, _, _, _, _, e => by cases e
  | .bl _ :: _, _, _, _, _, _, e => by cases e
  | .str _ :: _, _, _, _, _, _, e => by cases e
  | .lst _ _ :: _, _, _, _, _, _, e => by cases e
  | .tup _ :: _, _, _, _, _, _, e => by cases e
  | .scr _ :: _, _, _, _, _, _, e => by cases e
  | .ins _ _ _ _ :: _, _, _, _, _, _, e => by cases e
  | .dK _ _ _ :: _, _, _, _, _, _, e => by cases e
  | .dT _ _ _ :: _, _, _, _, _, _, e => by cases e
theorem ValL.pyBools {F H : Hp} {L : LM} : ∀ {xs : List PV} {vs : List V} {w : List Nat} {j : Nat} {ns : List Bool}, ValL K mg F H L w j xs vs → PX.pyBools xs = some ns → vs = ns.map V.bl
  | [], vs, _, _, ns, h, e => by simp only [ValL] at h; simp only [PX.pyBools, Option.some.injEq] at e; subst h e; rfl
  | .bl i :: xs, vs, w, j, ns, h, e => by
    simp only [ValL] at h
    obtain ⟨v, vr, rfl, h1, h2⟩ := h
    simp only [PX.pyBools, Option.map_eq_some_iff] at e
    obtain ⟨r, e, rfl⟩ := e
    simp only [Val] at h1
    rw [h1, h2.pyBools e]
    rfl
  | .non :: _, _, _, _, _, _, e => by cases e
  | .int _ :: _, _, _, _, _, _, e => by cases e
  | .str _ :: _, _, _, _, _, _, e => by cases e
  | .lst _ _ :: _, _, _, _, _, _, e => by cases e
  | .tup _ :: _, _, _, _, _, _, e => by cases e
  | .scr _ :: _, _, _, _, _, _, e => by cases e
  | .ins _ _ _ _ :: _, _, _, _, _, _, e => by cases e
  | .dK _ _ _ :: _, _, _, _, _, _, e => by cases e
  | .dT _ _ _ :: _, _, _, _, _, _, e => by cases e
theorem ValL.pyStrs {F H : Hp} {L : LM} : ∀ {xs : List PV} {vs : List V} {w : List Nat} {j : Nat} {ns : List Str}, ValL K mg F H L w j xs vs → PX.pyStrs xs = some ns → vs = ns.map V.str
  | [], vs, _, _, ns, h, e => by simp only [ValL] at h; simp only [PX.pyStrs, Option.some.injEq] at e; subst h e; rfl
  | .str i :: xs, vs, w, j, ns, h, e => by
    simp only [ValL] at h
    obtain ⟨v, vr, rfl, h1, h2⟩ := h
    simp only [PX.pyStrs, Option.map_eq_some_iff] at e
    obtain ⟨r, e, rfl⟩ := e
    simp only [Val] at h1
    rw [h1, h2.pyStrs e]
    rfl
  | .non :: _, _, _, _, _, _, e => by cases e
  | .int _ :: _, _, _, _, _, _, e => by cases e
  | .bl _ :: _, _, _, _, _, _, e => by cases e
  | .lst _ _ :: _, _, _, _, _, _, e => by cases e
  | .tup _ :: _, _, _, _, _, _, e => by cases e
  | .scr _ :: _, _, _, _, _, _, e => by cases e
  | .ins _ _ _ _ :: _, _, _, _, _, _, e => by cases e
  | .dK _ _ _ :: _, _, _, _, _, _, e => by cases e
  | .dT _ _ _ :: _, _, _, _, _, _, e => by cases e
def pySum : PV → R PV
  | .lst _ xs => match pyInts xs with
    | some ns => .ok (.int ns.sum)
    | none => .error .stuck
  | _ => .error .stuck
theorem cs_sum : CB1 K mg (rSum K) pySum := by
  intro D W F H Ls σ ρ Q tmp p x L S V o
  unfold pySum at o
  split at o
  · split at o
    · rename_i ns e
      obtain ⟨a, vs, rfl, r, h⟩ := V.list S.sub
      exact ⟨a, ns, rfl, by rw [← h.pyInts e]; exact .inl r, OutE.pure (v := .int _) o S (by simp [Fz])⟩
    · exact o.elim
  · exact o.elim
def pyAll : PV → R PV
  | .lst _ xs => match pyBools xs with
    | some ns => .ok (.bl (ns.all _root_.id))
    | none => .error .stuck
  | _ => .error .stuck
theorem cs_all : CB1 K mg (rAll K) pyAll := by
  intro D W F H Ls σ ρ Q tmp p x L S V o
  unfold pyAll at o
  split at o
  · split at o
    · rename_i ns e
      obtain ⟨a, vs, rfl, r, h⟩ := V.list S.sub
      exact ⟨a, ns, rfl, by rw [← h.pyBools e]; exact .inl r, OutE.pure (v := .bl _) o S (by simp [Fz])⟩
    · exact o.elim
  · exact o.elim
def pyAny : PV → R PV
  | .lst _ xs => match pyBools xs with
    | some ns => .ok (.bl (ns.any _root_.id))
    | none => .error .stuck
  | _ => .error .stuck
theorem cs_any : CB1 K mg (rAny K) pyAny := by
  intro D W F H Ls σ ρ Q tmp p x L S V o
  unfold pyAny at o
  split at o
  · split at o
    · rename_i ns e
      obtain ⟨a, vs, rfl, r, h⟩ := V.list S.sub
      exact ⟨a, ns, rfl, by rw [← h.pyBools e]; exact .inl r, OutE.pure (v := .bl _) o S (by simp [Fz])⟩
    · exact o.elim
  · exact o.elim
def maxI : Int → List Int → Int
  | m, [] => m
  | m, i :: r => if m < i then maxI i r else maxI m r
theorem maxI_spec : ∀ (r : List Int) (m : Int), (maxI m r = m ∨ maxI m r ∈ r) ∧ m ≤ maxI m r ∧ ∀ y ∈ r, y ≤ maxI m r
  | [], m => by simp [maxI]
  | i :: r, m => by
    unfold maxI
    split
    · obtain ⟨h1, h2, h3⟩ := maxI_spec r i
      refine ⟨.inr ?_, by omega, fun y hy => ?_⟩
      · rcases h1 with h1 | h1
        · rw [h1]; simp
        · exact List.mem_cons_of_mem _ h1
      · rcases List.mem_cons.mp
          hy with rfl | hy
        · exact h2
        · exact h3 y hy
    · obtain ⟨h1, h2, h3⟩ := maxI_spec r m
      refine ⟨?_, h2, fun y hy => ?_⟩
      · rcases h1 with h1 | h1
        · exact .inl h1
        · exact .inr (List.mem_cons_of_mem _ h1)
      · rcases List.mem_cons.mp
          hy with rfl | hy
        · omega
        · exact h3 y hy
def pyMaxL : PV → R PV
  | .lst _ xs => match pyInts xs with
    | some (i :: ns) => .ok (.int (maxI i ns))
    | _ => .error .stuck
  | _ => .error .stuck
theorem cs_maxL : CB1 K mg (rMax K) pyMaxL := by
  intro D W F H Ls σ ρ Q tmp p x L S V o
  unfold pyMaxL at o
  split at o
  · split at o
    · rename_i i ns e
      obtain ⟨a, vs, rfl, r, h⟩ := V.list S.sub
      refine ⟨a, i :: ns, rfl, by rw [← h.pyInts e]; exact .inl r, by simp, fun m hm hy => ?_⟩
      obtain ⟨h1, h2, h3⟩ := maxI_spec ns i
      have e1 : m = maxI i ns := by
        have a1 : maxI i ns ≤ m := by
          rcases h1 with h1 | h1
          · rw [h1]; exact hy i (by simp)
          · exact hy _ (List.mem_cons_of_mem _ h1)
        have a2 : m ≤ maxI i ns := by
          rcases List.mem_cons.mp
              hm with rfl | hm
          · exact h2
          · exact h3 m hm
        omega
      rw [e1]
      exact OutE.pure (v := .int _) o S (by simp [Fz])
    · exact o.elim
  · exact o.elim
def minI : Int → List Int → Int
  | m, [] => m
  | m, i :: r => if i < m then minI i r else minI m r
theorem minI_spec : ∀ (r : List Int) (m : Int), (minI m r = m ∨ minI m r ∈ r) ∧ minI m r ≤ m ∧ ∀ y ∈ r, minI m r ≤ y
  | [], m => by simp [minI]
  | i :: r, m => by
    unfold minI
    split
    · obtain ⟨h1, h2, h3⟩ := minI_spec r i
      refine ⟨.inr ?_, by omega, fun y hy => ?_⟩
      · rcases h1 with h1 | h1
        · rw [h1]; simp
        · exact List.mem_cons_of_mem _ h1
      · rcases List.mem_cons.mp
          hy with rfl | hy
        · exact h2
        · exact h3 y hy
    · obtain ⟨h1, h2, h3⟩ := minI_spec r m
      refine ⟨?_, h2, fun y hy => ?_⟩
      · rcases h1 with h1 | h1
        · exact .inl h1
        · exact .inr (List.mem_cons_of_mem _ h1)
      · rcases List.mem_cons.mp
          hy with rfl | hy
        · omega
        · exact h3 y hy
def pyMinL : PV → R PV
  | .lst _ xs => match pyInts xs with
    | some (i :: ns) => .ok (.int (minI i ns))
    | _ => .error .stuck
  | _ => .error .stuck
theorem cs_minL : CB1 K mg (rMin K) pyMinL := by
  intro D W F H Ls σ ρ Q tmp p x L S V o
  unfold pyMinL at o
  split at o
  · split at o
    · rename_i i ns e
      obtain ⟨a, vs, rfl, r, h⟩ := V.list S.sub
      refine ⟨a, i :: ns, rfl, by rw [← h.pyInts e]; exact .inl r, by simp, fun m hm hy => ?_⟩
      obtain ⟨h1, h2, h3⟩ := minI_spec ns i
      have e1 : m = minI i ns := by
        have a1 : m ≤ minI i ns := by
          rcases h1 with h1 | h1
          · rw [h1]; exact hy i (by simp)
          · exact hy _ (List.mem_cons_of_mem _ h1)
        have a2 : minI i ns ≤ m := by
          rcases List.mem_cons.mp
              hm with rfl | hm
          · exact h2
          · exact h3 m hm
        omega
      rw [e1]
      exact OutE.pure (v := .int _) o S (by simp [Fz])
    · exact o.elim
  · exact o.elim
def rMax2 : List V → Hp → VK → Prop := fun xs H Q => ∃ i j,
    xs = [.int i, .int j] ∧ Q (.int (if j > i then j else i)) H
def rMin2 : List V → Hp → VK → Prop := fun xs H Q => ∃ i j, xs = [.int i, .int j] ∧ Q (.int (if j < i then j else i)) H
def pyMax2 : List PV → R PV
  | [.int i, .int j] => .ok (.int (if j > i then j else i))
  | _ => .error .stuck
def pyMin2 : List PV → R PV
  | [.int i, .int j] => .ok (.int (if j < i then j else i))
  | _ => .error .stuck
theorem cr_max2 {X : Cx} (hc : X.calm = true) : CallR X (.builtin "max") rMax2 := call_max2 hc
theorem cr_min2 {X : Cx} (hc : X.calm = true) : CallR X (.builtin "min") rMin2 := call_min2 hc
theorem cs_max2 : CBA K mg rMax2 pyMax2 := by
  intro D W F H Ls σ ρ Q tmp ps xs S V o
  unfold pyMax2 at o
  split at o
  · simp only [FzL, Fz] at V
    obtain ⟨v, vr, rfl, rfl, w, wr, rfl, rfl, rfl⟩ := V
    exact ⟨_, _, rfl, OutE.pure (v := .int _) o S (by simp [Fz])⟩
  · exact o.elim
theorem cs_min2 : CBA K mg rMin2 pyMin2 := by
  intro D W F H Ls σ ρ Q tmp ps xs S V o
  unfold pyMin2 at o
  split at o
  · simp only [FzL, Fz] at V
    obtain ⟨v, vr, rfl, rfl, w, wr, rfl, rfl, rfl⟩ := V
    exact ⟨_, _, rfl, OutE.pure (v := .int _) o S (by simp [Fz])⟩
  · exact o.elim
def rAbs : List V → Hp → VK → Prop := fun xs H Q => ∃ i, xs = [.int i] ∧ Q (.int (if i < 0 then -i else i)) H
theorem cr_abs {X : Cx} : CallR X (.builtin "abs") rAbs := call_abs
def pyAbs : PV → R PV
  | .int i => .ok (.int (if i < 0 then -i else i))
  | _ => .error .stuck
theorem cs_abs : CB1 K mg rAbs pyAbs := by
  intro D W F H Ls σ ρ Q tmp p x L S V o
  unfold pyAbs at o
  split at o
  · simp only [Val] at V
    subst V
    exact ⟨_, rfl, OutE.pure (v := .int _) o S (by simp [Fz])⟩
  · exact o.elim
def rIntAll : List V → Hp → VK → Prop := fun xs H Q => ((∃ i, xs = [.int i] ∧ Q (.int i) H) ∨ ∃ k, xs = [.bl k] ∧ Q (.int (if k then 1 else 0)) H) ∨ (∃ a n, xs = [.str a] ∧ PySem.intText? a = some n ∧ a.length ≤ 640 ∧ Q (.int n) H)
theorem cr_int {X : Cx} : CallR X (.type "int") rIntAll := call_int1.or call_int_str
def pyInt : PV → R PV
  | .int i => .ok (.int i)
  | .bl k => .ok (.int (if k then 1 else 0))
  | .str a => match PySem.intText? a with
    | some n => if a.length ≤ 640 then .ok (.int n) else .error .stuck
    | none => .error .stuck
  | _ => .error .stuck
theorem cs_int : CB1 K mg rIntAll pyInt := by
  intro D W F H Ls σ ρ Q tmp p x L S V o
  unfold pyInt at o
  split at o
  · simp only [Val] at V
    subst V
    exact .inl (.inl ⟨_, rfl, OutE.pure (v := .int _) o S (by simp [Fz])⟩)
  · simp only [Val] at V
    subst V
    exact .inl (.inr ⟨_, rfl, OutE.pure (v := .int _) o S (by simp [Fz])⟩)
  · split at o
    · rename_i n e
      split at o
      · rename_i hz
        simp only [Val] at V
        subst V
        exact .inr ⟨_, _, rfl, e, hz, OutE.pure (v := .int _) o S (by simp [Fz])⟩
      · exact o.elim
    · exact o.elim
  · exact o.elim
def rStrI : List V → Hp → VK → Prop := fun xs H Q => ∃ i, xs = [.int i] ∧ i.natAbs.log2 < 1920 ∧ Q (.str (toString i)) H
theorem cr_str {X : Cx} : CallR X (.type "str") rStrI := call_str_int
def pyStr : PV → R PV
  | .int i => if i.natAbs.log2 < 1920 then .ok (.str (toString i)) else .error .stuck
  | _ => .error .stuck
theorem cs_str : CB1 K mg rStrI pyStr := by
  intro D W F H Ls σ ρ Q tmp p x L S V o
  unfold pyStr at o
  split at o
  · split at o
    · rename_i hz
      simp only [Val] at V
      subst V
      exact ⟨_, rfl, hz, OutE.pure (v := .str _) o S (by simp [Fz])⟩
    · exact o.elim
  · exact o.elim
def rListOf (K : Frag) : List V → Hp → VK → Prop := fun xs H Q => ∃ p ys, xs = [.ref p] ∧ (SqL K H p ys ∨ SqT K H p ys) ∧ ∀ l, H l = none → Q (.ref l) (upd H l (.lst ys))
theorem cr_list {X : Cx} : CallR X (.type "list") (rListOf X.K) := call_list_of
def pyList : PV → R PV
  | .lst _ xs => if fzL xs = true then .ok (.lst true xs) else .error .stuck
  | .tup xs => .ok (.lst true xs)
  | _ => .error .stuck
theorem cs_list : CB1 K mg (rListOf K) pyList := by
  intro D W F H Ls σ ρ Q tmp p x L S V o
  unfold pyList at o
  split at o
  · split at o
    · rename_i hz
      obtain ⟨a, vs, rfl, r, h⟩ := V.list S.sub
      exact ⟨a, vs, rfl, .inl (.inl r), newL S (h.fzz hz) o⟩
    · exact o.elim
  · obtain ⟨a, vs, rfl, r, h⟩ := V.tuple S.sub
    exact ⟨a, vs, rfl, .inr (S.sub.seqT r), newL S h o⟩
  · exact o.elim
def rTupOf (K : Frag) : List V → Hp → VK → Prop := fun xs H Q => ∃ p ys, xs = [.ref p] ∧ ((SqL K H p ys ∧ ∀ l, H l = none → Q (.ref l) (upd H l (.tup ys))) ∨ (SqT K H p ys ∧ Q (.ref p) H))
theorem cr_tuple {X : Cx} : CallR X (.type "tuple") (rTupOf X.K) := call_tuple_of
def pyTuple : PV → R PV
  | .lst _ xs => if fzL xs = true then .ok (.tup xs) else .error .stuck
  | .tup xs => .ok (.tup xs)
  | _ => .error .stuck
theorem cs_tuple : CB1 K mg (rTupOf K) pyTuple := by
  intro D W F H Ls σ ρ Q tmp p x L S V o
  unfold pyTuple at o
  split at o
  · split at o
    · rename_i hz
      obtain ⟨a, vs, rfl, r, h⟩ := V.list S.sub
      exact ⟨a, vs, rfl, .inl ⟨.inl r, newT S (h.fzz hz) o⟩⟩
    · exact o.elim
  · obtain ⟨a, vs, rfl, r, h⟩ := V.tuple S.sub
    exact ⟨a, vs, rfl, .inr ⟨S.sub.seqT r, OutE.pure o S (by simp only [Fz]; exact ⟨a, vs, rfl, r, h⟩)⟩⟩
  · exact o.elim
/-! sorted, ints -/
def insI (i : Int) : List Int → List Int
  | [] => [i]
  | j :: r => if i ≤ j then i :: j :: r else j :: insI i r
def sortI : List Int → List Int
  | [] => []
  | i :: r => insI i (sortI r)
theorem insI_perm (i : Int) : ∀ r, (insI i r).Perm (i :: r)
  | [] => List.Perm.refl _
  | j :: r => by
    unfold insI
    split
    · exact List.Perm.refl _
    · exact ((insI_perm i r).cons j).trans (List.Perm.swap i j r)
theorem sortI_perm : ∀ r, (sortI r).Perm r
  | [] => List.Perm.refl _
  | i :: r => (insI_perm i _).trans ((sortI_perm r).cons i)
theorem insI_sorted (i : Int) : ∀ r : List Int, r.Pairwise (· ≤ ·) → (insI i r).Pairwise (· ≤ ·)
  | [], _ => by simp [insI]
  | j :: r, h => by
    unfold insI
    rw [List.pairwise_cons] at h
    split
    · rename_i hij
      rw [List.pairwise_cons, List.pairwise_cons]
      refine ⟨fun y hy => ?_, h⟩
      rcases List.mem_cons.mp
          hy with rfl | hy
      · exact hij
      · have := h.1 y hy; omega
    · rename_i hij
      rw [List.pairwise_cons]
      refine ⟨fun y hy => ?_, insI_sorted i r h.2⟩
      rcases List.mem_cons.mp ((insI_perm i r).mem_iff.mp hy) with rfl | hy
      · omega
      · exact h.1 y hy
theorem sortI_sorted : ∀ r : List Int, (sortI r).Pairwise (· ≤ ·)
  | [] => by simp [sortI]
  | i :: r => insI_sorted i _ (sortI_sorted r)
theorem sorted_unique {a b : List Int} (h : a.Perm b) (ha : a.Pairwise (· ≤ ·)) (hb : b.Pairwise (· ≤ ·)) : a = b :=
  h.eq_of_pairwise (le := (· ≤ ·)) (fun x y _ _ h1 h2 => by omega) ha hb
def pySorted : PV → R PV
  | .lst _ xs => match pyInts xs with
    | some ns => .ok (.lst true ((sortI ns).map .int))
    | none => .error .stuck
  | _ => .error .stuck
theorem FzL.ofInts {F : Hp} : ∀ ns : List Int, FzL K mg F (ns.map .int) (ns.map V.int)
  | [] => by simp [FzL]
  | i :: r => by simp only [List.map_cons, FzL, Fz]; exact ⟨_, _, rfl, rfl, FzL.ofInts r⟩
theorem FzL.ofStrs {F : Hp} : ∀ ns : List Str, FzL K mg F (ns.map .str) (ns.map V.str)
  | [] => by simp [FzL]
  | i :: r => by simp only [List.map_cons, FzL, Fz]; exact ⟨_, _, rfl, rfl, FzL.ofStrs r⟩
theorem cs_sorted : CB1 K mg (rSortedI K) pySorted := by
  intro D W F H Ls σ ρ Q tmp p x L S V o
  unfold pySorted at o
  split at o
  · split at o
    · rename_i ns e
      obtain ⟨a, vs, rfl, r, h⟩ := V.list S.sub
      refine ⟨a, ns, rfl, by rw [← h.pyInts e]; exact .inl r, fun ns' p h1 h2 => ?_⟩
      rw [sorted_unique (h1.trans (sortI_perm ns).symm) h2 (sortI_sorted ns)]
      exact newL S (FzL.ofInts (sortI ns)) o p
    · exact o.elim
  · exact o.elim
/-! isinstance(x, T) -/
inductive TyT where
  | int | bool | str | tuple | list
def TyT.nm : TyT → String
  | .int => "int"
  | .bool => "bool"
  | .str => "str"
  | .tuple => "tuple"
  | .list => "list"
def TyT.beq : TyT → TyT → Bool
  | .int, .int => true
  | .bool, .bool => true
  | .str, .str => true
  | .tuple, .tuple => true
  | .list, .list => true
  | _, _ => false
def pyIsi (T : TyT) : PV → R PV
  | .non => .ok (.bl false)
  | .bl _ => .ok (.bl (T.beq .int || T.beq .bool))
  | .int _ => .ok (.bl (T.beq .int))
  | .str _ => .ok (.bl (T.beq .str))
  | .lst _ _ => .ok (.bl (T.beq .list))
  | .tup _ => .ok (.bl (T.beq .tuple))
  | _ => .error .stuck
end
section
variable {X : Cx} {D : DX} {W : WX} {p pos px : Pos} {e : Expr} {m : ME} {tmp t1 : Bool}
theorem kb_non (T : TyT) : PySem.W.kitOne X.K (.type "NoneType") (.type T.nm) = some false := by cases T <;> exact kit_ty (by decide +kernel)
theorem kb_bl (T : TyT) : PySem.W.kitOne X.K (.type "bool") (.type T.nm) = some (T.beq .int || T.beq .bool) := by cases T <;> exact kit_ty (by decide +kernel)
theorem kb_int (T : TyT) : PySem.W.kitOne X.K (.type "int") (.type T.nm) = some (T.beq .int) := by cases T <;> exact kit_ty (by decide +kernel)
theorem kb_str (T : TyT) : PySem.W.kitOne X.K (.type "str") (.type T.nm) = some (T.beq .str) := by cases T <;> exact kit_ty (by decide +kernel)
theorem kb_list (T : TyT) : PySem.W.kitOne X.K (.type "list") (.type T.nm) = some (T.beq .list) := by cases T <;> exact kit_ty (by decide +kernel)
theorem kb_tuple (T : TyT) : PySem.W.kitOne X.K (.type "tuple") (.type T.nm) = some (T.beq .tuple) := by cases T <;> exact kit_ty (by decide +kernel)
theorem tyx_lst {K : Frag} {H : Hp} {a : Addr} {vs : List V} (r : Rd H a (.lst vs)) : TyX K H (.ref a) (.type "list") := r.elim (fun h => .base (.lst h)) fun ⟨_, h⟩ => .base (.frz h)
theorem tyx_tup {K : Frag} {H : Hp} {a : Addr} {vs : List V} (r : SqT K H a vs) : TyX K H (.ref a) (.type "tuple") := by
  rcases r with (h | ⟨_, h⟩) | ⟨o, its, n, h, hc, _⟩
  · exact .base (.tup h)
  · exact .fTuple h
  · exact .kTuple h hc
theorem de_isi (T : TyT) {y : Str} (hg : Gl X "isinstance") (hm : X.mg "isinstance" = none) (hgy : Gl X y) (hmy : X.mg y = none) (hv : bootBuiltins y = some (.type T.nm)) (h : DE' t1 X D W e m) (hn : y ≠ "__name__" := by decide) (hd : (y == ("__debug__" : Str)) = false := by decide)
    (he : starEach [e, .Name y px] X.env = (false, eval e X.env) :: starEach [.Name y px] X.env := by rfl) (he2 : starEach [.Name y px] X.env = (false, eval (.Name y px) X.env) :: starEach [] X.env := by rfl) (hpl : (backTo pos (starEach [.Name y px] X.env)).any (·.1) = false := by rfl) :
    DE' tmp X D W (.Call (.Name "isinstance" p) [e, .Name y px] [] pos) (eB1 (pyIsi T) m) := by
  obtain ⟨t, hp, h1⟩ := h
  refine ⟨_, pe_callB call_isi hg hm (by decide +kernel) (pa_cons hp (pa_cons (pe_bltn hgy hmy hv (v := .ty T.nm) rfl hn hd) pa_nil he2) he) (by decide) (by decide) he hpl, fun F H Ls σ ρ Q S o => h1 F H Ls σ ρ _ S (eE o fun p ρ1 F1 H1 Ls1 L1 x S1 e1 V1 _ o1 => ?_)⟩
  dsimp only at o1
  unfold pyIsi at o1
  split at o1
  · simp only [Val] at V1
    subst V1
    exact ⟨_, _, _, _, _, rfl, .ty _, .base .non, kb_non T, OutE.pure (v := .bl _) o1 S1 (by simp [Fz])⟩
  · simp only [Val] at V1
    subst V1
    exact ⟨_, _, _, _, _, rfl, .ty _, .base (.bl _), kb_bl T, OutE.pure (v := .bl _) o1 S1 (by simp [Fz])⟩
  · simp only [Val] at V1
    subst V1
    exact ⟨_, _, _, _, _, rfl, .ty _, .base (.int _), kb_int T, OutE.pure (v := .bl _) o1 S1 (by simp [Fz])⟩
  · simp only [Val] at V1
    subst V1
    exact ⟨_, _, _, _, _, rfl, .ty _, .base (.str _), kb_str T, OutE.pure (v := .bl _) o1 S1 (by simp [Fz])⟩
  · obtain ⟨a, vs, rfl, r, h⟩ := V1.list S1.sub
    exact ⟨_, _, _, _, _, rfl, .ty _, tyx_lst r, kb_list T, OutE.pure (v := .bl _) o1 S1 (by simp [Fz])⟩
  · obtain ⟨a, vs, rfl, r, h⟩ := V1.tuple S1.sub
    exact ⟨_, _, _, _, _, rfl, .ty _, tyx_tup (S1.sub.seqT r), kb_tuple T, OutE.pure (v := .bl _) o1 S1 (by simp [Fz])⟩
  · exact o1.elim
end
end PX
set_option Elab.async false
set_option linter.all false
set_option maxRecDepth 100000
set_option maxHeartbeats 3900000
namespace PX
open PySem L2
variable [HasT]

/-! ### an own exception over ValueError whose __init__ says super().__init__(v); self.f = v -/
section
open PySem.W PySem.Calls
    PyProof.Rows
variable {prog : Program} {w : World} {A : Around} {E : Value → Shared →
    Prop} {h : Heap} {g : Array GenState} {d : Drawn} {t : Nat} {os : OsState}
variable {nm q : Str} {C N : Addr} {bs bm bmB : List Value} {hdct : Bool} {sn : List Str} {sub : List Value} {ab : Bool} {col : Option Bool} {dd : Option Addr} {k0 k1 k2 k3 k5 : Option Value} {B i newId : String}
/-- the bound ValueError.__init__ called -/
theorem call_mw {u e t0 : Addr} {rest : List Value} {Q : Value → Shared → Prop} (FB : ExcBaseFacts B newId i bmB)
    (hC : h.get? C = some (excClassObj nm q C N bs bm hdct sn sub ab col dd k0 k1 k2 k3 k5 newId)) (he : h.get? e = some (HandSPX.excO C t0)) (hu : h.get? u = some (kxs_mw i e)) (hrest : rest.length ≤ sizeLine)
    (hq : ∀ h' t1, (∀ b o, b ≠ e → h.get? b = some o → h'.get? b = some o) → h'.get? e = some (HandSPX.excO C t1) → h.objs.size ≤ h'.objs.size → Q .none ⟨h', g, d, t, os⟩) :
    wpAny (model prog w) A (call (.ref
        u) rest) Q E ⟨h, g, d, t, os⟩ := by
  refine wpAny_call
      (codeAny_of_tree ?_)
  show wpAny _ A.in1 (callAny
      (.ref u) ⟨rest, []⟩) _ _ _
  simp only [callAny]
  refine wpAny_bind
      (wpAny_load hu ?_)
  simp only [kxs_mw, show (Value.type "method-wrapper" == Value.type "method" || Value.type "method-wrapper" == Value.type
      "builtin_function_or_method" || Value.type "method-wrapper" == Value.type "method-wrapper") = true by decide, if_true]
  refine W.KFB.if_so
      (by decide) ?_
  refine wpAny_bind (ESX.check_bound FB hC he rfl ?_)
  refine wpAny_bind
      (wpAny_pure (wpAny_pure ?_))
  refine ⟨plainId_quiet FB.init.plain
      _, codeAny_builtin FB.initEntry ?_⟩
  rw [Around.under_plainId FB.init.plain _]
  wp_walk
  refine hq _ h.objs.size (fun b o hb ho => ?_) ?_ ?_
  · rw [Heap.get?_update_other
      _ _ (Ne.symm hb)]
    exact Heap.get?_push_of_some
        _ ho
  · rw [Heap.get?_update_self _
      (Heap.get?_push_of_some _ he) rfl]
    rfl
  · simp

/-- what stands about such a class -/
structure SupC (P : Program) (K : Frag) (C fI : Addr) (f y : Str) : Prop where
  ex : ∃ (qual : Str) (params : Arguments) (scope : Scope) (dV kV doc pm ct oc ccl cl : Value) (an od cdd cld : Option Addr) (osl ccs csl : Array (Option Value)) (cda cc : Addr) (vs : Array Value) (file : Str) (tf : Tok) (ar : Arg) (cdD : ClassData)
      (p0 p1 p2 p3 p4 p5 p6 p7 p8 p9 : Pos),
    K.lookup fI = some ⟨oc, od, .func (ksFn "__init__" qual params [.Expr (.Call (.Attribute (.Call (.Name "super" p0) [] [] p1) "__init__" p2) [.Name y p3] [] p4) p5, .Assign [.Attribute (.Name "self" p6) f p7] (.Name y p8) p9] scope dV kV doc pm an (.ref cda) ct cc), osl⟩ ∧
    codeIn K (.ref cda) qual = true ∧ (params.posonlyargs ++ params.args).head? = some ar ∧ ar.arg = "self" ∧ K.lookup cda = some ⟨ccl, cdd, .fields vs, ccs⟩ ∧ vs[2]? = some (.str file tf) ∧ ((P.main.file : Str) == file) = true ∧
    K.lookup cc = some ⟨cl, cld, .cell (some (.ref C)), csl⟩ ∧ clsIn K C = some cdD ∧ mroIn K C (.ref C) = some true ∧
    scope.names.lookup ("super" : Str) = some .globalImplicit ∧ scope.names.lookup ("__class__" : Str) = some .free ∧ scope.names.lookup ("self" : Str) = some .local ∧ scope.names.lookup y = some .local ∧
    scope.kind = .function ∧ scope.isCoroutine = false ∧ scope.isGenerator = false ∧ (∀ x ∈ scope.names, x.2 ≠ .cell) ∧
    (∀ us : List Value, us.length = 2 → bindArgs (ksFn "__init__" qual params [.Expr (.Call (.Attribute (.Call (.Name "super" p0) [] [] p1) "__init__" p2) [.Name y p3] [] p4) p5, .Assign [.Attribute (.Name "self" p6) f p7] (.Name y p8) p9] scope dV kV doc pm an (.ref cda) ct cc) ⟨us, []⟩ = pure ([("self" : Str), y].zip us)) ∧ (p2.endLine == p4.line) = true ∧
    (∀ L : Addr, swapsWith (.Call (.Attribute (.Call (.Name "super" p0) [] [] p1) "__init__" p2) [.Name y p3] [] p4) none p5.line (ksEnv qual scope L fI (.ref cda) cc) = pure false) ∧
    (∀ L : Addr, swapsWith (.Name y p8) (some (.Attribute (.Name "self" p6) f p7)) p9.line (ksEnv qual scope L fI (.ref cda) cc) = pure false)
  oex : OexC K C
  any : nsIn K cStatics "thirdparty.any" = some none
  sup : ks_superIn K C C "__init__" = some (some (.builtin "ValueError.__init__"))
  subB : subIn K (.ref C) (.type "ValueError") = some true
  noF : findIn K (.ref C) f = some none
  iC : findIn K (.ref C) "__init__"
      = some (some (.ref fI))
  tI : typeIn K (.ref fI) = some (.type "function")
  htop : (P.main.scope.names.lookup ("super" : Str)).isSome = false
  yself : y ≠ "self"
  ydb : (y == ("__debug__" : Str)) = false
variable {K : Frag} {fI : Addr} {f y : Str} {R : Result → Shared → Prop}
theorem init_run {mgm : Str → Option Value} {base : Heap} {e t0 : Addr} {u : Value} (Z : SupC prog K C fI f y) (M : L2.Mod K mgm base) (hsup : mgm "super" = none) (bk : ∀ b o, base.get? b = some o → h.get? b = some o) (hroom : A.depth < recursionLimit)
    (hbe : base.get? e = none) (he : h.get? e = some (HandSPX.excO C t0))
    (hq : ∀ h' tk' dx t1, (∀ b o, b ≠ e → h.get? b = some o → h'.get? b = some o) → h.objs.size ≤ dx → dx ≠ e → h'.get? e = some { cls := .ref C, dict := some dx, data := .fields #[.ref t1, .none, .none, .none, .bool false, .none] } → h'.Ns1 dx (fun z => if z = f then some u else none) → R (.ok (.ret .none)) ⟨h', g, d, tk', os⟩) :
    codeAny (model prog w) A (.call (.ref fI) ⟨[.ref e, u], []⟩) R ⟨h, g, d, t, os⟩ := by
  obtain ⟨qual, params, scope, dV, kV, doc, pm, ct, oc, ccl, cl, an, od, cdd, cld, osl, ccs, csl, cda, cc, vs, file, tf, ar, cdD, p0, p1, p2, p3, p4, p5, p6, p7, p8, p9, lk, hcd, hp, har, lkc, hvs, hfile, lkcell, hD, hsub, nsup, ncls, nself, ny, hk, hco, hgen, hcell, hb, hline, hsw1, hsw2⟩ := Z.ex
  obtain ⟨nm, q, N, bs, bm, sn, sub, ab, col, dd, k0, k1, k2, k3, k5, hC, hbm⟩ := Z.oex.cls
  have KI : K.In h := M.kin.keeps bk
  obtain ⟨mb, hb1, hb2⟩ := M.blt
  refine ks_codeAny_call_defAt (fd := ksFn "__init__" qual params _ scope dV kV doc pm an (.ref cda) ct cc) (binds := [("self", .ref e), (y, u)]) hroom (KI _ _ lk) rfl (M.nolimit.keeps bk) (codeRec_of KI hcd) rfl (.of_eq (hb [.ref e, u] rfl)) hcell ?_ (fun h₁ hns hk₁ => ?_) hco hgen hk
  · intro x hx
    rcases List.mem_cons.mp
        hx with rfl | hx
    · exact nself
    · cases List.mem_singleton.mp hx
      exact ny
  have K1 : K.In h₁ := KI.keeps hk₁
  have bk1 : ∀ b o, base.get? b = some o → h₁.get? b = some o := fun b o z => hk₁ b o (bk b o z)
  have ysf : (y == ("self" : Str)) = false := by simpa using Z.yself
  have sfy : (("self" : Str) == y) = false := by simpa using Ne.symm Z.yself
  have vself : (fun x => List.lookup x ([("self", Value.ref e), (y, u)] : List (Str × Value)).reverse) "self" = some (.ref e) := by simp [List.lookup, sfy]
  have vy : (fun x => List.lookup x ([("self", Value.ref e), (y, u)] : List (Str × Value)).reverse) y = some u := by simp [List.lookup]
  have he1 := hk₁ _ _ he
  have hne : C ≠ e := fun z => by
    have := KI _ _ hC
    rw [z, he] at this
    cases this
  have lk1 := K1 _ _ lk
  obtain ⟨oD, hD1, hD2⟩ : ∃ oD, h₁.get? C = some oD ∧ oD.data = .cls cdD := by
    unfold clsIn at hD
    split at hD
    · rename_i c d cd' sl ho
      cases hD
      exact ⟨_, K1 _ _ ho, rfl⟩
    · cases hD
  have no : ∀ c, (HandSPX.excO C t0).data ≠ .cls c := fun c z => by cases z
  have hme : ∀ L : Addr, eval (.Call (.Attribute (.Call (.Name "super" p0) [] [] p1) "__init__" p2) [.Name y p3] [] p4) (ksEnv qual scope L fI (.ref cda) cc) = (do
      let ov ← attributeBase (.Call (.Name "super" p0) [] [] p1) "__init__" (ksEnv qual scope L fI (.ref cda) cc) (eval (.Call (.Name "super" p0) [] [] p1) (ksEnv qual scope L fI (.ref cda) cc))
      standAt p2.atName
      let (f, first) ← holding [ov] (getMethod ov "__init__" (do return (← importBound (.Call (.Name "super" p0) [] [] p1) (ksEnv qual scope L fI (.ref cda) cc)).getD true))
      callWith p4 f first (backTo p4 (starEach [.Name y p3] (ksEnv qual scope L fI (.ref cda) cc))) []) := fun L => by
    rw [arm_eval_Call]
    unfold methodCall methodCallPos
    simp only [hline, Bool.or_true, if_true, pure_bind]
    rfl
  have hint : ∀ L : Addr, interactive (ksEnv qual scope L fI (.ref cda) cc) = false := fun L => by
    unfold interactive
    simp [hk]
  refine ks_wpAt_execs_cons (ks_wpAt_Expr_any (ks_wpAt_MethodCall (ks_wpAt_super_base (env := ksEnv qual scope h.objs.size fI (.ref cda) cc) (f := fI) nsup ncls (by decide) rfl lk1 rfl hp rfl (K1 _ _ lkc) rfl hvs hfile Z.htop ?_) (hme _)) (hint _) (hsw1 _))
  · rw [har]
    refine ks_loadName_global hk nsup (Calls.loadGlobal_builtin (env := ksEnv qual scope h.objs.size fI (.ref cda) cc) (M.glob.keeps bk1) hsup (hb1.keeps bk1) ((hb2 _ (by decide)).trans (by decide +kernel)) ⟨rfl, ?_⟩)
    refine wpAny_loadName_free hk ncls rfl ⟨_, K1 _ _ lkcell, rfl⟩ ?_
    refine wpAny_loadName_local hk nself hns vself ?_
    refine ks_wpAny_isType_cls
        hD1 hD2 ⟨rfl, ?_⟩
    refine ks_wpAny_call_super hD1 hD2 he1 rfl no (looks_mroIn K1 hsub) (fun h2 e2 k2 => ?_)
    have K2 : K.In h2 := K1.keeps k2
    have he2 := k2 _ _ he1
    have I2 : InstAt h2 e (HandSPX.excO C t0) C none := ⟨he2, rfl, rfl, trivial⟩
    refine kxs_getMethod kxs_ValueError e2 (looks_opaque K2 Z.any) (l₀ := cdD.mro) (fun A Q E s k q => wpAny_bind ((looks_clsIn K2 hD) A _ E s k (wpAny_pure q))) rfl K2 ?_ (I2.type.andThen (looks_subIn K2 Z.subB)) (Ne.symm hne) (by decide) ?_
    · have := Z.sup
      unfold ks_superIn at this
      rw [hD] at this
      exact this
    have k3 : ∀ b o, h2.get? b = some o → (h2.push (kxs_mw "ValueError.__init__" e)).get? b = some o := fun b o z => Heap.get?_push_of_some _ z
    have hu3 : (h2.push (kxs_mw "ValueError.__init__" e)).get? h2.objs.size = some (kxs_mw "ValueError.__init__" e) := Heap.get?_push_size _ rfl
    refine kxs_callWith (i := "ValueError.__init__") (x := e) rfl (evalArgs_plain (Calls.spliced_cons ?_))
    have ns3 := hns.keeps (fun b o z => k3 b o (k2 b o z))
    refine wpAny_Name (wpAny_loadName_local hk ny ns3 vy (Calls.spliced_nil ⟨hu3, ?_⟩)) Z.ydb
    have K3 : K.In (h2.push (kxs_mw "ValueError.__init__" e)) := K2.keeps k3
    refine call_mw F.excBase_ValueError (K3 _ _ hC) (k3 _ _ he2) hu3 (by rw [sizeLine_eq]; show 1 ≤ 16777216; decide) (fun h4 t1 k4 he4 hs4 => ?_)
    have up : ∀ b o, b ≠ e → h₁.get? b = some o → h4.get? b = some o := fun b o hb z => k4 b o hb (k3 _ _ (k2 _ _ z))
    have bk4 : ∀ b o, base.get? b = some o → h4.get? b = some o := fun b o z => up b o (fun x => by rw [x, hbe] at z; cases z) (bk1 b o z)
    have K4 : K.In h4 := M.kin.keeps bk4
    have hLe : h.objs.size ≠ e := fun z => by
      have := Heap.lt_size he
      rw [z] at this
      exact absurd this (Nat.lt_irrefl _)
    have ns4 : h4.Ns h.objs.size (fun x => List.lookup x ([("self", Value.ref e), (y, u)] : List (Str × Value)).reverse) := by
      obtain ⟨o, es, ep, z1, z2⟩ := hns
      exact ⟨o, es, ep, up _ _ hLe z1, z2⟩
    refine wpAt_of_wpAny (wpAny_execs_cons (plainObj_wpAny_Assign_Attribute (wpAny_Name (wpAny_loadName_local hk ny ns4 vy (wpAny_Name (wpAny_loadName_local hk nself ns4 vself ?_) (by decide))) Z.ydb) (hsw2 _)))
    · have hcl : clsIn K C = some { name := nm, bases := bs, mro := .ref C :: bm, ns := N, qualname := q, hasDict := true, slotNames := sn, subclasses := sub, abstract := ab, collection := col, hasDel := false } := by unfold clsIn; rw [hC] <;> rfl
      refine set_plain K4 (ox := { cls := .ref C, dict := none, data := .fields #[.ref t1, .none, .none, .none, .bool false, .none] }) (od := none) ⟨he4, rfl, rfl, trivial⟩ Z.oex.sa ?_
      refine HandSPX.exc_osa K4 he4 hcl (show HandSPX.refsVE (.ref C :: bm) = true from hbm) rfl Z.noF (fun h5 tk5 dx k5 dn dne hx5 hn5 => ?_)
      refine wpAny_execs_nil (hq h5 tk5 dx t1 (fun b o hb z => k5 b o hb (up b o hb (hk₁ _ _ z))) ?_ dne hx5 hn5)
      have g1 : h.objs.size ≤ h4.objs.size := by
        obtain ⟨o, es, ep, z1, z2⟩ := ns4
        exact Nat.le_of_lt (Heap.lt_size z1)
      exact Nat.le_trans g1 dn
end
section
open PyProof.Rows
variable {X : Cx} {x f y : Str} {C fI : Addr} {e : Expr} {ta : TA} {p pos : Pos} {k : Nat}
theorem pmk_sup (Z : SupC X.prog X.K C fI f y) (hsup : X.mg "super" = none) (hr : Room (k + 1) X.A) (hg : Gl X x) (hm : X.mg x = some (.ref C)) (ha : PA X [e] ta)
    (hdb : (x == ("__debug__" : Str)) = false := by decide) (he : starEach [e] X.env = (false, eval e X.env) :: starEach [] X.env := by rfl) (hpl : (backTo pos (starEach [] X.env)).any (·.1) = false := by rfl) :
    PMk X (.Call (.Name x p) [e] [] pos) (fun σ H Q => ta σ H fun vs H1 => ∃ v, vs = [v] ∧ ∀ d, H1 d = none → Q (.ref C) (some d) (upd H1 d (.xd [(f, v)]))) := by
  intro pins s σ H Q I h
  have T := Z.oex
  obtain ⟨nm, q, N, bs, bm, sn, sub, ab, col,
      dd, k0, k1, k2, k3, k5, hC, hbm⟩ := T.cls
  refine wpAny_Call_Name_kw
      (ld_glob I hg hm ?_ hdb)
  refine PySem.W.callWith_K (h₀ := X.base) I.ok.mod.kin T.kC (thn (ha.run pos pins s σ H _ I h) fun us s1 ⟨vs, H1, I1, r1, v, ev, q1⟩ => ⟨I1.kIn, ?_⟩) he hpl
  subst ev
  obtain ⟨u, rfl,
      ru⟩ := vals1 r1
  show wpAny _ _ (call
      (.ref C) [u]) _ _ _
  obtain ⟨hp, g,
      dr, tk, os⟩ := s1
  have hsz : hp.objs.size ≤
      hp.objs.size + 1 := Nat.le_succ _
  have hn : H1 (hp.objs.size +
      1) = none := I1.hok.fresh hsz
  have kk : ∀ b o, hp.get? b = some o → ((hp.push (PySem.W.kdv_tup [u])).push (PySem.HandSPX.excO C hp.objs.size)).get? b = some o := fun b o e => Heap.get?_push_of_some _ (Heap.get?_push_of_some _ e)
  have hget : ((hp.push (PySem.W.kdv_tup [u])).push (PySem.HandSPX.excO C hp.objs.size)).get? (hp.objs.size + 1) = some (PySem.HandSPX.excO C hp.objs.size) := by heap_get
  have nlt : ∀ {b : Addr} {o : Obj}, hp.get? b = some o → b ≠ hp.objs.size + 1 := fun {b o} z w => by
    have := Heap.lt_size z
    rw [w] at this
    exact absurd this (Nat.not_lt.mpr hsz)
  refine wpAny_call (PySem.HandSPX.call_own F.excBase_ValueError (fun Y => PySem.HandSPX.refsVE_contains Y bm hbm) (I1.kIn _ _ hC) (PySem.W.looks_findIn I1.kIn Z.iC) (fun self => PySem.W.bind_fn I1.kIn self Z.tI) (by rw [sizeLine_eq]; show 1 ≤ 16777216; decide)
    (init_run Z I1.ok.mod hsup (fun b o z => kk b o (I1.bk b o z)) (hr.make C [u] []).depth ?_ hget fun h' tk' dx t1 k' hdx dne hx hns => ?_))
  · cases z : X.base.get? (hp.objs.size + 1) with
    | none => rfl
    | some o => exact absurd rfl (nlt (I1.bk _ _ z))
  · obtain ⟨G, g1', g2'⟩ := restrict h' fun b => decide (b ≠ hp.objs.size + 1)
    have gk : ∀ b, b ≠ hp.objs.size + 1 → G.get? b = h'.get? b := fun b hb => g1' b (decide_eq_true hb)
    have ge : G.get? (hp.objs.size + 1) = none := g2' _ (by simp)
    have kG : ∀ b o, hp.get? b = some o → G.get? b = some o := fun b o z => by rw [gk b (nlt z)]; exact k' b o (nlt z) (kk b o z)
    have hdx2 : hp.objs.size ≤ dx := by
      refine Nat.le_trans ?_ hdx
      simp
      omega
    have hnd : H1 dx = none := I1.hok.fresh hdx2
    have J := I1.laid (t' := tk') (a := dx) (o := .xd [(f, v)]) (h' := G) kG hdx2 ⟨_, hns.at fun o z => (gk dx dne).trans z, fun g => relO_put (fs := []) (mA := fun _ => none) ru (fun g => True.intro) g⟩
    refine ⟨rfl, ⟨hp.objs.size + 1, _, _, _, _, .ref C, some dx, rfl, J, fun b o z => ?_, ge, hx, ⟨rfl, rfl⟩, rfl, rfl, ?_, rfl, I1.bare, raises_own T.exC T.tyC, q1 dx hnd⟩⟩
    · by_cases hb : b = hp.objs.size + 1
      · rw [hb] at z
        rw [show G.get? (hp.objs.size + 1) = some o from z] at ge
        cases ge
      · exact (gk b hb).symm.trans z
    · rw [upd_ne (Ne.symm dne)]
      exact hn
end
/-- raise C(e) -/
def sRaise (c f : Str) (m : ME) : MS := fun ρ => m ρ >>= fun a => .error (.exc c f (frz a.1))
section
variable {X : Cx} {D : DX} {W : WX} {x f y : Str} {C fI : Addr} {e : Expr} {m : ME} {p pos rpos : Pos} {k : Nat}
theorem ds_raise (hc : X.calm = true) (Z : SupC X.prog X.K C fI f y) (hsup : X.mg "super" = none) (hr : Room (k + 1) X.A) (hg : Gl X x) (hm : X.mg x = some (.ref C)) (tk : Takes X W) (h : DM X D W e m)
    (hdb : (x == ("__debug__" : Str)) = false := by decide) (he : starEach [e] X.env = (false, eval e X.env) :: starEach [] X.env := by rfl) (hpl : (backTo pos (starEach [] X.env)).any (·.1) = false := by rfl) :
    DS X D W (.Raise (some (.Call (.Name x p) [e] [] pos)) none rpos) (sRaise x f m) := by
  obtain ⟨t, hp, hs⟩ := h
  refine ⟨_, ps_raise hc tk (pmk_sup Z hsup hr hg hm (pa_cons hp pa_nil he) hdb he hpl), fun F H Ls σ ρ N S o => hs F H Ls σ ρ _ S (fS o fun p ρ1 F1 H1 Ls1 v S1 e1 V1 o1 => ?_)⟩
  refine ⟨v, rfl, fun d hd => ?_⟩
  have o1 : ∀ σ', OutX X.K X.mg W σ' F1 H1 Ls1 x f (frz p) := o1
  refine o1 σ F1 (upd H1 d (.xd [(f, v)])) C d v ⟨fun b o z => ?_, S1.fob⟩ ?_ hm upd_same V1
  · rw [upd_ne (ne_of_none (S1.sub _ _ z) hd)]
    exact S1.sub _ _ z
  · exact ⟨Sub.refl _, (Ev.alloc (F := F1) (Ls := Ls1) hd).frame, fun _ z => .inl z, (fun i b z => by cases z), (Ev.alloc (F := F1) (Ls := Ls1) hd).obs, (Ev.alloc (F := F1) (Ls := Ls1) hd).tabs⟩
end
end PX
set_option Elab.async false
set_option linter.all false
set_option maxRecDepth 100000
set_option maxHeartbeats 3900000
namespace PX
open PySem L2
variable [HasT]

/-! ### slices -/
def MO := Rho → R (Option Int × Rho)
def oNo : MO := fun ρ => .ok (none, ρ)
def oSome (m : ME) : MO := fun ρ => m ρ >>= fun a => match a.1 with
  | .int i => .ok (some i, a.2)
  | _ => .error .stuck
def OutO (K : Frag) (mg : Mg) (D : DX) (W : WX) (F H : Hp) (Ls : Lb) (σ : St) (Q : Option Int → Hp → Prop) : R (Option Int × Rho) → Prop
  | .ok (b, ρ') => ∀ F' H' Ls', SA K mg D F' H' Ls' σ ρ' → Ev F H Ls F' H' Ls' → Q b H'
  | .error (.exc c f pl) => OutX K mg W σ F H Ls c f pl
  | .error .stuck => False
def DO (X : Cx) (D : DX) (W : WX) (o : Option Expr) (m : MO) : Prop :=
  ∃ t, PO X o t ∧ ∀ F H Ls σ ρ Q, SA X.K X.mg D F H Ls σ ρ → OutO X.K X.mg D W F H Ls σ Q (m ρ) → t σ H Q
theorem OutO.step {K : Frag} {mg : Mg} {D : DX} {W : WX} {F H F1 H1 : Hp} {Ls Ls1 : Lb} {σ : St} {Q : Option Int → Hp → Prop} (e : Ev F H Ls F1 H1 Ls1) : ∀ {r : R (Option Int × Rho)}, OutO K mg D W F H Ls σ Q r → OutO K mg D W F1 H1 Ls1 σ Q r
  | .ok (p, ρ'), h => fun F' H' Ls' S ev => h F' H' Ls' S (e.trans ev)
  | .error (.exc c f pl), h => OutX.step e h
  | .error .stuck, h => h
section
variable {K : Frag} {mg : Mg} {D : DX} {W : WX} {F H : Hp} {Ls : Lb} {σ : St} {ρ : Rho}
theorem eO {Q1 : VK} {tmp1 : Bool} {Q : Option Int → Hp → Prop} {ma : ME} {k : PV × Rho → R (Option Int × Rho)} (h : OutO K mg D W F H Ls σ Q (ma ρ >>= k))
    (hk : ∀ p ρ1 F1 H1 Ls1 L x, SA K mg D F1 H1 Ls1 σ ρ1 → Ev F H Ls F1 H1 Ls1 → Val K mg F1 H1 L [] p x → (tmp1 = true → Tmp F1 H1 Ls1 L H) → OutO K mg D W F1 H1 Ls1 σ Q (k (p, ρ1)) → Q1 x H1) :
    OutE K mg D W F H Ls σ Q1 tmp1 (ma ρ) := seqE (fun F H Ls r => OutO K mg D W F H Ls σ Q r) (fun _ _ _ h => h) (fun _ _ _ _ e h => h.step e) (fun _ _ _ h => h) h hk
theorem oE {Q1 : Option Int → Hp → Prop} {tmp : Bool} {Q : VK} {ma : MO} {k : Option Int × Rho → R (PV × Rho)} (h : OutE K mg D W F H Ls σ Q tmp (ma ρ >>= k))
    (hk : ∀ o ρ1 F1 H1 Ls1, SA K mg D F1 H1 Ls1 σ ρ1 → Ev F H Ls F1 H1 Ls1 → OutE K mg D W F1 H1 Ls1 σ Q tmp (k (o, ρ1)) → Q1 o H1) : OutO K mg D W F H Ls σ Q1 (ma ρ) := by
  revert h
  rcases ma ρ with (⟨c, f, pl⟩ | _) | ⟨p, ρ1⟩
  · exact fun h => h
  · exact fun h => h
  · exact fun h F1 H1 Ls1 S1 e1 => hk p ρ1 F1 H1 Ls1 S1 e1 (h.step e1)
end
def cutP (xs : List PV) (lo hi : Option Int) : List PV := (xs.drop (HT.sIx xs.length 0 lo)).take (HT.sIx xs.length xs.length hi - HT.sIx xs.length 0 lo)
def pySlice (p : PV) (lo hi : Option Int) : R PV := match p with
  | .lst _ xs => if fzL xs = true then .ok (.lst true (cutP xs lo hi)) else .error .stuck
  | .tup xs => .ok (.tup (cutP xs lo hi))
  | .scr xs => .ok (.lst true (cutP xs lo hi))
  | .str z => if z.length ≤ sizeLine then .ok (.str (cutS z lo hi)) else .error .stuck
  | _ => .error .stuck
def rSlAll (K : Frag) : V → Option Int → Option Int → Hp → VK → Prop := fun x lo hi H Q => rSlL K x lo hi H Q ∨ (rSlA K x lo hi H Q ∨ rSlS x lo hi H Q)
theorem sl_all {X : Cx} : SlR X (rSlAll X.K) := sl_list.or (sl_tupA.or sl_str)
section
variable {K : Frag} {mg : Mg} {F : Hp}
theorem FzL.drop : ∀ (n : Nat) {xs : List PV} {vs : List V}, FzL K mg F xs vs → FzL K mg F (xs.drop n) (vs.drop n)
  | 0, _, _, h => h
  | n + 1, [], vs, h => by simp only [FzL] at h; subst h; simp [FzL]
  | n + 1, x :: xs, vs, h => by
    simp only [FzL] at h
    obtain ⟨v, vr, rfl, _, h⟩ := h
    exact FzL.drop n h
theorem FzL.take : ∀ (n : Nat) {xs : List PV} {vs : List V}, FzL K mg F xs vs → FzL K mg F (xs.take n) (vs.take n)
  | 0, _, _, h => by simp [FzL]
  | n + 1, [], vs, h => by simp only [FzL] at h; subst h; simp [FzL]
  | n + 1, x :: xs, vs, h => by
    simp only [FzL] at h
    obtain ⟨v, vr, rfl, h1, h⟩ := h
    simp only [List.take_succ_cons, FzL]
    exact ⟨v, _, rfl, h1, FzL.take n h⟩
theorem FzL.cut {xs : List PV} {vs : List V} {lo hi : Option Int} (h : FzL K mg F xs vs) : FzL K mg F (cutP xs lo hi) (cutV vs lo hi) := by
  unfold cutP cutV
  rw [← h.length]
  exact (h.drop _).take _
theorem cutP_whole {xs : List PV} {lo hi : Option Int} (h1 : HT.sIx xs.length 0 lo = 0) (h2 : HT.sIx xs.length xs.length hi = xs.length) : cutP xs lo hi = xs := by
  unfold cutP
  rw [h1, h2]
  simp
theorem slice_spec {D : DX} {W : WX} {H : Hp} {Ls : Lb} {σ : St} {ρ : Rho} {Q : VK} {tmp : Bool} {p : PV} {x : V} {L : LM} {lo hi : Option Int} (S : SA K mg D F H Ls σ ρ) (V : Val K mg F H L [] p x)
    (o : OutE K mg D W F H Ls σ Q tmp (pySlice p lo hi >>= fun z => .ok (z, ρ))) : rSlAll K x lo hi H Q := by
  unfold pySlice at o
  split at o
  · split at o
    · rename_i hf
      obtain ⟨a, vs, rfl, r, h⟩ := V.list S.sub
      exact .inl ⟨a, vs, rfl, .inl r, newL S (h.fzz hf).cut o⟩
    · exact o.elim
  · obtain ⟨a, vs, rfl, r, h⟩ := V.tuple S.sub
    refine .inr (.inl ⟨a, vs, rfl, S.sub.seqT r, fun hw => ?_, fun _ => newT S h.cut o⟩)
    rw [← h.length] at hw
    rw [cutP_whole hw.1 hw.2] at o
    exact OutE.pure o S (by simp only [Fz]; exact ⟨a, vs, rfl, r, h⟩)
  · simp only [Val] at V
    obtain ⟨a, vs, rfl, r, h⟩ := V
    exact .inl ⟨a, vs, rfl, S.sub.seqLL r, newL S h.cut o⟩
  · split at o
    · rename_i hz
      simp only [Val] at V
      subst V
      exact .inr (.inr ⟨_, rfl, hz, OutE.pure (v := .str _) o S (by simp [Fz])⟩)
    · exact o.elim
  · exact o.elim
end
/-- x[lo:hi], x a name -/
def eSliN (i : Nat) (mlo mhi : MO) : ME := fun ρ => match ρ[i]? with
  | some (some _) => mlo ρ >>= fun a => mhi a.2 >>= fun b => match b.2[i]? with
    | some (some p) => pySlice p a.1 b.1 >>= fun z => .ok (z, b.2)
    | _ => .error .stuck
  | _ => .error .stuck
def eSli (m : ME) (mlo mhi : MO) : ME := fun ρ => m ρ >>= fun c => mlo c.2 >>= fun a => mhi a.2 >>= fun b => pySlice (frz c.1) a.1 b.1 >>= fun z => .ok (z, b.2)
section
variable {X : Cx} {D : DX} {W : WX} {pos p2 px : Pos} {e : Expr} {lo hi : Option Expr} {m : ME} {mlo mhi : MO} {tmp : Bool} {i : Nat} {x : Str}
theorem do_none : DO X D W none oNo := ⟨_, po_none, fun F H Ls σ ρ Q S o => o F H Ls S Ev.refl⟩
theorem do_some {t1 : Bool} (h : DE' t1 X D W e m) : DO X D W (some e) (oSome m) := by
  obtain ⟨t, hp, hs⟩ := h
  refine ⟨_, po_some hp, fun F H Ls σ ρ Q S o => hs F H Ls σ ρ _ S (eO o fun p ρ1 F1 H1 Ls1 L1 x S1 e1 V1 _ o1 => ?_)⟩
  dsimp only at o1
  split at o1
  · simp only [Val] at V1
    exact ⟨_, V1, o1 F1 H1 Ls1 S1 Ev.refl⟩
  · exact o1.elim
theorem de_sliN (hx : Sl X i x) (hl : DO X D W lo mlo) (hh : DO X D W hi mhi) : DE' tmp X D W (.Subscript (.Name x px) (.Slice lo hi none p2) pos) (eSliN i mlo mhi) := by
  obtain ⟨tl, pl, sl⟩ := hl
  obtain ⟨th, ph, sh⟩ := hh
  refine ⟨_, pe_slice sl_all (pe_var hx.1 hx.2.1 hx.2.2.1 hx.2.2.2) pl ph, fun F H Ls σ ρ Q S o => ?_⟩
  unfold eSliN at o
  split at o
  · rename_i p0 e0
    obtain ⟨v, e1, hv⟩ := S.slot i p0 e0
    refine ⟨v, e1, sl F H Ls σ ρ _ S (oE o fun a ρ1 F1 H1 Ls1 S1 ev1 o1 => sh F1 H1 Ls1 σ ρ1 _ S1 (oE o1 fun b ρ2 F2 H2 Ls2 S2 ev2 o2 => ?_))⟩
    dsimp only at o2
    split at o2
    · rename_i p e
      obtain ⟨v2, e3, hv2⟩ := S2.slot i p e
      rw [e1] at e3
      cases e3
      exact slice_spec S2 hv2 o2
    · exact o2.elim
  · exact o.elim
theorem de_sli (h : DM X D W e m) (hl : DO X D W lo mlo) (hh : DO X D W hi mhi) : DE' tmp X D W (.Subscript e (.Slice lo hi none p2) pos) (eSli m mlo mhi) := by
  obtain ⟨t, hp, hs⟩ := h
  obtain ⟨tl, pl, sl⟩ := hl
  obtain ⟨th, ph, sh⟩ := hh
  refine ⟨_, pe_slice sl_all hp pl ph, fun F H Ls σ ρ Q S o => hs F H Ls σ ρ _ S (fE o fun c ρ0 F0 H0 Ls0 v S0 ev0 V0 o0 => sl F0 H0 Ls0 σ ρ0 _ S0 (oE o0 fun a ρ1 F1 H1 Ls1 S1 ev1 o1 => sh F1 H1 Ls1 σ ρ1 _ S1 (oE o1 fun b ρ2 F2 H2 Ls2 S2 ev2 o2 => ?_)))⟩
  exact slice_spec S2 ((V0.mono ev1.mono _ _).mono ev2.mono _ _).val (L := noL) o2
end

/-! ### texts: split, join; list.index -/
def pySplit : PV → PV → R PV
  | .str a, .str b => if (b.length == 0) = false ∧ a.length + 2 ≤ sizeLine then .ok (.lst true ((Txt.split a b).map .str)) else .error .stuck
  | _, _ => .error .stuck
def pyJoin : PV → PV → R PV
  | .str a, .lst _ xs => match pyStrs xs with
    | some ys => if (ys.map (·.length)).sum + ys.length * a.length ≤ 16777216 then .ok (.str (Txt.join a ys)) else .error .stuck
    | none => .error .stuck
  | _, _ => .error .stuck
def findD (d : PyData) : List PyData → Nat → Option Nat
  | [], _ => none
  | z :: r, j => if PyData.eqv z d = true then some j else findD d r (j + 1)
theorem findD_spec {d : PyData} : ∀ {r : List PyData} {j k : Nat}, findD d r j = some k → ∃ i z, k = j + i ∧ r[i]? = some z ∧ PyData.eqv z d = true ∧ ∀ m z', m < i → r[m]? = some z' → PyData.eqv z' d = false
  | [], _, _, h => by cases h
  | z :: r, j, k, h => by
    unfold findD at h
    split at h
    · rename_i hz
      cases h
      exact ⟨0, z, rfl, rfl, hz, fun m _ hm => absurd hm (Nat.not_lt_zero m)⟩
    · rename_i hz
      obtain ⟨i, y, rfl, h1, h2, h3⟩ := findD_spec h
      refine ⟨i + 1, y, by omega, by simpa using h1, h2, fun m z' hm e => ?_⟩
      cases m with
      | zero => simp at e; subst e; simpa using hz
      | succ m => exact h3 m z' (by omega) (by simpa using e)
def pyIndex : PV → PV → R PV
  | .lst _ xs, y => match toDL xs, toD y with
    | some ds, some d => if SeqAt.shaped (.list ds) = true ∧ SeqAt.shaped d = true then match findD d ds 0 with
        | some j => .ok (.int (j : Nat))
        | none => .error .stuck
      else .error .stuck
    | _, _ => .error .stuck
  | _, _ => .error .stuck
/-- o.m(e): what o is is seen ahead of e -/
def eM1 (ok : PV → Bool) (g : PV → PV → R PV) (ma mb : ME) : ME := fun ρ => ma ρ >>= fun a => if ok a.1 = true ∧ fz a.1 = true then mb a.2 >>= fun b => g a.1 b.1 >>= fun z => .ok (z, b.2) else .error .stuck
def isStr : PV → Bool
  | .str _ => true
  | _ => false
def isLst : PV → Bool
  | .lst _ _ => true
  | _ => false
section
variable {X : Cx} {D : DX} {W : WX} {pos apos : Pos} {o e : Expr} {mo me : ME} {tmp t1 t2 : Bool}
theorem m1_spec {ok : PV → Bool} {g : PV → PV → R PV} {r : R2} {pre : V → Hp → Prop} {ta tb : TE} (hs : OpS X.K X.mg r g) (hpre : ∀ F H p x, ok p = true → Sub F H → Fz X.K X.mg F p x → pre x H)
    (h1 : ∀ F H Ls σ ρ Q, SA X.K X.mg D F H Ls σ ρ → OutE X.K X.mg D W F H Ls σ Q t1 (mo ρ) → ta σ H Q) (h2 : ∀ F H Ls σ ρ Q, SA X.K X.mg D F H Ls σ ρ → OutE X.K X.mg D W F H Ls σ Q t2 (me ρ) → tb σ H Q)
    {F H : Hp} {Ls : Lb} {σ : St} {ρ : Rho} {Q : VK} (S : SA X.K X.mg D F H Ls σ ρ) (o : OutE X.K X.mg D W F H Ls σ Q tmp (eM1 ok g mo me ρ)) : ta σ H fun x H1 => pre x H1 ∧ tb σ H1 fun y H2 => r x y H2 Q := by
  refine h1 F H Ls σ ρ _ S (eE o fun p ρ1 F1 H1 Ls1 L1 x S1 e1 V1 _ o1 => ?_)
  dsimp only at o1
  split at o1
  · rename_i hc
    have V := V1.fzz _ _ _ hc.2
    refine ⟨hpre F1 H1 p x hc.1 S1.sub V, h2 F1 H1 Ls1 σ ρ1 _ S1 (eE o1 fun q ρ2 F2 H2 Ls2 L2 y S2 e2 V2 _ o2 => ?_)⟩
    exact hs D W F2 H2 Ls2 σ ρ2 Q tmp p q x y noL L2 S2 (V.mono e2.mono _ _).val V2 o2
  · exact o1.elim
theorem preS {K : Frag} {mg : Mg} (F H : Hp) (p : PV) (x : V) (h : isStr p = true) (s : Sub F H) (f : Fz K mg F p x) : ∃ a, x = .str a := by
  cases p with
  | str a => simp only [Fz] at f; exact ⟨a, f⟩
  | _ => cases h
theorem preL {K : Frag} {mg : Mg} (F H : Hp) (p : PV) (x : V) (h : isLst p = true) (s : Sub F H) (f : Fz K mg F p x) : tyV K "list" x H := by
  cases p with
  | lst _ _ =>
    obtain ⟨a, vs, rfl, r, _⟩ := f.list
    exact .inl ⟨rfl, vs, s.seqL r⟩
  | _ => cases h
def rSplit2 : R2 := fun x y H Q => ∃ a b, x = .str a ∧ [y] = [.str b] ∧ (b.length == 0) = false ∧ a.length + 2 ≤ sizeLine ∧ rNewStrs (Txt.split a b) H Q
def rJoin2 (K : Frag) : R2 := fun x y H Q => ∃ a p, ∃ ys : List Str, x = .str a ∧ [y] = [.ref p] ∧ (SqL K H p (ys.map V.str) ∨ SqT K H p (ys.map V.str)) ∧ (ys.map (·.length)).sum + ys.length * a.length ≤ 16777216 ∧ Q (.str (Txt.join a ys)) H
theorem ops_split {K : Frag} {mg : Mg} : OpS K mg rSplit2 pySplit := by
  intro D W F H Ls σ ρ Q tmp p q x y L1 L2 S V1 V2 o
  unfold pySplit at o
  split at o
  · simp only [Val] at V1 V2
    subst V1 V2
    split at o
    · rename_i hc
      exact ⟨_, _, rfl, rfl, hc.1, hc.2, newL S (FzL.ofStrs _) o⟩
    · exact o.elim
  · exact o.elim
theorem ops_join {K : Frag} {mg : Mg} : OpS K mg (rJoin2 K) pyJoin := by
  intro D W F H Ls σ ρ Q tmp p q x y L1 L2 S V1 V2 o
  unfold pyJoin at o
  split at o
  · split at o
    · rename_i ys hy
      split at o
      · rename_i hc
        simp only [Val] at V1
        subst V1
        obtain ⟨a, vs, rfl, r, h⟩ := V2.list S.sub
        refine ⟨_, a, ys, rfl, rfl, .inl ?_, hc, OutE.pure (v := .str _) o S (by simp [Fz])⟩
        rw [← h.pyStrs hy]
        exact .inl r
      · exact o.elim
    · exact o.elim
  · exact o.elim
def rIndex2 (K : Frag) : R2 := fun x y H Q => rIndexD K x [y] H Q
theorem ops_index {K : Frag} {mg : Mg} : OpS K mg (rIndex2 K) pyIndex := by
  intro D W F H Ls σ ρ Q tmp p q x y L1 L2 S V1 V2 o
  unfold pyIndex at o
  split at o
  · split at o
    · rename_i ds d hds hd
      split at o
      · rename_i hc
        split at o
        · rename_i j hj
          obtain ⟨i, z, e, h1, h2, h3⟩ := findD_spec hj
          have e : i = j := by omega
          subst e
          have W1 := V1.dpL S.sub hds
          obtain ⟨a, vs, rfl, r, h⟩ := V1.list S.sub
          exact ⟨a, y, d, ds, i, z, rfl, rfl, W1, Val.dp S.sub _ _ _ _ V2 hd, hc.1, hc.2, h1, h2, h3, OutE.pure (v := .int _) o S (by simp [Fz])⟩
        · exact o.elim
      · exact o.elim
    · exact o.elim
  · exact o.elim
theorem de_split (ho : DE' t1 X D W o mo) (he : DE' t2 X D W e me) (hst : starEach [e] X.env = [(false, eval e X.env)] := by rfl) (hbase : attributeBase o "split" X.env (eval o X.env) = eval o X.env := by rfl) (hline : (apos.endLine == pos.line) = true := by rfl) :
    DE' tmp X D W (.Call (.Attribute o "split" apos) [e] [] pos) (eM1 isStr pySplit mo me) := by
  obtain ⟨ta, pa, h1⟩ := ho
  obtain ⟨tb, pb, h2⟩ := he
  exact ⟨_, pe_split pa pb hst hbase hline, fun F H Ls σ ρ Q S o => m1_spec ops_split preS h1 h2 S o⟩
theorem de_join (ho : DE' t1 X D W o mo) (he : DE' t2 X D W e me) (hst : starEach [e] X.env = [(false, eval e X.env)] := by rfl) (hbase : attributeBase o "join" X.env (eval o X.env) = eval o X.env := by rfl) (hline : (apos.endLine == pos.line) = true := by rfl) :
    DE' tmp X D W (.Call (.Attribute o "join" apos) [e] [] pos) (eM1 isStr pyJoin mo me) := by
  obtain ⟨ta, pa, h1⟩ := ho
  obtain ⟨tb, pb, h2⟩ := he
  exact ⟨_, pe_join pa pb hst hbase hline, fun F H Ls σ ρ Q S o => m1_spec ops_join preS h1 h2 S o⟩
theorem de_index (hu : X.A.units + 65 < cLine) (ho : DE' t1 X D W o mo) (he : DE' t2 X D W e me) (hbase : attributeBase o "index" X.env (eval o X.env) = eval o X.env := by rfl)
    (hfew : ((backTo pos (starEach [e] X.env)).all (fun x => !x.1) && (backToKw pos (keywordEach [] X.env)).all (fun x => x.1.isSome) && decide ([e].length + ([] : List Keyword).length + (if ([] : List Keyword).isEmpty then 0 else 1) < 30)) = true := by rfl)
    (hline : (apos.endLine == pos.line) = true := by rfl) (hs : starEach [e] X.env = (false, eval e X.env) :: starEach [] X.env := by rfl) (hplain : (backTo pos (starEach [] X.env)).any (·.1) = false := by rfl) :
    DE' tmp X D W (.Call (.Attribute o "index" apos) [e] [] pos) (eM1 isLst pyIndex mo me) := by
  obtain ⟨ta, pa, h1⟩ := ho
  obtain ⟨tb, pb, h2⟩ := he
  exact ⟨_, pe_bm PySem.F.plainAttrs_list PySem.F.slot_list_index PySem.F.type_list_index (mt_indexD hu) pa (pa_cons pb pa_nil hs) hbase hfew hline hs hplain, fun F H Ls σ ρ Q S o => m1_spec ops_index preL h1 h2 S o⟩
end
end PX
set_option Elab.async false
set_option linter.all false
set_option maxRecDepth 100000
set_option maxHeartbeats 3900000
namespace PX
open PySem L2
variable [HasT]

/-! ### fields -/
def fldI (f : Str) : List Str → Option Nat
  | [] => none
  | g :: r => if f == g then some 0 else (fldI f r).map (· + 1)
theorem lookup_zip {f : Str} : ∀ {fs : List Str} {vs : List V} {j : Nat}, fldI f fs = some j → fs.length = vs.length → (fs.zip vs).lookup f = vs[j]?
  | [], _, _, h, _ => by cases h
  | g :: r, [], _, _, hl => by cases hl
  | g :: r, v :: vs, j, h, hl => by
    unfold fldI at h
    simp only [List.zip_cons_cons, List.lookup]
    split at h
    · rename_i e
      cases h
      rw [e]
      rfl
    · rename_i e
      rw [Option.map_eq_some_iff] at h
      obtain ⟨i, hi, rfl⟩ := h
      have e : (f == g) = false := by simpa using e
      rw [e]
      simpa using lookup_zip (vs := vs) hi (by simpa using hl)
theorem lookup_zip_none {f : Str} : ∀ {fs : List Str} {vs : List V}, fldI f fs = none → (fs.zip vs).lookup f = none
  | [], _, _ => rfl
  | g :: r, [], _ => rfl
  | g :: r, v :: vs, h => by
    unfold fldI at h
    simp only [List.zip_cons_cons, List.lookup]
    split at h
    · cases h
    · rename_i e
      have e : (f == g) = false := by simpa using e
      rw [e]
      exact lookup_zip_none (by simpa using h)
theorem putF_old {f : Str} {y : V} : ∀ {fs : List Str} {vs : List V} {j : Nat}, fldI f fs = some j → fs.length = vs.length → putF f y (fs.zip vs) = fs.zip (vs.set j y)
  | [], _, _, h, _ => by cases h
  | g :: r, [], _, _, hl => by cases hl
  | g :: r, v :: vs, j, h, hl => by
    unfold fldI at h
    simp only [List.zip_cons_cons, putF]
    split at h
    · rename_i e
      cases h
      have e : f = g := by simpa using e
      rw [if_pos e.symm]
      rfl
    · rename_i e
      rw [Option.map_eq_some_iff] at h
      obtain ⟨i, hi, rfl⟩ := h
      have e : f ≠ g := by simpa using e
      rw [if_neg (Ne.symm e), putF_old hi (by simpa using hl)]
      rfl
theorem putF_new {f : Str} {y : V} : ∀ {fs : List Str} {vs : List V}, fldI f fs = none → fs.length = vs.length → putF f y (fs.zip vs) = (fs ++ [f]).zip (vs ++ [y])
  | [], [], _, _ => rfl
  | [], _ :: _, _, hl => by cases hl
  | g :: r, [], _, hl => by cases hl
  | g :: r, v :: vs, h, hl => by
    unfold fldI at h
    simp only [List.zip_cons_cons, putF]
    split at h
    · cases h
    · rename_i e
      have e : f ≠ g := by simpa using e
      rw [if_neg (Ne.symm e), putF_new (by simpa using h) (by simpa using hl)]
      rfl
/-- what the written part says of the class named c and its field f -/
structure FldC (K : Frag) (mg : Mg) (c f : Str) : Prop where
  ok : ∀ C, mg c = some (.ref C) → Cls K C ∧ NoAttr K C f
def pyFld (c f : Str) : PV → R PV
  | .ins _ c' fs xs => if c' = c then match fldI f fs with
      | some j => match xs[j]? with
        | some p => .ok p
        | none => .error .stuck
      | none => .error .stuck
    else .error .stuck
  | _ => .error .stuck
def eFld (c f : Str) (m : ME) : ME := fun ρ => m ρ >>= fun a => pyFld c f a.1 >>= fun z => .ok (z, a.2)
section
variable {K : Frag} {mg : Mg} {F H : Hp} {L : LM}
theorem Val.ins {w : List Nat} {o : Bool} {c : Str} {fs : List Str} {xs : List PV} {v : V} (s : Sub F H) (h : Val K mg F H L w (.ins o c fs xs) v) : ∃ a C dx vs, v = .ref a ∧ mg c = some (.ref C) ∧ fs.length = vs.length ∧ H a = some (.ins C dx (fs.zip vs)) ∧ ValL K mg F H L w 0 xs vs := by
  simp only [Val] at h
  obtain ⟨a, C, dx, vs, e, q1, q2, q⟩ := h
  cases o with
  | true =>
    simp only [if_true] at q
    exact ⟨a, C, dx, vs, e, q1, q2, q.2.1, q.2.2⟩
  | false =>
    simp only [Bool.false_eq_true, if_false] at q
    exact ⟨a, C, dx, vs, e, q1, q2, s _ _ q.1, q.2.valL⟩
theorem shift_some {w : List Nat} {a : Addr} (h : (shift w L a).isSome = true) : (L a).isSome = true := by
  unfold shift at h
  cases q : L a with
  | none => rw [q] at h; cases h
  | some u => rfl
end
section
variable {X : Cx} {D : DX} {W : WX} {pos : Pos} {e : Expr} {m : ME} {tmp : Bool} {c f : Str}
theorem de_fld (T : FldC X.K X.mg c f) (h : DE' tmp X D W e m) (hb : attributeBase e f X.env (eval e X.env) = eval e X.env := by rfl) : DE' tmp X D W (.Attribute e f pos) (eFld c f m) := by
  obtain ⟨t, hp, hs⟩ := h
  refine ⟨_, pe_fld hp hb, fun F H Ls σ ρ Q S o => hs F H Ls σ ρ _ S ?_⟩
  revert o
  unfold eFld
  rcases m ρ with (⟨c, f, pl⟩ | _) | ⟨p, ρ1⟩
  · exact fun o => o
  · exact fun o => o
  · intro o F1 H1 Ls1 L1 x S1 e1 V1 t1
    have o1 : OutE X.K X.mg D W F H Ls σ Q tmp (pyFld c f p >>= fun z => .ok (z, ρ1)) := o
    unfold pyFld at o1
    split at o1
    · rename_i oo c' fs xs
      split at o1
      · rename_i hc
        split at o1
        · rename_i j hj
          split at o1
          · rename_i q hq
            subst hc
            obtain ⟨a, C, dx, vs, rfl, hm, hl, ha, hv⟩ := V1.ins S1.sub
            obtain ⟨v, hvj, hV⟩ := hv.get hq
            obtain ⟨k1, k2⟩ := T.ok C hm
            have hV := Val.shift ([] ++ [0 + j]) [] q v (by simpa using hV)
            exact ⟨a, C, dx, _, v, rfl, ha, k1, k2, by rw [lookup_zip hj hl]; exact hvj, o1 F1 H1 Ls1 _ v S1 e1 hV fun z b hb => t1 z b (shift_some hb)⟩
          · exact o1.elim
        · exact o1.elim
      · exact o1.elim
    · exact o1.elim
end
/-! ### self.f = e, a frozen value -/
section
variable {K : Frag} {mg : Mg} {D : DX} {F H : Hp} {Ls : Lb} {L : LM} {σ : St} {ρ : Rho} {i : Nat} {a : Addr} {p' : PV} {ob : HO}
theorem SA.mutG (hob : NT ob) (S : SA K mg D F H Ls σ ρ) (e : σ[i]? = some (some (.ref a))) (hl : Ls i a = some []) (hv : Val K mg F (upd H a ob) (Ls i) [] p' (.ref a)) : SA K mg D F (upd H a ob) Ls σ (ρ.set i (some p')) := by
  have ho := S.own i a (by rw [hl]; rfl)
  have other : ∀ {j b}, j ≠ i → (Ls j b).isSome = true → b ≠ a := fun {j b} hj hb z => by
    subst z
    exact hj (S.dis j i b hb (by rw [hl]; rfl))
  refine ⟨fun b o h => ?_, by simp [S.len], fun j q ej => ?_, fun j b h => ⟨(S.own j b h).1, (S.own j b h).2.upd hob⟩, S.dis, S.io, S.fob, fun p hp => tabS_upd ho.2 (S.tab p hp)⟩
  · rw [upd_ne (fun z => by rw [z, ho.1] at h; cases h)]
    exact S.sub b o h
  · by_cases hj : i = j
    · subst hj
      have hlen : i < ρ.length := by have := (List.getElem?_eq_some_iff.mp ej).1; simpa using this
      rw [List.getElem?_set_self hlen] at ej
      cases ej
      exact ⟨_, e, hv⟩
    · rw [List.getElem?_set_ne hj] at ej
      obtain ⟨v, e1, h⟩ := S.slot j q ej
      exact ⟨v, e1, h.frame (Sub.refl F) [] q v fun b u => upd_ne (other (Ne.symm hj) (by obtain ⟨r, q⟩ := u; rw [q]; rfl))⟩
theorem Val.insOwn {c : Str} {fs : List Str} {xs : List PV} {v : V} (h : Val K mg F H L [] (.ins true c fs xs) v) : ∃ a C dx vs, v = .ref a ∧ mg c = some (.ref C) ∧ fs.length = vs.length ∧ L a = some [] ∧ H a = some (.ins C dx (fs.zip vs)) ∧ ValL K mg F H L [] 0 xs vs := by
  simp only [Val] at h
  simpa using h
end
def putFld (c f : Str) (q : PV) : PV → R PV
  | .ins true c' fs xs => if c' = c ∧ fs.length < 1000 then match fldI f fs with
      | some j => .ok (.ins true c' fs (xs.set j q))
      | none => .ok (.ins true c' (fs ++ [f]) (xs ++ [q]))
    else .error .stuck
  | _ => .error .stuck
def sFldZ (c f : Str) (i : Nat) (m : ME) : MS := fun ρ => m ρ >>= fun a => match a.2[i]? with
  | some (some p) => putFld c f (frz a.1) p >>= fun p' => .ok (.nx, a.2.set i (some p'))
  | _ => .error .stuck
section
variable {X : Cx} {D : DX} {W : WX} {pos px pa : Pos} {e : Expr} {m : ME} {c f x : Str} {i : Nat}
theorem ds_fld (T : FldC X.K X.mg c f) (hx : Sl X i x) (h : DM X D W e m) (hs : swapsWith e (some (.Attribute (.Name x px) f pa)) pos.line X.env = pure false := by rfl) : DS X D W (.Assign [.Attribute (.Name x px) f pa] e pos) (sFldZ c f i m) := by
  obtain ⟨t, hp, hs'⟩ := h
  refine ⟨_, ps_fld (pe_var hx.1 hx.2.1 hx.2.2.1 hx.2.2.2) hp hs, fun F H Ls σ ρ N S o => hs' F H Ls σ ρ _ S (fS o fun p ρ1 F1 H1 Ls1 y S1 e1 V1 o1 => ?_)⟩
  dsimp only at o1
  split at o1
  · rename_i p0 e0
    obtain ⟨v, ev, hv⟩ := S1.slot i p0 e0
    unfold putFld at o1
    split at o1
    · rename_i c' fs xs
      split at o1
      · rename_i hc
        obtain ⟨hc, hz⟩ := hc
        subst hc
        obtain ⟨a, C, dx, vs, rfl, hm, hl, hla, ha, hvl⟩ := hv.insOwn
        obtain ⟨k1, k2⟩ := T.ok C hm
        refine ⟨.ref a, ev, a, C, dx, fs.zip vs, rfl, ha, k1, k2, by simp [← hl]; omega, ?_⟩
        have kids : ∀ {o : HO}, ∀ (b : Addr) (k : Nat), Under ([] ++ [k]) (Ls1 i b) → upd H1 a o b = H1 b := fun {o} b k u => upd_ne fun z => by subst z; exact under_ne hla u
        split at o1
        · rename_i j hj
          rw [putF_old hj hl]
          refine o1 F1 _ Ls1 σ (SA.mutG True.intro S1 ev hla ?_) (Ev.mut (i := i) (by rw [hla]; rfl) (ho := ⟨_, ha, True.intro⟩))
          simp only [Val]
          exact ⟨a, C, dx, vs.set j y, rfl, hm, by simpa using hl, by simp only [if_true]; exact ⟨hla, upd_same, (hvl.set V1).frameC (Sub.refl F1) kids⟩⟩
        · rename_i hj
          rw [putF_new hj hl]
          refine o1 F1 _ Ls1 σ (SA.mutG True.intro S1 ev hla ?_) (Ev.mut (i := i) (by rw [hla]; rfl) (ho := ⟨_, ha, True.intro⟩))
          simp only [Val]
          exact ⟨a, C, dx, vs ++ [y], rfl, hm, by simpa using hl, by simp only [if_true]; exact ⟨hla, upd_same, (hvl.append (by simp only [ValL]; exact ⟨y, [], rfl, V1.val, rfl⟩)).frameC (Sub.refl F1) kids⟩⟩
      · exact o1.elim
    · exact o1.elim
  · exact o1.elim
end

/-! ### C(e, ..) -/
section
variable {X : Cx} {k : Nat} {f C : Addr} {fd : FuncData} {ps : List Str} {sp : Sp} {x mm : Str} {p pos apos : Pos} {e o : Expr} {es : List Expr} {t ta : TA} {CX : CXT} {E : St → XK}
theorem run_makeS {pins : List (Addr × Obj)} {σ : St} {H : Hp} {s : Shared} {Q : VK} {us : List Value} {vs : List V} (M : Mk X.K C f) (Fn : FnOk X.prog X.w X.K X.mg X.base CX k f fd ps sp) (hr : Room (k + 1) X.A) (hb : Binds X.K fd ps [])
    (hx : PassesAt CX X σ (E σ)) (I : Inv X pins σ H s) (r : Vals vs us)
    (h : ∀ x dx, H x = none → H dx = none → dx ≠ x → sp (.ref x :: vs) (upd (upd H dx (.own x)) x (.ins C dx [])) (fun v H2 => v = .non ∧ Q (.ref x) H2) (E σ)) :
    wpAny (model X.prog X.w) X.A (call (.ref
        C) us) (EP X pins σ Q) X.xe s := by
  have hq := h (s.heap.objs.size + 1) s.heap.objs.size (I.hok.fresh (Nat.le_succ
      _)) (I.hok.fresh (Nat.le_refl _)) (Nat.ne_of_lt (Nat.lt_succ_self _))
  have I2 := Inv.made
      (C := C) I
  have r2 : Vals (V.ref (s.heap.objs.size + 1) :: vs)
      (Value.ref (s.heap.objs.size + 1) :: us) := .cons rfl r
  have hl : (Value.ref (s.heap.objs.size + 1) :: us ++ []).length = ps.length := by
    have e := r2.length
    rw [Fn.len _ _ _ _ hq] at e
    rw [List.append_nil]
    exact e.symm
  have hbb := hb _ (Value.ref (s.heap.objs.size + 1) :: us) I2.kIn hl
  rw [List.append_nil] at hbb
  refine wpAny_call (make_map (f := f) I.kIn M.makes M.init (beq_iff_eq.mp M.fn) (codeAny_mono (Fn.run _ X.stack _ _ ⟨Value.ref (s.heap.objs.size + 1) :: us, []⟩ (Value.ref (s.heap.objs.size + 1) :: us) _ _ (E σ) (hr.make C us [])
    (I2.env0.make C us []) hbb r2 hq) fun r s' hq' => ?_))
  cases r with
  | error e => exact hx pins _ _ e s' I2 hq'
  | ok fl =>
    cases fl with
    | ret u =>
      obtain ⟨v, H', I3, rv,
          ev, q3⟩ := I2.after hq'
      subst ev
      exact ⟨rv, ⟨V.ref (s.heap.objs.size
          + 1), H', I3, rfl, q3⟩⟩
    | next => exact
        False.elim hq'
    | brk => exact False.elim hq'
    | cont => exact
        False.elim hq'
theorem pe_makeS (M : Mk X.K C f) (Fn : FnOk X.prog X.w X.K X.mg X.base CX k f fd ps sp) (hr : Room (k + 1) X.A) (hg : Gl X x) (hm : X.mg x = some (.ref C)) (hb : Binds X.K fd ps []) (hx : ∀ σ, PassesAt CX X σ (E σ))
    (ha : PA X (e :: es) t) (hdb : (x == ("__debug__" : Str)) = false := by decide) (he : starEach (e :: es) X.env = (false,
        eval e X.env) :: starEach es X.env := by rfl) (hpl : (backTo pos (starEach es X.env)).any (·.1) = false := by rfl) :
    PE X (.Call (.Name x p) (e :: es) [] pos) (fun σ H Q => t σ H fun vs H1 => ∀ x dx, H1 x = none → H1 dx = none → dx ≠ x → sp (.ref x :: vs) (upd (upd H1 dx (.own x)) x (.ins C dx [])) (fun v H2 => v = .non ∧ Q (.ref x) H2) (E σ)) := by
  refine ⟨fun pins s
      σ H Q I h => ?_⟩
  refine wpAny_Call_Name_kw
      (ld_glob I hg hm ?_ hdb)
  refine PySem.W.callWith_K (h₀ := X.base) I.ok.mod.kin M.kp (thn (ha.run
      pos pins s σ H _ I h) fun us s1 ⟨vs, H1, I1, r, q⟩ => ⟨I1.kIn, ?_⟩) he hpl
  exact run_makeS M Fn hr hb (hx σ) I1 r q
theorem pe_makeS0 (M : Mk X.K C f) (Fn : FnOk X.prog X.w X.K X.mg X.base CX k f fd ps sp) (hr : Room (k + 1) X.A) (hg : Gl X x) (hm : X.mg x = some (.ref C)) (hb : Binds X.K fd ps []) (hx : ∀ σ, PassesAt CX X σ (E σ)) (hdb : (x == ("__debug__" : Str)) = false := by decide) :
    PE X (.Call (.Name x p) [] [] pos) (fun σ H Q => ∀ x dx, H x = none → H dx = none → dx ≠ x → sp [.ref x] (upd (upd H dx (.own x)) x (.ins C dx [])) (fun v H2 => v = .non ∧ Q (.ref x) H2) (E σ)) := by
  refine ⟨fun pins s
      σ H Q I h => ?_⟩
  refine wpAny_Call_Name_kw
      (ld_glob I hg hm ?_ hdb)
  exact PySem.W.callWith_K0 I.kIn M.kp (run_makeS (us := []) M Fn hr hb (hx σ) I .nil h)
end
/-- a class that is made: __init__ keeps its word -/
structure CalK (P : Program) (w : World) (K : Frag) (mg : Mg) (base : Heap) (c : Str) (k n : Nat) (den : PV → List PV → R (PV × PV)) : Prop where
  ex : ∃ C f fd ps, mg c = some (.ref C) ∧ Mk K C f ∧ FnOk P w K mg base (L2.CX P w) k f fd ps (spIO K mg n den) ∧ Binds K fd ps []
def eMake (c : Str) (den : PV → List PV → R (PV × PV)) (n : Nat) (m : MA) : ME := fun ρ => m ρ >>= fun a => if a.1.length + 1 = n then den (.ins true c [] []) a.1 >>= fun r => match r.1 with
    | .non => .ok (r.2, a.2)
    | _ => .error .stuck
  else .error .stuck
section
variable {K : Frag} {mg : Mg} {D : DX} {W : WX} {F₀ H₀ F H F' H' : Hp} {Ls₀ Ls Lx : Lb} {σ : St} {ρ : Rho} {L0 : LM} {a : Addr}
theorem tmp_outM {Q : VK} {tmp : Bool} {r : R (PV × PV)} (S : SA K mg D F H Ls σ ρ) (e1 : Ev F₀ H₀ Ls₀ F H Ls) (t : Tmp F H Ls L0 H₀)
    (o : OutE K mg D W F₀ H₀ Ls₀ σ Q tmp (r >>= fun z => match z.1 with
      | .non => .ok (z.2, ρ)
      | _ => .error .stuck)) : OutFIO K mg F H L0 a (fun v H2 => v = .non ∧ Q (.ref a) H2) (WE W σ) r := by
  revert o
  rcases r with (⟨c, f, pl⟩ | _) | ⟨z1, z2⟩
  · exact fun o F' H' C d v s e => o F' H' C d v s ⟨(Ev.tmp S e1 t e).mono, (Ev.tmp S e1 t e).frame, (Ev.tmp S e1 t e).fnew, (fun i b h => by cases h), (Ev.tmp S e1 t e).obs, (Ev.tmp S e1 t e).tabs⟩
  · exact fun o => o
  · intro o F' H' L' L v s e V0 w V t'
    cases z1 with
    | non =>
      simp only [Val] at V
      refine ⟨V, ?_⟩
      have o : OutE K mg D W F₀ H₀ Ls₀ σ Q tmp (.ok (z2, ρ)) := o
      refine o F' H' Ls L' (.ref a) (S.tmp t s e) (Ev.tmp S e1 t e) V0 fun _ b hb => ?_
      have hn : ¬ Ob H₀ b := fun q => by
        rcases e.lnew 0 b (by unfold oneL; rw [if_pos rfl]; exact hb) with ⟨j, z⟩ | z
        · exact (t b (oneL_some z)).1 q
        · exact z (e1.obs b q)
      refine ⟨hn, (w b hb).1, fun j => ?_, (w b hb).2⟩
      rcases e.lnew 0 b (by unfold oneL; rw [if_pos rfl]; exact hb) with ⟨i, z⟩ | z
      · exact (t b (oneL_some z)).2.2.1 j
      · exact S.nl' z j
    | _ => exact o.elim
end
section
variable {X : Cx} {D : DX} {W : WX} {c : Str} {k n : Nat} {den : PV → List PV → R (PV × PV)} {p pos : Pos} {e : Expr} {es : List Expr} {m : MA} {tmp : Bool}
theorem de_make (cc : CalK X.prog X.w X.K X.mg X.base c k n den) (tk : Takes X W) (hr : Room (k + 1) X.A) (hg : Gl X c) (h : DA X D W (e :: es) m)
    (hdb : (c == ("__debug__" : Str)) = false := by decide) (he : starEach (e :: es) X.env = (false, eval e X.env) :: starEach es X.env := by rfl) (hpl : (backTo pos (starEach es X.env)).any (·.1) = false := by rfl) :
    DE' tmp X D W (.Call (.Name c p) (e :: es) [] pos) (eMake c den n m) := by
  obtain ⟨C, f, fd, ps, hm, M, Fn, hb⟩ := cc.ex
  obtain ⟨t, hp, hs⟩ := h
  refine ⟨_, pe_makeS M Fn hr hg hm hb (fun σ => passAt tk σ) hp hdb he hpl, fun F H Ls σ ρ Q S o => hs F H Ls σ ρ _ S ?_⟩
  revert o
  unfold eMake
  rcases m ρ with (⟨c, f, pl⟩ | _) | ⟨as, ρ1⟩
  · exact fun o => o
  · exact fun o => o
  · intro o F1 H1 Ls1 vs S1 e1 V1 x dx hx hdx hne
    have o : OutE X.K X.mg D W F H Ls σ Q tmp (if as.length + 1 = n then den (.ins true c [] []) as >>= fun r => match r.1 with
        | .non => .ok (r.2, ρ1)
        | _ => .error .stuck
      else .error .stuck) := o
    split at o
    · rename_i hn
      have hx2 : upd H1 dx (.own x) x = none := by rw [upd_ne (Ne.symm hne)]; exact hx
      have S2 : SA X.K X.mg D F1 (upd (upd H1 dx (.own x)) x (.ins C dx [])) Ls1 σ ρ1 := (S1.alloc hdx).alloc hx2
      have e2 : Ev F H Ls F1 (upd (upd H1 dx (.own x)) x (.ins C dx [])) Ls1 := (e1.trans (Ev.alloc hdx)).trans (Ev.alloc hx2)
      have hx0 : ¬ Ob H x := fun z => (e1.obs x z).ne hx
      have one : ∀ {b : Addr}, (if b = x then some [] else none : Option (List Nat)).isSome = true → b = x := fun {b} h => by
        by_cases e : b = x
        · exact e
        · rw [if_neg e] at h; cases h
      have T : Tmp F1 (upd (upd H1 dx (.own x)) x (.ins C dx [])) Ls1 (fun b => if b = x then some [] else none) H := fun b h => by
        cases one h
        exact ⟨hx0, S1.sub.non hx, fun i => S1.nl hx i, Ob.here True.intro⟩
      refine ⟨by rw [List.length_cons, ← V1.length]; exact hn, S2.tab, F1, fun b => if b = x then some [] else none, x, .ins true c [] [], as, vs, rfl, S2.fs, ?_, fun b h => ?_, V1, tmp_outM S2 e2 T o⟩
      · simp only [Val]
        exact ⟨x, C, dx, [], rfl, hm, rfl, by simp only [if_true]; exact ⟨trivial, upd_same, by simp [ValL]⟩⟩
      · cases one h
        exact ⟨S1.sub.non hx, Ob.here True.intro⟩
    · exact o.elim
end

/-! ### o.m(e, ..), a method that changes nothing -/
section
variable {X : Cx} {k : Nat} {f C : Addr} {fd : FuncData} {ps : List Str} {sp : Sp} {mm : Str} {p pos apos : Pos} {e o : Expr} {es : List Expr} {t : TA} {ta : TE} {CX : CXT} {E : St → XK}
theorem pe_methS3 {pl : Sem Bool} (he : PE X o ta) (c : Cls X.K C) (hm : Meth X.K C mm f) (Fn : FnOk X.prog X.w X.K X.mg X.base CX k f fd ps sp) (hr : Room k X.A) (hb : Binds X.K fd ps []) (hx : ∀ σ, PassesAt CX X σ (E σ)) (ha : PA X (e :: es) t)
    (hst : starEach (e :: es) X.env = (false, eval e X.env) :: starEach es X.env
        := by rfl) (hpl : (backTo pos (starEach es X.env)).any (·.1) = false := by rfl)
    (ht : eval (.Call (.Attribute o mm apos) (e :: es) [] pos) X.env = (do
      let ov ← eval o X.env
      standAt apos.atName
      let (f, first) ← holding [ov] (getMethod ov mm pl)
      callWith pos f first (backTo pos (starEach (e :: es)
          X.env)) (backToKw pos (keywordEach [] X.env))) := by rfl) :
    PE X (.Call (.Attribute o mm apos) (e :: es) [] pos) (fun σ H Q => ta σ H fun x H1 => ∃ a dx fs, x = .ref a ∧ H1 a = some (.ins C dx fs) ∧ fs.lookup mm = none ∧ t σ H1 fun vs H2 => sp (x :: vs) H2 Q (E σ)) := by
  refine ⟨fun pins s
      σ H Q I h => ?_⟩
  refine PySem.W.methodCall_KW (pl := pl) (thn (he.run pins s σ H _
      I h) fun u s1 ⟨x, H1, I1, rx, a, dx, fs, ex, ea, l, q⟩ => ?_) ht
  subst ex
  obtain rfl : u =
      Value.ref a := rx
  refine getmeth_ok
      I1 ea c hm l ?_
  refine PySem.W.callWith_K (first := [.ref a]) (h₀ := X.base) I.ok.mod.kin hm.kp (thn
      (ha.run pos pins s1 σ H1 _ I1 q) fun us s2 ⟨vs, H2, I2, r, q2⟩ => ⟨I2.kIn, ?_⟩) hst hpl
  exact run_fnS (us := .ref a :: us) (vs := .ref a :: vs) Fn hr hb (hx σ) I2 (.cons rfl r) q2
theorem pe_methS0 {pl : Sem Bool} (he : PE X o ta) (c : Cls X.K C) (hm : Meth X.K C mm f) (Fn : FnOk X.prog X.w X.K X.mg X.base CX k f fd ps sp) (hr : Room k X.A) (hb : Binds X.K fd ps []) (hx : ∀ σ, PassesAt CX X σ (E σ))
    (ht : eval (.Call (.Attribute o mm apos) [] [] pos) X.env = (do
      let ov ← eval o X.env
      standAt apos.atName
      let (f, first) ← holding [ov] (getMethod ov mm pl)
      callWith pos f first (backTo pos (starEach [] X.env))
          (backToKw pos (keywordEach [] X.env))) := by rfl) :
    PE X (.Call (.Attribute o mm apos) [] [] pos) (fun σ H Q => ta σ H fun x H1 => ∃ a dx fs, x = .ref a ∧ H1 a = some (.ins C dx fs) ∧ fs.lookup mm = none ∧ sp [x] H1 Q (E σ)) := by
  refine ⟨fun pins s
      σ H Q I h => ?_⟩
  refine PySem.W.methodCall_KW (pl := pl) (thn (he.run pins s σ H _
      I h) fun u s1 ⟨x, H1, I1, rx, a, dx, fs, ex, ea, l, q⟩ => ?_) ht
  subst ex
  obtain rfl : u =
      Value.ref a := rx
  refine getmeth_ok
      I1 ea c hm l ?_
  exact PySem.W.callWith_K0 (first := [.ref a]) I1.kIn hm.kp (run_fnS (us := [.ref a]) (vs := [.ref a]) Fn hr hb (hx σ) I1 (.cons rfl .nil) q)
end
/-- a class named c with a method x -/
structure CalC (P : Program) (w : World) (K : Frag) (mg : Mg) (base : Heap) (c x : Str) (k n : Nat) (den : List PV → R PV) : Prop where
  ex : ∃ C f fd ps, mg c = some (.ref C) ∧ Cls K C ∧ Meth K C x f ∧ FnOk P w K mg base (L2.CX P w) k f fd ps (spD K mg n den) ∧ Binds K fd ps []
def isIns (c x : Str) : PV → Bool
  | .ins _ c' fs _ => c' == c && (fldI x fs).isNone
  | _ => false
def eMeth (c x : Str) (den : List PV → R PV) (n : Nat) (m0 : ME) (m : MA) : ME := fun ρ => m0 ρ >>= fun b => if isIns c x b.1 = true then m b.2 >>= fun a => if a.1.length + 1 = n then den (frz b.1 :: a.1) >>= fun r => .ok (r, a.2) else .error .stuck else .error .stuck
theorem isIns_frz {c x : Str} {p : PV} : isIns c x (frz p) = isIns c x p := by cases p <;> rfl
section
variable {X : Cx} {D : DX} {W : WX} {c x : Str} {k n : Nat} {den : List PV → R PV} {p pos apos : Pos} {o e : Expr} {es : List Expr} {m0 : ME} {m : MA} {tmp : Bool}
theorem insAt {K : Frag} {mg : Mg} {F H : Hp} {p : PV} {v : V} {C : Addr} (s : Sub F H) (f : Fz K mg F p v) (h : isIns c x p = true) (hm : mg c = some (.ref C)) : ∃ a dx fs, v = .ref a ∧ H a = some (.ins C dx fs) ∧ fs.lookup x = none := by
  cases p with
  | ins o c' fs xs =>
    simp only [isIns, Bool.and_eq_true, beq_iff_eq, Option.isNone_iff_eq_none] at h
    obtain ⟨rfl, h⟩ := h
    simp only [Fz] at f
    obtain ⟨_, a, C', dx, vs, rfl, q1, q2, _⟩ := f
    rw [hm] at q1
    cases q1
    exact ⟨a, dx, _, rfl, s _ _ q2, lookup_zip_none h⟩
  | _ => cases h
theorem de_meth (cc : CalC X.prog X.w X.K X.mg X.base c x k n den) (tk : Takes X W) (hr : Room k X.A) (h0 : DM X D W o m0) (h : DA X D W (e :: es) m) {pl : Sem Bool}
    (hst : starEach (e :: es) X.env = (false, eval e X.env) :: starEach es X.env
        := by rfl) (hpl : (backTo pos (starEach es X.env)).any (·.1) = false := by rfl)
    (ht : eval (.Call (.Attribute o x apos) (e :: es) [] pos) X.env = (do
      let ov ← eval o X.env
      standAt apos.atName
      let (f, first) ← holding [ov] (getMethod ov x pl)
      callWith pos f first (backTo pos (starEach (e :: es)
          X.env)) (backToKw pos (keywordEach [] X.env))) := by rfl) :
    DE' tmp X D W (.Call (.Attribute o x apos) (e :: es) [] pos) (eMeth c x den n m0 m) := by
  obtain ⟨C, f, fd, ps, hm, cl, me, Fn, hb⟩ := cc.ex
  obtain ⟨t0, hp0, hs0⟩ := h0
  obtain ⟨t, hp, hs⟩ := h
  refine ⟨_, pe_methS3 hp0 cl me Fn hr hb (fun σ => passAt tk σ) hp hst hpl ht, fun F H Ls σ ρ Q S o => hs0 F H Ls σ ρ _ S (fE o fun p ρ1 F1 H1 Ls1 y S1 e1 V1 o1 => ?_)⟩
  dsimp only at o1
  split at o1
  · rename_i hi
    rw [← isIns_frz] at hi
    obtain ⟨a, dx, fs, rfl, ha, hl⟩ := insAt S1.sub V1 hi hm
    refine ⟨a, dx, fs, rfl, ha, hl, hs F1 H1 Ls1 σ ρ1 _ S1 (aE o1 fun as ρ2 F2 H2 Ls2 vs S2 e2 V2 o2 => ?_)⟩
    dsimp only at o2
    split at o2
    · rename_i hn
      exact ⟨by rw [List.length_cons, ← V2.length]; exact hn, S2.tab, F2, frz p :: as, S2.fs, by simp only [FzL]; exact ⟨_, _, rfl, V1.mono e2.mono _ _, V2⟩, call_out S2 o2⟩
    · exact o2.elim
  · exact o1.elim
def eMeth0 (c x : Str) (den : List PV → R PV) (m0 : ME) : ME := fun ρ => m0 ρ >>= fun b => if isIns c x b.1 = true then den [frz b.1] >>= fun r => .ok (r, b.2) else .error .stuck
theorem de_meth0 (cc : CalC X.prog X.w X.K X.mg X.base c x k 1 den) (tk : Takes X W) (hr : Room k X.A) (h0 : DM X D W o m0) {pl : Sem Bool}
    (ht : eval (.Call (.Attribute o x apos) [] [] pos) X.env = (do
      let ov ← eval o X.env
      standAt apos.atName
      let (f, first) ← holding [ov] (getMethod ov x pl)
      callWith pos f first (backTo pos (starEach [] X.env))
          (backToKw pos (keywordEach [] X.env))) := by rfl) :
    DE' tmp X D W (.Call (.Attribute o x apos) [] [] pos) (eMeth0 c x den m0) := by
  obtain ⟨C, f, fd, ps, hm, cl, me, Fn, hb⟩ := cc.ex
  obtain ⟨t0, hp0, hs0⟩ := h0
  refine ⟨_, pe_methS0 hp0 cl me Fn hr hb (fun σ => passAt tk σ) ht, fun F H Ls σ ρ Q S o => hs0 F H Ls σ ρ _ S (fE o fun p ρ1 F1 H1 Ls1 y S1 e1 V1 o1 => ?_)⟩
  dsimp only at o1
  split at o1
  · rename_i hi
    rw [← isIns_frz] at hi
    obtain ⟨a, dx, fs, rfl, ha, hl⟩ := insAt S1.sub V1 hi hm
    exact ⟨a, dx, fs, rfl, ha, hl, rfl, S1.tab, F1, [frz p], S1.fs, by simp only [FzL]; exact ⟨_, _, rfl, V1, rfl⟩, call_out S1 o1⟩
  · exact o1.elim
end
end PX
set_option Elab.async false
set_option linter.all false
set_option maxRecDepth 100000
set_option maxHeartbeats 3900000
namespace PX
open PySem L2
variable [HasT]

/-! ### all slots are frozen -/
def frzR (ρ : Rho) : Rho := ρ.map fun o => o.map frz
theorem frzR_some {ρ : Rho} {i : Nat} {p : PV} (h : (frzR ρ)[i]? = some (some p)) : ∃ q, ρ[i]? = some (some q) ∧ p = frz q := by
  unfold frzR at h
  rw [List.getElem?_map] at h
  cases q : ρ[i]? with
  | none => rw [q] at h; cases h
  | some o =>
    rw [q] at h
    cases o with
    | none => cases h
    | some r => exact ⟨r, rfl, by simpa using h.symm⟩
open Classical in
noncomputable def takeAll (F H : Hp) (Ls : Lb) : Hp := fun a => if ∃ i, (Ls i a).isSome = true then H a else F a
section
variable {K : Frag} {mg : Mg} {D : DX} {F H : Hp} {Ls : Lb} {σ : St} {ρ : Rho}
theorem SA.takeAllSub (S : SA K mg D F H Ls σ ρ) : Sub F (takeAll F H Ls) := fun a o h => by
  unfold takeAll
  split
  · rename_i z
    obtain ⟨i, z⟩ := z
    rw [(S.own i a z).1] at h; cases h
  · exact h
theorem SA.takeOne (S : SA K mg D F H Ls σ ρ) (i : Nat) : Sub (take F H (Ls i)) (takeAll F H Ls) := fun a o h => by
  unfold take at h
  by_cases e : (Ls i a).isSome = true
  · rw [if_pos e] at h
    unfold takeAll
    rw [if_pos ⟨i, e⟩]
    exact h
  · rw [if_neg e] at h
    exact S.takeAllSub a o h
theorem SA.frzAllF (S : SA K mg D F H Ls σ ρ) {i : Nat} {p : PV} (e : (frzR ρ)[i]? = some (some p)) : ∃ v, σ[i]? = some (some v) ∧ Fz K mg (takeAll F H Ls) p v := by
  obtain ⟨q, hq, rfl⟩ := frzR_some e
  obtain ⟨v, e1, h⟩ := S.slot i q hq
  exact ⟨v, e1, (h.freeze (S.takeSub i) [] q v).mono (S.takeOne i) _ _⟩
theorem SA.takeAllFs (S : SA K mg D F H Ls σ ρ) : FS (takeAll F H Ls) H := by
  refine ⟨fun a o h => ?_, fun a o h => ?_⟩
  · unfold takeAll at h
    split at h
    · exact h
    · exact S.sub a o h
  · unfold takeAll at h
    split at h
    · rename_i z
      obtain ⟨i, z⟩ := z
      obtain ⟨w, q, n⟩ := (S.own i a z).2
      rw [q] at h; cases h; exact n
    · exact S.fob a o h
theorem SA.takeAllNo (S : SA K mg D F H Ls σ ρ) {b : Addr} (h : takeAll F H Ls b ≠ none) : F b ≠ none ∨ (∃ i, (Ls i b).isSome = true) ∨ ¬ Ob H b := by
  unfold takeAll at h
  split at h
  · rename_i z
    exact .inr (.inl z)
  · exact .inl h
/-- a state all of whose slots are frozen, by the frozen part alone -/
theorem saFz {F' H' : Hp} {ρ' : Rho} (fs : FS F' H') (tb : LamX.Tabs HasT.T H') (hl : ρ'.length = σ.length) (hs : ∀ (i : Nat) (p : PV), ρ'[i]? = some (some p) → ∃ v, σ[i]? = some (some v) ∧ Fz K mg F' p v) (hio : ∀ a, D.io = some a → σ[0]? = some (some (.ref a))) : SA K mg D F' H' noB σ ρ' where
  sub := fs.sub
  fob := fs.ob
  tab := tb
  len := hl
  slot := fun i p e => by
    obtain ⟨v, e1, f⟩ := hs i p e
    exact ⟨v, e1, f.val⟩
  own := fun i a h => by cases h
  dis := fun i j a h => by cases h
  io := hio
theorem SA.frzAll (S : SA K mg D F H Ls σ ρ) : SA K mg D (takeAll F H Ls) H noB σ (frzR ρ) :=
  saFz S.takeAllFs S.tab (by unfold frzR; rw [List.length_map]; exact S.len) (fun i p e => S.frzAllF e) S.io
theorem SA.evAll (S : SA K mg D F H Ls σ ρ) : Ev F H Ls (takeAll F H Ls) H noB :=
  ⟨S.takeAllSub, fun _ _ h _ _ => h, fun b h => S.takeAllNo h, fun i b h => (by cases h), fun _ h => h, fun h => h⟩
/-- slots that are frozen stay what they are -/
theorem SA.later (S : SA K mg D F H noB σ ρ) (hf : ∀ (i : Nat) (p : PV), ρ[i]? = some (some p) → ∃ v, σ[i]? = some (some v) ∧ Fz K mg F p v) {F' H' : Hp} {Ls' : Lb} (fs : FS F' H') (e : Ev F H noB F' H' Ls') : SA K mg D F' H' noB σ ρ :=
  saFz fs (e.tabs S.tab) S.len (fun i p q => by
    obtain ⟨v, e1, f⟩ := hf i p q
    exact ⟨v, e1, f.mono e.mono _ _⟩) S.io
end
theorem takes_len {X : Cx} {W : WX} (tk : Takes X W) : Takes X (fun c d σ H => σ.length = X.N.length → W c d σ H) := fun u s' ⟨a, B, sI, pins, σ, H, cls, d, e, I, nb, up, sky, na, os, ag, w⟩ =>
  tk u s' ⟨a, B, sI, pins, σ, H, cls, d, e, I, nb, up, sky, na, os, ag, w I.len⟩

theorem OutS.anyW {K : Frag} {mg : Mg} {D : DX} {W W' : WX} {F H : Hp} {Ls : Lb} {N : Ends} : ∀ {r : Fl × Rho}, OutS K mg D W F H Ls N (.ok r) → OutS K mg D W' F H Ls N (.ok r)
  | (.nx, _), o => o
  | (.bk, _), o => o
  | (.ct, _), o => o
  | (.rt _, _), o => o
/-! ### try: .. except x as n: return n.f -/
def canB (K : Frag) (mg : Mg) (D : DX) (W : WX) (m : MS) : TS := fun N σ H => ∃ F Ls ρ, SA K mg D F H Ls σ ρ ∧ OutS K mg D W F H Ls N (m ρ)
theorem DB.can {X : Cx} {D : DX} {W : WX} {s : List Stmt} {m : MS} (h : DB X D W s m) : PSs X s (canB X.K X.mg D W m) := by
  obtain ⟨t, hp, hs⟩ := h
  exact ⟨fun pins s σ H N I ⟨F, Ls, ρ, S, o⟩ => hp.run pins s σ H N I (hs F H Ls σ ρ N S o)⟩
/-- what stands about an exception class that a clause names -/
structure CatC (K : Frag) (CS : Addr) (f : Str) : Prop where
  same : PySem.W.exmOne K (.ref CS) (.ref CS) = some true
  xf : XfC K CS
  no : PySem.W.findIn K (.ref CS) f = some none
def sTry (c f : Str) (m : MS) : MS := fun ρ => match m (frzR ρ) with
  | .ok r => .ok r
  | .error (.exc c' f' pl) => if c' = c ∧ f' = f then .ok (.rt pl, frzR ρ) else .error .stuck
  | .error .stuck => .error .stuck
section
variable {X : Cx} {D : DX} {W : WX} {x n f : Str} {CS : Addr} {i : Nat} {body : List Stmt} {m : MS} {np p5 p6 p7 p8 pos : Pos}
theorem ds_try (hs : X.stack = X.env :: X.outer) (hf : X.env.frame = some X.env.locals) (hN : X.N.Nodup) (hi : X.N[i]? = some n) (hln : X.env.kindOf n = some .local) (hc : Gl X x) (hm : X.mg x = some (.ref CS)) (T : CatC X.K CS f) (tk : Takes X W) (hv : Vis X.env.scope n)
    (hb : ∀ (W' : WX) (pn : List (Addr × Obj)) (xe : Value → Shared → Prop), Takes (X.tr pn xe) W' → PassesOwn (model X.prog X.w) X.A X.env xe → DB (X.tr pn xe) D W' body m)
    (hbase : attributeBase (.Name n p5) f X.env (eval (.Name n p5) X.env) = eval (.Name n p5) X.env := by rfl)
    (hd1 : (x == ("__debug__" : Str)) = false := by decide) (hd2 : (n == ("__debug__" : Str)) = false := by decide) (hd3 : (n == ("__classdict__" : Str)) = false := by decide) :
    DS X D W (.Try body [.ExceptHandler (some (.Name x np)) (some n) [.Return (some (.Attribute (.Name n p5) f p6)) p7] p8] [] [] pos) (sTry x f m) := by
  refine ⟨_, ps_try_as (i := i) (c := .ref CS) (tb := fun W' => canB X.K X.mg D (fun c d σ H => σ.length = X.N.length → W' c d σ H) m) hs hf hN hi hln ⟨hc, hd1, .inl hm⟩ tk (fun W' pn xe tk' po => ?_)
    (fun a oe cls d pn hz hfd => pss_one (ps_ret (pe_xf (X := X) (C := CS) T.xf T.no hz hfd (pe_var (X := X.suite a ((a, oe) :: pn)) (i := i) hi hv hd2 hd3) hbase))), fun F H Ls σ ρ N S o => ?_⟩
  · exact (hb _ pn xe (takes_len tk') po).can
  · refine ⟨takeAll F H Ls, noB, frzR ρ, S.frzAll, ?_⟩
    have hfz : ∀ (i : Nat) (p : PV), (frzR ρ)[i]? = some (some p) → ∃ v, σ[i]? = some (some v) ∧ Fz X.K X.mg (takeAll F H Ls) p v := fun i p e => S.frzAllF e
    revert o
    unfold sTry
    rcases m (frzR ρ) with (⟨c', f', pl⟩ | _) | ⟨fl, ρ'⟩
    · dsimp only
      intro o
      split at o
      · rename_i hcf
        obtain ⟨rfl, rfl⟩ := hcf
        intro σ' F' H' C d v fs ev hmc hd vz hlen
        rw [hm] at hmc
        cases hmc
        refine ⟨true, T.same, fun _ a ha => ?_, fun z => by cases z⟩
        have hil : i < σ'.length := by
          rw [hlen]
          exact (List.getElem?_eq_some_iff.mp hi).1
        refine ⟨.ref a, List.getElem?_set_self hil, rfl, rfl, d, [(f', v)], v, rfl, hd, by simp [List.lookup], ?_⟩
        exact o F' H' noB σ noL v (SA.later S.frzAll hfz fs ev) (S.evAll.trans ev) vz.val Tmp.no
      · exact o.elim
    · exact fun o => o.elim
    · dsimp only
      intro o
      exact OutS.step S.evAll (OutS.anyW o)
end

/-! ### f(lambda: body), f: try: call() except x as n: return n.f / return z -/
def TTref (CS : Addr) (f z : Str) : (XK → Hp → VK → Prop) → Hp → VK → Prop := fun tl H Q =>
  tl (fun cls d H' => cls = .ref CS ∧ ∃ dd v, d = some dd ∧ H' dd = some (.xd [(f, v)]) ∧ Q v H') H (fun _ H' => Q (.str z) H')
theorem ref_gives {X : Cx} {Ng : List Str} {qg x a n q f z : Str} {sg : Scope} {g CS : Addr} {cdg : Value} {j : Nat} {p1 p2 p3 p4 p5 p6 p7 p8 p9 p10 p11 : Pos} (T : CatC X.K CS f) (hgx : sg.names.lookup x = some .globalImplicit) (hm : X.mg x = some (.ref CS)) (hN : Ng = [a, n]) (hnd : a ≠ n) (hln : sg.names.lookup n = some .local)
    (hd1 : (x == ("__debug__" : Str)) = false := by decide) (hd2 : (n == ("__debug__" : Str)) = false := by decide) (hd3 : (n == ("__classdict__" : Str)) = false := by decide)
    (hbase : ∀ L : Addr, attributeBase (.Name n p5) f (PyProof.Rows.envOfC qg sg L g cdg) (eval (.Name n p5) (PyProof.Rows.envOfC qg sg L g cdg)) = eval (.Name n p5) (PyProof.Rows.envOfC qg sg L g cdg) := by intro _; rfl)
    (hsw : ∀ L : Addr, swapsWith (.Call (.Name a p1) [] [] p2) none p3.line (PyProof.Rows.envOfC qg sg L g cdg) = pure false := by intro _; rfl) :
    LamX.GivesTo X Ng qg sg g cdg [.Try [.Expr (.Call (.Name a p1) [] [] p2) p3] [.ExceptHandler (some (.Name x p4)) (some n) [.Return (some (.Attribute (.Name n p5) f p6)) p7] p8] [] [] p9, .Return (some (.Constant (.str z) j p10)) p11] a q (TTref CS f z) := by
  intro fa c' s H Q tl act hc h
  subst hN
  have hgl : Gl (cxOf C8.CX0 X.prog X.w X.K X.mg X.base [a, n] qg sg g cdg X.A X.stack s H C8.E0).nox x := hgx
  have hl : (cxOf C8.CX0 X.prog X.w X.K X.mg X.base [a, n] qg sg g cdg X.A X.stack s H C8.E0).nox.env.kindOf n = some .local := hln
  refine ⟨_, pss_cons (ps_try_as (X := (cxOf C8.CX0 X.prog X.w X.K X.mg X.base [a, n] qg sg g cdg X.A X.stack s H C8.E0).nox) (c := .ref CS) (i := 1)
      (tb := fun W D σ H => ∃ Ech : XK, (∀ cls d σ' H', σ'.length = 2 → Ech cls d H' → W cls d σ' H') ∧ σ[0]? = some (some (.ref fa)) ∧ H c' = some (LamX.CodeO c' q) ∧ tl Ech H (fun _ H' => D.nx σ H'))
      rfl rfl (show [a, n].Nodup from by simp [hnd]) rfl hl ⟨hgl, hd1, .inl hm⟩ LamX.takes0 (fun W pn xe tk _ => ?_)
      (fun a' oe cls d pn hz hfd => pss_one (ps_ret (pe_xf (C := CS) T.xf T.no hz hfd (pe_var (i := 1) rfl (.inl hln) hd2 hd3) (hbase _))))) (pss_one (ps_ret pe_str)), ?_⟩
  · refine ⟨fun pins s'
      σ H' D I h' => ?_⟩
    obtain ⟨Ech, hW,
        h1, h2, h3⟩ := h'
    have hp := act (fun cls d σ' H' => σ'.length = 2 → W cls d σ' H') pn xe Ech p1 p2 (takes_len tk) (fun cls d σ' H' e hl => hW cls d σ' H' hl e)
    have hq := pss_one (ps_expr (pos := p3) hp (hsw _))
    exact hq.run pins s'
        σ H' D I ⟨h1, h2, h3⟩
  · refine ⟨_, fun cls d σ' H' hlen h' => ?_, rfl, hc, h⟩
    obtain ⟨rfl, dd, v, rfl, hd, hq⟩ := h'
    exact ⟨true, T.same, fun _ a' _ => ⟨.ref a', List.getElem?_set_self (by omega), rfl, rfl, dd, [(f, v)], v, rfl, hd, by simp [List.lookup], hq⟩, fun z => by cases z⟩

theorem lamEv {F H H1 : Hp} (e : LamX.ExtN H H1) (t : LamX.Tabs HasT.T H1) : Ev F H noB F H1 noB :=
  ⟨Sub.refl F, fun b o h n _ => e b o h fun ps z => by rw [z] at n; exact n, fun _ h => .inl h, fun i b h => (by cases h), fun b ⟨o, h, n⟩ => ⟨o, e b o h fun ps z => by rw [z] at n; exact n, n⟩, fun _ => t⟩
def eRef (c f z : Str) (m : ME) : ME := fun ρ => match m (frzR ρ) with
  | .ok _ => .ok (.str z, frzR ρ)
  | .error (.exc c' f' pl) => if c' = c ∧ f' = f then .ok (pl, frzR ρ) else .error .stuck
  | .error .stuck => .error .stuck
/-- a def that is handed a call -/
structure RefC (K : Frag) (mg : Mg) (x c f z : Str) : Prop where
  ex : ∃ (st : Stmt) (g CS : Addr) (fd : FuncData) (a n : Str) (j : Nat) (p1 p2 p3 p4 p5 p6 p7 p8 p9 p10 p11 : Pos), Fun K x x st g fd ∧
    defBody st = [.Try [.Expr (.Call (.Name a p1) [] [] p2) p3] [.ExceptHandler (some (.Name c p4)) (some n) [.Return (some (.Attribute (.Name n p5) f p6)) p7] p8] [] [] p9, .Return (some (.Constant (.str z) j p10)) p11] ∧
    mg x = some (.ref g) ∧ Binds K fd [a] [] ∧ FnScope [a, n] [a] (defScope st) ∧ Vis (defScope st) a ∧ (defScope st).names.lookup c = some .globalImplicit ∧ mg c = some (.ref CS) ∧ CatC K CS f ∧ a ≠ n ∧ (defScope st).names.lookup n = some .local ∧
    (a == ("__debug__" : Str)) = false ∧ (a == ("__classdict__" : Str)) = false ∧ (c == ("__debug__" : Str)) = false ∧ (n == ("__debug__" : Str)) = false ∧ (n == ("__classdict__" : Str)) = false ∧
    (∀ (L : Addr) (cdg : Value), attributeBase (.Name n p5) f (PyProof.Rows.envOfC x (defScope st) L g cdg) (eval (.Name n p5) (PyProof.Rows.envOfC x (defScope st) L g cdg)) = eval (.Name n p5) (PyProof.Rows.envOfC x (defScope st) L g cdg)) ∧
    (∀ (L : Addr) (cdg : Value), swapsWith (.Call (.Name a p1) [] [] p2) none p3.line (PyProof.Rows.envOfC x (defScope st) L g cdg) = pure false)
/-- what the maker of lambdas must have -/
structure LamC (X : Cx) : Prop where
  ex : ∃ c P, LamX.TabB X.base X.mg c P ∧ X.env.code = .ref c ∧ (P, X.env.qual ++ "<lambda>") ∈ HasT.T ∧ ∀ p ∈ HasT.T, p.1 = P → p.2 = X.env.qual ++ "<lambda>"
section
variable {X : Cx} {D : DX} {W : WX} {x c f z : Str} {tmp t1 : Bool} {m : ME} {params : Arguments} {body : Expr} {scope : Scope} {p lpos pos : Pos} {k : Nat}
theorem de_ref (rc : RefC X.K X.mg x c f z) (lc : LamC X) (hg : Gl X x) (hr : Room (k + 2) X.A) (L : LamX.LamS X.env.scope scope) (hdef : defaultsOf params X.env = ([], []))
    (hbind : ∀ (q : Str) (cl : List (Str × Addr)) (pm cv ctv : Value), bindArgs
        (PySem.W.kla_fn "<lambda>" q params body scope cl pm cv ctv) ⟨[], []⟩ = pure [])
    (hbody : ∀ (A : Around) (outer : List Env) (s : Shared) (H : Hp) (E : XK) (f c' : Addr), Room k (A.deeper (LamX.lamEnv X scope s.heap.objs.size f c')) → Takes (LamX.lamCx X A outer s H E scope f c') (wOf E) → DE' t1 (LamX.lamCx X A outer s H E scope f c') D (wOf E) body m)
    (hdb : (x == ("__debug__" : Str)) = false := by decide) : DE' tmp X D W (.Call (.Name x p) [.Lambda params body scope lpos] [] pos) (eRef c f z m) := by
  obtain ⟨st, g, CS, fd, a, n, j, p1, p2, p3, p4, p5, p6, p7, p8, p9, p10, p11, Fg, hst, hm, hb, Sg, hva, hgx, hmc, T, han, hln, d1, d2, d3, d4, d5, hbase, hsw⟩ := rc.ex
  obtain ⟨cc, P, TB, hcode, hmT, hu⟩ := lc.ex
  obtain ⟨oc, od, kV, doc, pm, an, cdv, ct, osl, hfd, lk, hcd⟩ := Fg.ex
  rw [hfd] at lk hb
  rw [hst] at lk hb
  refine ⟨_, LamX.pe_lamcall (T := HasT.T) (TT := TTref CS f z) (t := fun E => canE X.K X.mg D (wOf E) t1 m) (k := k) hg hm Fg.kp lk hcd hb Sg rfl hva (ref_gives (j := j) T hgx hmc rfl han hln d3 d4 d5 (fun L => hbase L cdv) (fun L => hsw L cdv)) TB hcode hmT hu hr L hdef hbind
    (fun A outer s H E f c' hr' => (hbody A outer s H E f c' hr' (takes_of rfl rfl rfl rfl)).can) hdb d1 d2, fun F H Ls σ ρ Q S o => ?_⟩
  refine ⟨S.tab, fun H1 eN tb1 => ?_⟩
  have hfz : ∀ (i : Nat) (p : PV), (frzR ρ)[i]? = some (some p) → ∃ v, σ[i]? = some (some v) ∧ Fz X.K X.mg (takeAll F H Ls) p v := fun i p e => S.frzAllF e
  have S1 : SA X.K X.mg D (takeAll F H Ls) H1 noB σ (frzR ρ) := SA.later S.frzAll hfz ⟨fun b o h => eN b o (S.takeAllFs.sub b o h) fun ps z => by have := S.takeAllFs.ob b o h; rw [z] at this; exact this, S.takeAllFs.ob⟩ (lamEv eN tb1)
  have ev1 : Ev F H Ls (takeAll F H Ls) H1 noB := S.evAll.trans (lamEv eN tb1)
  refine ⟨takeAll F H Ls, noB, frzR ρ, S1, ?_⟩
  revert o
  unfold eRef
  rcases m (frzR ρ) with (⟨c', f', pl⟩ | _) | ⟨r, ρ'⟩
  · dsimp only
    intro o
    split at o
    · rename_i hcf
      obtain ⟨rfl, rfl⟩ := hcf
      intro F' H' C d v fs ev hC hd vz
      rw [hmc] at hC
      cases hC
      exact ⟨rfl, d, v, rfl, hd, o F' H' noB noL v (SA.later S1 hfz fs ev) (ev1.trans ev) vz.val fun _ => Tmp.no⟩
    · exact o.elim
  · exact fun o => o.elim
  · dsimp only
    intro o F' H' Ls' L' v S' ev _ _
    exact o F' H' noB noL (.str z) (SA.later S1 hfz S'.fs ev) (ev1.trans ⟨ev.mono, ev.frame, ev.fnew, (fun i b h => by cases h), ev.obs, ev.tabs⟩) (by simp [Val]) fun _ => Tmp.no
end

end PX
set_option Elab.async false
set_option linter.all false
set_option maxRecDepth 100000
set_option maxHeartbeats 3900000
namespace PX
open PySem L2

/-! ### the end of a law -/
/-- what the top says of the tables of its defs -/
def TabsOf (q : Program) (K : Frag) (h : Heap) : Prop := ∀ (x : Str) (d : DefRec) (c P : Addr), (PyProof.Rows.recsOf q).find? (fun e => e.name == x) = some d → PySem.W.tabIn K x = some (c, P) → PySem.W.CodeHd h c P ∧ h.get? P = some (PySem.W.tabObj #[])
theorem walk_px {l : PySem.W.OpenLaw} {n k : Nat} {q : Program} {loose : List Str} {XP : (Str → Option Value) → Heap → Prop} {YP : World → Heap → Prop} {d : DefRec} {K : Params → Frag} {x : Str}
    (hn : l.most = some n) (hn2 : n ≤ sizeLine) (hdf : d.params.defaults = []) (hr : Room k PySem.callerA) (hY : ∀ (w : World) (h : Heap), YP w h → (K w.params).In h)
    (F : ∀ (w : World) (mg : Str → Option Value) (fa : Addr) (h : Heap), (K w.params).In h → h.Ns mainGlobals mg → mg d.name = some (.ref fa) → TabsOf q (K w.params) h → LamX.LawAtS l w (K w.params) (L2.CX l.prog w) k n x mg fa h) :
    PySem.W.WalkO q loose XP YP l.row.toRowW
        d [] (fun f vs => PySem.call f vs) := by
  refine Att.attach_callB hn hdf fun w s0 s1 mg mb fa ob pm cd doc a vs ns G Y ho hd hcd hmg hobj hints hlen hbits hg => ?_
  have inK := hY w _ Y
  obtain ⟨fd, cs, sp, t1, t2, t3, t4, t5, t6⟩ := F w mg fa _ inK G.T.g hmg fun x d c P hf ht => PySem.W.tab_of G.T inK hf ht
  refine LamX.law_callTs inK G.T.g G.T.b G.T.builtins G.T.nolimit hg t1 t2 t3 G.T.bmain hobj hints (Nat.le_trans hlen hn2) hr t6 t4 (fun H h1 h2 => t5 H a ns hlen hbits h1 h2) fun H e s' z => ?_
  obtain ⟨_, _, _, _, _, _, _, _, _, _, _, _, z⟩ := z
  exact z
variable [HasT]
theorem law_at {l : PySem.W.OpenLaw} {w : World} {K : Frag} {mg : Mg} {h : Heap} {fa : Addr} {x : Str} {k n : Nat} {den : List PV → R PV} {fd : FuncData} (cs : List (Addr × Addr))
    (hcs : ∀ p ∈ cs, K.lookup p.2 = none ∧ PySem.W.CodeHd h p.1 p.2 ∧ h.get? p.2 = some (PySem.W.tabObj #[])) (hT : ∀ p ∈ HasT.T, ∃ c, (c, p.1) ∈ cs) (hb : ∀ (s : Shared) (u : Value), BindsTo s fd ⟨[u], []⟩ [(x, u)])
    (hF : ∀ base : Heap, K.In base → base.Ns mainGlobals mg → (∀ p ∈ cs, LamX.TabB base mg p.1 p.2) → FnOk l.prog w K mg base (L2.CX l.prog w) k fa fd [x] (spD K mg 1 den))
    (hd : ∀ ns : List Int, ns.length ≤ n → (∀ z ∈ ns, Builtin.Int.intBits z ≤ 1048576) → den [.scr (ns.map .int)] = .ok (.bl true)) : LamX.LawAtS l w K (L2.CX l.prog w) k n x mg fa h := by
  refine ⟨fd, cs, spD K mg 1 den, fun p hp => (hcs p hp).2.2, fun p hp => (hcs p hp).1, fun p hp => (hcs p hp).2.1, hb, fun H a ns hl hbits hH hS => ?_, hF⟩
  have tb : LamX.Tabs HasT.T H := fun p hp => by
    obtain ⟨c, hc⟩ := hT p hp
    exact LamX.TabS.nil (hH _ hc)
  have fin : ∀ F : Hp, FS F H → SqL K F a (ns.map V.int) → spD K mg 1 den [.ref a] H (fun v _ => v = .bl true) (fun _ _ _ => False) := fun F fs hs => by
    refine ⟨rfl, tb, F, [.scr (ns.map .int)], fs, ?_, ?_⟩
    · simp only [FzL, Fz]
      exact ⟨_, _, rfl, ⟨a, _, rfl, hs, FzL.ofInts ns⟩, rfl⟩
    · rw [hd ns hl hbits]
      intro F' H' L v _ _ hv _
      simpa [Val] using hv
  rcases hS with r | r
  · refine fin (fun b => if b = a then H a else none) ⟨fun b o e => ?_, fun b o e => ?_⟩ (.inl ?_)
    · by_cases z : b = a
      · subst z
        simpa using e
      · simp [z] at e
    · by_cases z : b = a
      · subst z
        have e : H b = some o := by simpa using e
        rcases r with r | ⟨o', r⟩
        · rw [r] at e; cases e; exact True.intro
        · rw [r] at e; cases e; exact True.intro
      · simp [z] at e
    · rcases r with r | ⟨o', r⟩
      · exact .inl (by simpa using r)
      · exact .inr ⟨o', by simpa using r⟩
  · exact fin (fun _ => none) ⟨fun b o e => (by cases e), fun b o e => by cases e⟩ (.inr r)
end PX
set_option Elab.async false
set_option linter.all false
set_option maxRecDepth 100000
set_option maxHeartbeats 3900000
namespace PX
open PySem L2
variable [HasT]

/-! ### two values, the left one frozen first -/
def eBinF (g : PV → PV → R PV) (ma mb : ME) : ME := fun ρ => ma ρ >>= fun a => mb a.2 >>= fun b => g (frz a.1) b.1 >>= fun z => .ok (z, b.2)
section
variable {X : Cx} {D : DX} {W : WX} {pos : Pos} {a b : Expr} {ma mb : ME} {tmp t1 t2 : Bool} {r : R2} {g : PV → PV → R PV}
theorem binF_spec {ta tb : TE} (hs : OpS X.K X.mg r g) (h1 : ∀ F H Ls σ ρ Q, SA X.K X.mg D F H Ls σ ρ → OutE X.K X.mg D W F H Ls σ Q true (ma ρ) → ta σ H Q) (h2 : ∀ F H Ls σ ρ Q, SA X.K X.mg D F H Ls σ ρ → OutE X.K X.mg D W F H Ls σ Q t2 (mb ρ) → tb σ H Q)
    {F H : Hp} {Ls : Lb} {σ : St} {ρ : Rho} {Q : VK} (S : SA X.K X.mg D F H Ls σ ρ) (o : OutE X.K X.mg D W F H Ls σ Q tmp (eBinF g ma mb ρ)) : tOp r ta tb σ H Q := by
  refine h1 F H Ls σ ρ _ S (fE o fun p ρ1 F1 H1 Ls1 x S1 e1 V1 o1 => ?_)
  refine h2 F1 H1 Ls1 σ ρ1 _ S1 (eE o1 fun q ρ2 F2 H2 Ls2 L2 y S2 e2 V2 _ o2 => ?_)
  exact hs D W F2 H2 Ls2 σ ρ2 Q tmp (frz p) q x y noL L2 S2 (V1.mono e2.mono _ _).val V2 o2
theorem de_binF {op : Operator} (ho : OpR X (binaryOp op) r) (hs : OpS X.K X.mg r g) (ha : DM X D W a ma) (hb : DE' t2 X D W b mb) : DE' tmp X D W (.BinOp a op b pos) (eBinF g ma mb) := by
  obtain ⟨ta, pa, h1⟩ := ha
  obtain ⟨tb, pb, h2⟩ := hb
  exact ⟨_, pe_op ho pa pb, fun F H Ls σ ρ Q S o => binF_spec hs h1 h2 S o⟩
theorem de_cmpF {op : CmpOp} (ho : OpR X (compareOp op) r) (hs : OpS X.K X.mg r g) (ha : DM X D W a ma) (hb : DE' t2 X D W b mb) (hm : behindInMarks op b = false := by rfl) : DE' tmp X D W (.Compare a [op] [b] pos) (eBinF g ma mb) := by
  obtain ⟨ta, pa, h1⟩ := ha
  obtain ⟨tb, pb, h2⟩ := hb
  exact ⟨_, pe_cmpR ho pa pb hm, fun F H Ls σ ρ Q S o => binF_spec hs h1 h2 S o⟩
theorem dt_cmpF {op : CmpOp} (ho : OpR X (compareOp op) r) (hs : OpS X.K X.mg r g) (ha : DM X D W a ma) (hb : DE' t2 X D W b mb) (hm : behindInMarks op b = false := by rfl) : DT X D W (.Compare a [op] [b] pos) (tBool (eBinF g ma mb)) := by
  obtain ⟨ta, pa, h1⟩ := ha
  obtain ⟨tb, pb, h2⟩ := hb
  exact ⟨_, pt_cmpR ho pa pb hm, fun F H Ls σ ρ Q S o => tb_spec (t1 := false) (fun F H Ls σ ρ Q S o => binF_spec hs h1 h2 S o) S o⟩
theorem de_ixF (ha : DM X D W a ma) (hb : DE' t2 X D W b mb) (hp : PlainIx b := by exact fun _ _ => rfl) : DE' tmp X D W (.Subscript a b pos) (eBinF pyIx ma mb) := by
  obtain ⟨ta, pa, h1⟩ := ha
  obtain ⟨tb, pb, h2⟩ := hb
  exact ⟨_, pe_ix ix_seq pa pb hp, fun F H Ls σ ρ Q S o => binF_spec ops_ix h1 h2 S o⟩
/-- a constant of the module -/
structure GlC (mg : Mg) (x : Str) (v : V) : Prop where
  ex : ∃ u, mg x = some u ∧ RelV v u
theorem de_glc {x : Str} {v : V} {p : PV} (c : GlC X.mg x v) (hg : Gl X x) (hv : ∀ F, Fz X.K X.mg F p v := by intro _; simp [Fz]) (hd : (x == ("__debug__" : Str)) = false := by decide) : DM X D W (.Name x pos) (eC p) := by
  obtain ⟨u, hm, r⟩ := c.ex
  exact de_glob hg hm r hv hd
/-- a slot -/
theorem sl_of {i : Nat} {x : Str} (h1 : X.N[i]? = some x := by rfl) (h2 : Vis X.env.scope x := by first | exact .inl rfl | exact .inr (.inl rfl) | exact .inr (.inr rfl)) (h3 : (x == ("__debug__" : Str)) = false := by decide) (h4 : (x == ("__classdict__" : Str)) = false := by decide) : Sl X i x := ⟨h1, h2, h3, h4⟩
theorem lc_of {i : Nat} {x : Str} (nd : X.N.Nodup) (h1 : X.N[i]? = some x := by rfl) (h2 : Loc X.env.scope x := by first | exact .inl rfl | exact .inr rfl) (h3 : X.fn x = true ∨ X.env.scope.names.lookup x = some .local := by first | exact .inl rfl | exact .inr rfl) (h4 : D.io = none ∨ i ≠ 0 := by first | exact .inl rfl | exact .inr (by decide)) : Lc X D i x := ⟨nd, h1, h2, h3, h4⟩
end

/-! ### the defs of the text -/
/-- a def of the module -/
structure FnT (K : Frag) (mg : Mg) (x : Str) (st : Stmt) (ps : List Str) : Prop where
  ex : ∃ f fd, Fun K x x st f fd ∧ mg x = some (.ref f) ∧ Binds K fd ps []
/-- .. that makes lambdas -/
structure FnL (K : Frag) (mg : Mg) (base : Heap) (x : Str) (st : Stmt) (ps : List Str) : Prop where
  ex : ∃ f fd c P, Fun K x x st f fd ∧ mg x = some (.ref f) ∧ Binds K fd ps [] ∧ fd.code = .ref c ∧ LamX.TabB base mg c P ∧ (P, (x ++ ".<locals>.") ++ "<lambda>") ∈ HasT.T ∧ ∀ p ∈ HasT.T, p.1 = P → p.2 = (x ++ ".<locals>.") ++ "<lambda>"
/-- a method m of the class named c -/
structure MtT (K : Frag) (mg : Mg) (c x qual : Str) (st : Stmt) (ps : List Str) : Prop where
  ex : ∃ C f fd, mg c = some (.ref C) ∧ Cls K C ∧ Meth K C x f ∧ Fun K x qual st f fd ∧ Binds K fd ps []
/-- the __init__ of the class named c -/
structure InT (K : Frag) (mg : Mg) (c qual : Str) (st : Stmt) (ps : List Str) : Prop where
  ex : ∃ C f fd, mg c = some (.ref C) ∧ Mk K C f ∧ Fun K "__init__" qual st f fd ∧ Binds K fd ps []
section
variable {P : Program} {w : World} {K : Frag} {mg : Mg} {base : Heap} {x c qual : Str} {st : Stmt} {N ps : List Str} {k : Nat} {m : MS}
theorem cal_D (T : FnT K mg x st ps) (S : FnScope N ps (defScope st))
    (body : ∀ (f : Addr) (cdv : Value) (A : Around) (outer : List Env) (s : Shared) (H : Hp) (E : XK), Takes (cxOf (L2.CX P w) P w K mg base N x (defScope st) f cdv A outer s H E) (wOf E) → PassesOwn (model P w) (cxOf (L2.CX P w) P w K mg base N x (defScope st) f cdv A outer s H E).A (cxOf (L2.CX P w) P w K mg base N x (defScope st) f cdv A outer s H E).env (cxOf (L2.CX P w) P w K mg base N x (defScope st) f cdv A outer s H E).xe → Room k (A.deeper (PyProof.Rows.envOfC x (defScope st) s.heap.objs.size f cdv)) → DB (cxOf (L2.CX P w) P w K mg base N x (defScope st) f cdv A outer s H E) ⟨none⟩ (wOf E) (defBody st) m) :
    Cal P w K mg base x (k + 1) ps.length (fun as => fin (m (startR N.length as))) := by
  obtain ⟨f, fd, F, hm, hb⟩ := T.ex
  exact ⟨f, fd, ps, fn_D F S (fun cdv A outer s H E _ hr => body f cdv A outer s H E (takes_of rfl rfl rfl rfl) (passes_of rfl) hr), hm, F.kp, hb⟩
theorem cal_IO (T : FnT K mg x st ps) (S : FnScope N ps (defScope st))
    (body : ∀ (a f : Addr) (cdv : Value) (A : Around) (outer : List Env) (s : Shared) (H : Hp) (E : XK), Takes (cxOf (L2.CX P w) P w K mg base N x (defScope st) f cdv A outer s H E) (wOf E) → PassesOwn (model P w) (cxOf (L2.CX P w) P w K mg base N x (defScope st) f cdv A outer s H E).A (cxOf (L2.CX P w) P w K mg base N x (defScope st) f cdv A outer s H E).env (cxOf (L2.CX P w) P w K mg base N x (defScope st) f cdv A outer s H E).xe → Room k (A.deeper (PyProof.Rows.envOfC x (defScope st) s.heap.objs.size f cdv)) → DB (cxOf (L2.CX P w) P w K mg base N x (defScope st) f cdv A outer s H E) ⟨some a⟩ (wOf E) (defBody st) m) :
    CalIO P w K mg base x (k + 1) ps.length (fun p as => finIO (m (startR N.length (p :: as)))) := by
  obtain ⟨f, fd, F, hm, hb⟩ := T.ex
  exact ⟨f, fd, ps, fn_IO F S (fun a cdv A outer s H E _ hr => body a f cdv A outer s H E (takes_of rfl rfl rfl rfl) (passes_of rfl) hr), hm, F.kp, hb⟩
theorem cal_DL (T : FnL K mg base x st ps) (S : FnScope N ps (defScope st))
    (body : ∀ (f : Addr) (cdv : Value) (A : Around) (outer : List Env) (s : Shared) (H : Hp) (E : XK), LamC (cxOf (L2.CX P w) P w K mg base N x (defScope st) f cdv A outer s H E) → Takes (cxOf (L2.CX P w) P w K mg base N x (defScope st) f cdv A outer s H E) (wOf E) → PassesOwn (model P w) (cxOf (L2.CX P w) P w K mg base N x (defScope st) f cdv A outer s H E).A (cxOf (L2.CX P w) P w K mg base N x (defScope st) f cdv A outer s H E).env (cxOf (L2.CX P w) P w K mg base N x (defScope st) f cdv A outer s H E).xe → Room k (A.deeper (PyProof.Rows.envOfC x (defScope st) s.heap.objs.size f cdv)) → DB (cxOf (L2.CX P w) P w K mg base N x (defScope st) f cdv A outer s H E) ⟨none⟩ (wOf E) (defBody st) m) :
    Cal P w K mg base x (k + 1) ps.length (fun as => fin (m (startR N.length as))) := by
  obtain ⟨f, fd, cc, PT, F, hm, hb, hcd, tb, hT, hu⟩ := T.ex
  exact ⟨f, fd, ps, fn_D F S (fun cdv A outer s H E hc hr => body f cdv A outer s H E ⟨⟨cc, PT, tb, hc ▸ hcd, hT, hu⟩⟩ (takes_of rfl rfl rfl rfl) (passes_of rfl) hr), hm, F.kp, hb⟩
theorem cal_IOL (T : FnL K mg base x st ps) (S : FnScope N ps (defScope st))
    (body : ∀ (a f : Addr) (cdv : Value) (A : Around) (outer : List Env) (s : Shared) (H : Hp) (E : XK), LamC (cxOf (L2.CX P w) P w K mg base N x (defScope st) f cdv A outer s H E) → Takes (cxOf (L2.CX P w) P w K mg base N x (defScope st) f cdv A outer s H E) (wOf E) → PassesOwn (model P w) (cxOf (L2.CX P w) P w K mg base N x (defScope st) f cdv A outer s H E).A (cxOf (L2.CX P w) P w K mg base N x (defScope st) f cdv A outer s H E).env (cxOf (L2.CX P w) P w K mg base N x (defScope st) f cdv A outer s H E).xe → Room k (A.deeper (PyProof.Rows.envOfC x (defScope st) s.heap.objs.size f cdv)) → DB (cxOf (L2.CX P w) P w K mg base N x (defScope st) f cdv A outer s H E) ⟨some a⟩ (wOf E) (defBody st) m) :
    CalIO P w K mg base x (k + 1) ps.length (fun p as => finIO (m (startR N.length (p :: as)))) := by
  obtain ⟨f, fd, cc, PT, F, hm, hb, hcd, tb, hT, hu⟩ := T.ex
  exact ⟨f, fd, ps, fn_IO F S (fun a cdv A outer s H E hc hr => body a f cdv A outer s H E ⟨⟨cc, PT, tb, hc ▸ hcd, hT, hu⟩⟩ (takes_of rfl rfl rfl rfl) (passes_of rfl) hr), hm, F.kp, hb⟩
theorem fnok_D {f : Addr} {fd : FuncData} (F : Fun K x x st f fd) (S : FnScope N ps (defScope st))
    (body : ∀ (cdv : Value) (A : Around) (outer : List Env) (s : Shared) (H : Hp) (E : XK), Takes (cxOf (L2.CX P w) P w K mg base N x (defScope st) f cdv A outer s H E) (wOf E) → PassesOwn (model P w) (cxOf (L2.CX P w) P w K mg base N x (defScope st) f cdv A outer s H E).A (cxOf (L2.CX P w) P w K mg base N x (defScope st) f cdv A outer s H E).env (cxOf (L2.CX P w) P w K mg base N x (defScope st) f cdv A outer s H E).xe → Room k (A.deeper (PyProof.Rows.envOfC x (defScope st) s.heap.objs.size f cdv)) → DB (cxOf (L2.CX P w) P w K mg base N x (defScope st) f cdv A outer s H E) ⟨none⟩ (wOf E) (defBody st) m) :
    FnOk P w K mg base (L2.CX P w) (k + 1) f fd ps (spD K mg ps.length (fun as => fin (m (startR N.length as)))) :=
  fn_D F S (fun cdv A outer s H E _ hr => body cdv A outer s H E (takes_of rfl rfl rfl rfl) (passes_of rfl) hr)
theorem fnok_DL {f c PT : Addr} {fd : FuncData} (F : Fun K x x st f fd) (hcd : fd.code = .ref c) (tb : LamX.TabB base mg c PT) (hT : (PT, (x ++ ".<locals>.") ++ "<lambda>") ∈ HasT.T) (hu : ∀ p ∈ HasT.T, p.1 = PT → p.2 = (x ++ ".<locals>.") ++ "<lambda>") (S : FnScope N ps (defScope st))
    (body : ∀ (cdv : Value) (A : Around) (outer : List Env) (s : Shared) (H : Hp) (E : XK), LamC (cxOf (L2.CX P w) P w K mg base N x (defScope st) f cdv A outer s H E) → Takes (cxOf (L2.CX P w) P w K mg base N x (defScope st) f cdv A outer s H E) (wOf E) → PassesOwn (model P w) (cxOf (L2.CX P w) P w K mg base N x (defScope st) f cdv A outer s H E).A (cxOf (L2.CX P w) P w K mg base N x (defScope st) f cdv A outer s H E).env (cxOf (L2.CX P w) P w K mg base N x (defScope st) f cdv A outer s H E).xe → Room k (A.deeper (PyProof.Rows.envOfC x (defScope st) s.heap.objs.size f cdv)) → DB (cxOf (L2.CX P w) P w K mg base N x (defScope st) f cdv A outer s H E) ⟨none⟩ (wOf E) (defBody st) m) :
    FnOk P w K mg base (L2.CX P w) (k + 1) f fd ps (spD K mg ps.length (fun as => fin (m (startR N.length as)))) :=
  fn_D F S (fun cdv A outer s H E hc hr => body cdv A outer s H E ⟨⟨c, PT, tb, hc ▸ hcd, hT, hu⟩⟩ (takes_of rfl rfl rfl rfl) (passes_of rfl) hr)
theorem cal_C (T : MtT K mg c x qual st ps) (S : FnScope N ps (defScope st))
    (body : ∀ (f : Addr) (cdv : Value) (A : Around) (outer : List Env) (s : Shared) (H : Hp) (E : XK), Takes (cxOf (L2.CX P w) P w K mg base N qual (defScope st) f cdv A outer s H E) (wOf E) → PassesOwn (model P w) (cxOf (L2.CX P w) P w K mg base N qual (defScope st) f cdv A outer s H E).A (cxOf (L2.CX P w) P w K mg base N qual (defScope st) f cdv A outer s H E).env (cxOf (L2.CX P w) P w K mg base N qual (defScope st) f cdv A outer s H E).xe → Room k (A.deeper (PyProof.Rows.envOfC qual (defScope st) s.heap.objs.size f cdv)) → DB (cxOf (L2.CX P w) P w K mg base N qual (defScope st) f cdv A outer s H E) ⟨none⟩ (wOf E) (defBody st) m) :
    CalC P w K mg base c x (k + 1) ps.length (fun as => fin (m (startR N.length as))) := by
  obtain ⟨C, f, fd, hm, cl, me, F, hb⟩ := T.ex
  exact ⟨C, f, fd, ps, hm, cl, me, fn_D F S (fun cdv A outer s H E _ hr => body f cdv A outer s H E (takes_of rfl rfl rfl rfl) (passes_of rfl) hr), hb⟩
theorem cal_K (T : InT K mg c qual st ps) (S : FnScope N ps (defScope st))
    (body : ∀ (a f : Addr) (cdv : Value) (A : Around) (outer : List Env) (s : Shared) (H : Hp) (E : XK), Takes (cxOf (L2.CX P w) P w K mg base N qual (defScope st) f cdv A outer s H E) (wOf E) → PassesOwn (model P w) (cxOf (L2.CX P w) P w K mg base N qual (defScope st) f cdv A outer s H E).A (cxOf (L2.CX P w) P w K mg base N qual (defScope st) f cdv A outer s H E).env (cxOf (L2.CX P w) P w K mg base N qual (defScope st) f cdv A outer s H E).xe → Room k (A.deeper (PyProof.Rows.envOfC qual (defScope st) s.heap.objs.size f cdv)) → DB (cxOf (L2.CX P w) P w K mg base N qual (defScope st) f cdv A outer s H E) ⟨some a⟩ (wOf E) (defBody st) m) :
    CalK P w K mg base c (k + 1) ps.length (fun p as => finIO (m (startR N.length (p :: as)))) := by
  obtain ⟨C, f, fd, hm, M, F, hb⟩ := T.ex
  exact ⟨C, f, fd, ps, hm, M, fn_IO F S (fun a cdv A outer s H E _ hr => body a f cdv A outer s H E (takes_of rfl rfl rfl rfl) (passes_of rfl) hr), hb⟩
end

/-! ### exceptions, by name -/
structure XcT (P : Program) (K : Frag) (mg : Mg) (c f : Str) : Prop where
  ex : ∃ C fI y, SupC P K C fI f y ∧ mg c = some (.ref C)
structure TcT (K : Frag) (mg : Mg) (c f : Str) : Prop where
  ex : ∃ CS, mg c = some (.ref CS) ∧ CatC K CS f
section
variable {X : Cx} {D : DX} {W : WX} {x n f : Str} {e : Expr} {m : ME} {mb : MS} {i : Nat} {body : List Stmt} {p pos rpos np p5 p6 p7 p8 : Pos} {k : Nat}
theorem ds_raiseX (c : XcT X.prog X.K X.mg x f) (hsup : X.mg "super" = none) (hr : Room (k + 1) X.A) (tk : Takes X W) (hg : Gl X x) (hc : X.calm = true) (h : DM X D W e m)
    (hdb : (x == ("__debug__" : Str)) = false := by decide) (he : starEach [e] X.env = (false, eval e X.env) :: starEach [] X.env := by rfl) (hpl : (backTo pos (starEach [] X.env)).any (·.1) = false := by rfl) :
    DS X D W (.Raise (some (.Call (.Name x p) [e] [] pos)) none rpos) (sRaise x f m) := by
  obtain ⟨C, fI, y, z, hm⟩ := c.ex
  exact ds_raise hc z hsup hr hg hm tk h hdb he hpl
theorem ds_tryX (c : TcT X.K X.mg x f) (tk : Takes X W) (hs : X.stack = X.env :: X.outer) (hf : X.env.frame = some X.env.locals) (hN : X.N.Nodup) (hi : X.N[i]? = some n) (hln : X.env.kindOf n = some .local) (hc : Gl X x)
    (hb : ∀ (W' : WX) (pn : List (Addr × Obj)) (xe : Value → Shared → Prop), Takes (X.tr pn xe) W' → PassesOwn (model X.prog X.w) X.A X.env xe → DB (X.tr pn xe) D W' body mb)
    (hbase : attributeBase (.Name n p5) f X.env (eval (.Name n p5) X.env) = eval (.Name n p5) X.env := by rfl)
    (hd1 : (x == ("__debug__" : Str)) = false := by decide) (hd2 : (n == ("__debug__" : Str)) = false := by decide) (hd3 : (n == ("__classdict__" : Str)) = false := by decide) :
    DS X D W (.Try body [.ExceptHandler (some (.Name x np)) (some n) [.Return (some (.Attribute (.Name n p5) f p6)) p7] p8] [] [] pos) (sTry x f mb) := by
  obtain ⟨CS, hm, T⟩ := c.ex
  exact ds_try hs hf hN hi hln hc hm T tk (.inl hln) hb hbase hd1 hd2 hd3
end
end PX
set_option Elab.async false
set_option linter.all false
set_option maxRecDepth 100000
set_option maxHeartbeats 3900000
namespace PX
open PySem L2

/-! ### the facts, from what the top has written -/
section
variable {K : Frag} {mg : Mg} {h : Heap} {x c : Str} {st : Stmt} {ps : List Str} {f C cc P : Addr} {oc kV doc pm cdv ct : Value} {od an : Option Addr} {osl : Array (Option Value)}
theorem fnT_of (X : K.In h) (G : h.Ns mainGlobals mg) (a : PySem.W.nsIn K mainGlobals x = some (some (.ref f))) (l : K.lookup f = some ⟨oc, od, .func (PySem.W.fnOf x x (defArgs st) (defBody st) (defScope st) .none kV doc pm an cdv ct), osl⟩)
    (hc : PySem.W.codeIn K cdv x = true) (k : PySem.W.keepIn K (.ref f) = true)
    (hb : ∀ (kV doc pm : Value) (an : Option Addr) (cdv ct : Value) (us : List Value), us.length = ps.length → bindArgs (PySem.W.fnOf x x (defArgs st) (defBody st) (defScope st) .none kV doc pm an cdv ct) ⟨us, []⟩ = pure (ps.zip us)) : FnT K mg x st ps :=
  ⟨f, _, fun_mk l hc k, PySem.W.mg_of X G a, (fun_mk l hc k).binds hb⟩
theorem tab_get {ec : Value} {dd : Option Addr} {vs : Array Value} {sl : Array (Option Value)} {fd : FuncData} (a : PySem.W.nsIn K mainGlobals x = some (some (.ref f))) (l : K.lookup f = some ⟨oc, od, .func fd, osl⟩) (hcd : fd.code = .ref cc) (t : K.lookup cc = some ⟨ec, dd, .fields vs, sl⟩) (v : vs[11]? = some (.ref P)) :
    PySem.W.tabIn K x = some (cc, P) := by
  unfold PySem.W.tabIn
  rw [a]
  simp only [l, hcd, t, v]
theorem fnL_of [HasT] {base : Heap} (X : K.In h) (G : h.Ns mainGlobals mg) (a : PySem.W.nsIn K mainGlobals x = some (some (.ref f))) (l : K.lookup f = some ⟨oc, od, .func (PySem.W.fnOf x x (defArgs st) (defBody st) (defScope st) .none kV doc pm an (.ref cc) ct), osl⟩)
    (hc : PySem.W.codeIn K (.ref cc) x = true) (k : PySem.W.keepIn K (.ref f) = true) (tb : LamX.TabB base mg cc P) (hT : (P, (x ++ ".<locals>.") ++ "<lambda>") ∈ HasT.T) (hu : ∀ p ∈ HasT.T, p.1 = P → p.2 = (x ++ ".<locals>.") ++ "<lambda>")
    (hb : ∀ (kV doc pm : Value) (an : Option Addr) (cdv ct : Value) (us : List Value), us.length = ps.length → bindArgs (PySem.W.fnOf x x (defArgs st) (defBody st) (defScope st) .none kV doc pm an cdv ct) ⟨us, []⟩ = pure (ps.zip us)) : FnL K mg base x st ps :=
  ⟨f, _, cc, P, fun_mk l hc k, PySem.W.mg_of X G a, (fun_mk l hc k).binds hb, rfl, tb, hT, hu⟩
theorem blt_of (X : K.In h) (G : h.Ns mainGlobals mg) (z : PySem.W.nsIn K mainGlobals x = some none) : mg x = none := PySem.W.mg_none_of X G z
theorem glcI_of {i : Int} {t : Tok} (X : K.In h) (G : h.Ns mainGlobals mg) (a : PySem.W.nsIn K mainGlobals x = some (some (.int i t))) : GlC mg x (.int i) := ⟨_, PySem.W.mg_of X G a, t, rfl⟩
theorem glcS_of {i : Str} {t : Tok} (X : K.In h) (G : h.Ns mainGlobals mg) (a : PySem.W.nsIn K mainGlobals x = some (some (.str i t))) : GlC mg x (.str i) := ⟨_, PySem.W.mg_of X G a, t, rfl⟩
/-- a plain class -/
structure ClT (K : Frag) (mg : Mg) (c : Str) (C : Addr) : Prop where
  at_ : mg c = some (.ref C)
  cl : Cls K C
theorem clT_of (X : K.In h) (G : h.Ns mainGlobals mg) (a : PySem.W.nsIn K mainGlobals c = some (some (.ref C))) (pg : PySem.W.plainGet K C Str.empty = true) (hd : PySem.W.hasDictIn K C = true) (po : PySem.W.plainOver K C = true)
    (sa : PySem.W.findIn K (.ref C) "__setattr__" = some (some (.builtin "object.__setattr__"))) : ClT K mg c C := ⟨PySem.W.mg_of X G a, ⟨pg, hd, po, sa⟩⟩
theorem fld_of {g : Str} (T : ClT K mg c C) (n : PySem.W.findIn K (.ref C) g = some none) : FldC K mg c g := ⟨fun C' hm => by
  have e := T.at_
  rw [hm] at e
  cases e
  exact ⟨T.cl, n⟩⟩
theorem mtT_of {q : Str} (T : ClT K mg c C) (a : PySem.W.findIn K (.ref C) x = some (some (.ref f))) (i : PySem.W.isFn K (.ref f) = true) (l : K.lookup f = some ⟨oc, od, .func (PySem.W.fnOf x q (defArgs st) (defBody st) (defScope st) .none kV doc pm an cdv ct), osl⟩)
    (hc : PySem.W.codeIn K cdv q = true) (k : PySem.W.keepIn K (.ref f) = true)
    (hb : ∀ (kV doc pm : Value) (an : Option Addr) (cdv ct : Value) (us : List Value), us.length = ps.length → bindArgs (PySem.W.fnOf x q (defArgs st) (defBody st) (defScope st) .none kV doc pm an cdv ct) ⟨us, []⟩ = pure (ps.zip us)) : MtT K mg c x q st ps :=
  ⟨C, f, _, T.at_, T.cl, ⟨a, i, k⟩, fun_mk l hc k, (fun_mk l hc k).binds hb⟩
theorem inT_of {q : Str} (T : ClT K mg c C) (mk : PySem.W.makesIn K C = true) (kc : PySem.W.keepIn K (.ref C) = true) (a : PySem.W.findIn K (.ref C) "__init__" = some (some (.ref f))) (i : PySem.W.isFn K (.ref f) = true)
    (l : K.lookup f = some ⟨oc, od, .func (PySem.W.fnOf "__init__" q (defArgs st) (defBody st) (defScope st) .none kV doc pm an cdv ct), osl⟩) (hc : PySem.W.codeIn K cdv q = true) (k : PySem.W.keepIn K (.ref f) = true)
    (hb : ∀ (kV doc pm : Value) (an : Option Addr) (cdv ct : Value) (us : List Value), us.length = ps.length → bindArgs (PySem.W.fnOf "__init__" q (defArgs st) (defBody st) (defScope st) .none kV doc pm an cdv ct) ⟨us, []⟩ = pure (ps.zip us)) : InT K mg c q st ps :=
  ⟨C, f, _, T.at_, ⟨mk, a, i, kc⟩, fun_mk l hc k, (fun_mk l hc k).binds hb⟩
/-! exceptions -/
theorem exmSelf (bP : PySem.W.subIn K (.ref C) (.type "BaseException") = some true) {cdC : ClassData} (iP : PySem.W.clsIn K C = some cdC) (tP : PySem.W.typeIn K (.ref C) = some (.type "type")) (sP : PySem.W.subIn K (.ref C) (.ref C) = some true) : PySem.W.exmOne K (.ref C) (.ref C) = some true := by
  unfold PySem.W.exmOne PySem.W.kitCls
  simp [bP, iP, tP, sP]
theorem tcT_of {g : Str} (X : K.In h) (G : h.Ns mainGlobals mg) (a : PySem.W.nsIn K mainGlobals c = some (some (.ref C))) (bP : PySem.W.subIn K (.ref C) (.type "BaseException") = some true) {cdC : ClassData} (iP : PySem.W.clsIn K C = some cdC) (tP : PySem.W.typeIn K (.ref C) = some (.type "type")) (sP : PySem.W.subIn K (.ref C) (.ref C) = some true)
    (ga : PySem.W.findIn K (.ref C) "__getattribute__" = some (some (.builtin "BaseException.__getattribute__"))) (gg : PySem.W.findIn K (.ref C) "__getattr__" = some none) (hd : PySem.W.hasDictIn K C = true) (no : PySem.W.findIn K (.ref C) g = some none) : TcT K mg c g :=
  ⟨C, PySem.W.mg_of X G a, exmSelf bP iP tP sP, ⟨ga, gg, bP, hd⟩, no⟩
theorem xcT_of {Pr : Program} {g y q : Str} {fI cda cx : Addr} {nm qn : Str} {N : Addr} {bs bm : List Value} {sn : List Str} {sub : List Value} {ab : Bool} {col : Option Bool} {dd cdd cld : Option Addr} {k0 k1 k2 k3 k5 : Option Value} {ccl cl : Value} {vs : Array Value} {ccs csl : Array (Option Value)} {file : Str} {tf : Tok} {cdD : ClassData}
    (X : K.In h) (G : h.Ns mainGlobals mg) (a : PySem.W.nsIn K mainGlobals c = some (some (.ref C))) (lC : K.lookup C = some (excClassObj nm qn C N bs bm true sn sub ab col dd k0 k1 k2 k3 k5 "ValueError.__new__")) (rb : PySem.HandSPX.refsVE bm = true)
    (sa : PySem.W.findIn K (.ref C) "__setattr__" = some (some (.builtin "object.__setattr__"))) (exC : PySem.W.subIn K (.ref C) (.type "BaseException") = some true) (tyC : PySem.W.typeIn K (.ref C) = some (.type "type")) (kC : PySem.W.keepIn K (.ref C) = true)
    (iC : PySem.W.findIn K (.ref C) "__init__" = some (some (.ref fI))) (lI : K.lookup fI = some ⟨oc, od, .func (PySem.W.ksFn "__init__" q (defArgs st) (defBody st) (defScope st) .none kV doc pm an (.ref cda) ct cx), osl⟩) (hc : PySem.W.codeIn K (.ref cda) q = true)
    (lc : K.lookup cda = some ⟨ccl, cdd, .fields vs, ccs⟩) (v2 : vs[2]? = some (.str file tf)) (hf : ((Pr.main.file : Str) == file) = true) (lx : K.lookup cx = some ⟨cl, cld, .cell (some (.ref C)), csl⟩) (cD : PySem.W.clsIn K C = some cdD) (mr : PySem.W.mroIn K C (.ref C) = some true)
    (any : PySem.W.nsIn K cStatics "thirdparty.any" = some none) (sup : PySem.W.ks_superIn K C C "__init__" = some (some (.builtin "ValueError.__init__"))) (sB : PySem.W.subIn K (.ref C) (.type "ValueError") = some true) (noF : PySem.W.findIn K (.ref C) g = some none) (tI : PySem.W.typeIn K (.ref fI) = some (.type "function"))
    (htop : (Pr.main.scope.names.lookup ("super" : Str)).isSome = false) (ys : y ≠ "self") (yd : (y == ("__debug__" : Str)) = false)
    (hst : ∃ (ar : Arg) (p0 p1 p2 p3 p4 p5 p6 p7 p8 p9 : Pos), defBody st = [.Expr (.Call (.Attribute (.Call (.Name "super" p0) [] [] p1) "__init__" p2) [.Name y p3] [] p4) p5, .Assign [.Attribute (.Name "self" p6) g p7] (.Name y p8) p9] ∧ ((defArgs st).posonlyargs ++ (defArgs st).args).head? = some ar ∧ ar.arg = "self" ∧
      (p2.endLine == p4.line) = true ∧ (∀ L : Addr, swapsWith (.Call (.Attribute (.Call (.Name "super" p0) [] [] p1) "__init__" p2) [.Name y p3] [] p4) none p5.line (PySem.W.ksEnv q (defScope st) L fI (.ref cda) cx) = pure false) ∧
      (∀ L : Addr, swapsWith (.Name y p8) (some (.Attribute (.Name "self" p6) g p7)) p9.line (PySem.W.ksEnv q (defScope st) L fI (.ref cda) cx) = pure false))
    (n1 : (defScope st).names.lookup ("super" : Str) = some .globalImplicit) (n2 : (defScope st).names.lookup ("__class__" : Str) = some .free) (n3 : (defScope st).names.lookup ("self" : Str) = some .local) (n4 : (defScope st).names.lookup y = some .local) (hk : (defScope st).kind = .function) (hco : (defScope st).isCoroutine = false) (hge : (defScope st).isGenerator = false)
    (hcell : ∀ x ∈ (defScope st).names, x.2 ≠ .cell)
    (hb : ∀ us : List Value, us.length = 2 → bindArgs (PySem.W.ksFn "__init__" q (defArgs st) (defBody st) (defScope st) .none kV doc pm an (.ref cda) ct cx) ⟨us, []⟩ = pure ([("self" : Str), y].zip us)) : XcT Pr K mg c g := by
  obtain ⟨ar, p0, p1, p2, p3, p4, p5, p6, p7, p8, p9, e1, e2, e3, e4, e5, e6⟩ := hst
  rw [e1] at lI hb
  exact ⟨C, fI, y, ⟨⟨q, defArgs st, defScope st, .none, kV, doc, pm, ct, oc, ccl, cl, an, od, cdd, cld, osl, ccs, csl, cda, cx, vs, file, tf, ar, cdD, p0, p1, p2, p3, p4, p5, p6, p7, p8, p9, lI, hc, e2, e3, lc, v2, hf, lx, cD, mr, n1, n2, n3, n4, hk, hco, hge, hcell, hb, e4, e5, e6⟩,
    ⟨⟨nm, qn, N, bs, bm, sn, sub, ab, col, dd, k0, k1, k2, k3, k5, lC, rb⟩, sa, exC, tyC, kC⟩, any, sup, sB, noF, iC, tI, htop, ys, yd⟩, PySem.W.mg_of X G a⟩
theorem refC_of {cf fl z a n : Str} {CS : Addr} {fd : FuncData} (T : FnT K mg x st [a]) (hc : TcT K mg cf fl)
    (hst : ∃ (j : Nat) (p1 p2 p3 p4 p5 p6 p7 p8 p9 p10 p11 : Pos), defBody st = [.Try [.Expr (.Call (.Name a p1) [] [] p2) p3] [.ExceptHandler (some (.Name cf p4)) (some n) [.Return (some (.Attribute (.Name n p5) fl p6)) p7] p8] [] [] p9, .Return (some (.Constant (.str z) j p10)) p11] ∧
      (∀ (g L : Addr) (cdg : Value), attributeBase (.Name n p5) fl (PyProof.Rows.envOfC x (defScope st) L g cdg) (eval (.Name n p5) (PyProof.Rows.envOfC x (defScope st) L g cdg)) = eval (.Name n p5) (PyProof.Rows.envOfC x (defScope st) L g cdg)) ∧
      (∀ (g L : Addr) (cdg : Value), swapsWith (.Call (.Name a p1) [] [] p2) none p3.line (PyProof.Rows.envOfC x (defScope st) L g cdg) = pure false))
    (sc : FnScope [a, n] [a] (defScope st)) (hv : Vis (defScope st) a) (hg : (defScope st).names.lookup cf = some .globalImplicit) (han : a ≠ n) (hln : (defScope st).names.lookup n = some .local)
    (d1 : (a == ("__debug__" : Str)) = false := by decide) (d2 : (a == ("__classdict__" : Str)) = false := by decide) (d3 : (cf == ("__debug__" : Str)) = false := by decide) (d4 : (n == ("__debug__" : Str)) = false := by decide) (d5 : (n == ("__classdict__" : Str)) = false := by decide) : RefC K mg x cf fl z := by
  obtain ⟨g, fd, F, hm, hb⟩ := T.ex
  obtain ⟨CS, hmc, cat⟩ := hc.ex
  obtain ⟨j, p1, p2, p3, p4, p5, p6, p7, p8, p9, p10, p11, e1, e2, e3⟩ := hst
  exact ⟨st, g, CS, fd, a, n, j, p1, p2, p3, p4, p5, p6, p7, p8, p9, p10, p11, F, e1, hm, hb, sc, hv, hg, hmc, cat, han, hln, d1, d2, d3, d4, d5, fun L c => e2 g L c, fun L c => e3 g L c⟩
end
end PX
set_option Elab.async false
set_option linter.all false
set_option maxRecDepth 100000
set_option maxHeartbeats 3900000
namespace PX
open PySem L2
mutual
theorem fz_frz : ∀ {p : PV}, fz p = true → frz p = p
  | .non, _ => rfl
  | .bl _, _ => rfl
  | .int _, _ => rfl
  | .str _, _ => rfl
  | .lst o xs, h => by
    simp only [fz, Bool.and_eq_true, Bool.not_eq_true'] at h
    simp [frz, h.1, fzL_frzL h.2]
  | .tup xs, h => by
    simp only [fz] at h
    simp [frz, fzL_frzL h]
  | .scr xs, h => by
    simp only [fz] at h
    simp [frz, fzL_frzL h]
  | .ins o c fs xs, h => by
    simp only [fz, Bool.and_eq_true, Bool.not_eq_true'] at h
    simp [frz, h.1, fzL_frzL h.2]
  | .dK o ks xs, h => by
    simp only [fz, Bool.and_eq_true, Bool.not_eq_true'] at h
    simp [frz, h.1, fzL_frzL h.2]
  | .dT o ks xs, h => by
    simp only [fz, Bool.and_eq_true, Bool.not_eq_true'] at h
    simp [frz, h.1, fzL_frzL h.2]
theorem fzL_frzL : ∀ {xs : List PV}, fzL xs = true → frzL xs = xs
  | [], _ => rfl
  | x :: xs, h => by
    simp only [fzL, Bool.and_eq_true] at h
    simp [frzL, fz_frz h.1, fzL_frzL h.2]
end
theorem fzL_mem : ∀ {xs : List PV}, fzL xs = true → ∀ x ∈ xs, fz x = true
  | x :: xs, h, y, hy => by
    simp only [fzL, Bool.and_eq_true] at h
    rcases List.mem_cons.mp
        hy with e | hy
    · rw [e]; exact h.1
    · exact fzL_mem h.2 y hy
theorem fzL_of : ∀ {xs : List PV}, (∀ x ∈ xs, fz x = true) → fzL xs = true
  | [], _ => rfl
  | x :: xs, h => by
    simp only [fzL, Bool.and_eq_true]
    exact ⟨h x (by simp), fzL_of fun y hy => h y (by simp [hy])⟩
theorem bind_ok {α β : Type} (a : α) (f : α → R β) : (Except.ok a >>= f : R β) = f a := rfl
theorem bind_err {α β : Type} (e : Er) (f : α → R β) : (Except.error e >>= f : R β) = .error e := rfl
theorem seq_nx {m n : MS} {ρ ρ1 : Rho} (h : m ρ = .ok (.nx, ρ1)) : sSeq m n ρ = n ρ1 := by
  unfold sSeq
  rw [h, bind_ok]
theorem pyEq_int {i j : Int} : pyEq (.int i) (.int j) = .ok (.bl (decide (i = j))) := by
  have h : ∀ k : Int, SeqAt.shaped (PyData.int k) = true := fun k => rfl
  unfold pyEq pyEqB
  simp only [toD, h, Bool.and_self, if_true, bind_ok]
  rfl
/-- every member, from two mapped lists -/
theorem map_all {α β : Type} {f g : α → β} {xs : List α} (h : xs.map f = xs.map g) {x : α} (hx : x ∈ xs) : f x = g x := List.map_inj_left.mp h x hx
/-- a loop whose body goes on, by an invariant -/
theorem forM_inv {b : PV → Rho → R Rho} {body : MS} {I : Nat → Rho → Prop} : ∀ (xs : List PV), (∀ (i : Nat) (x : PV) (ρ : Rho), x ∈ xs → I i ρ → ∃ ρ1 ρ2, b x ρ = .ok ρ1 ∧ body ρ1 = .ok (.nx, ρ2) ∧ I (i + 1) ρ2) → ∀ (i : Nat) (ρ : Rho), I i ρ → ∃ ρ', forM b body xs ρ = .ok (.nx, ρ') ∧ I (i + xs.length) ρ'
  | [], _, i, ρ, h => ⟨ρ, rfl, h⟩
  | x :: xs, hs, i, ρ, h => by
    obtain ⟨ρ1, ρ2, e1, e2, h2⟩ := hs i x ρ (by simp) h
    obtain ⟨ρ', e3, h3⟩ := forM_inv xs (fun j y r hy => hs j y r (by simp [hy])) (i + 1) ρ2 h2
    refine ⟨ρ', ?_, by rw [List.length_cons, show i + (xs.length + 1) = i + 1 + xs.length by omega]; exact h3⟩
    unfold forM
    rw [e1]
    show (body ρ1 >>= _) = _
    rw [e2, bind_ok]
    exact e3
end PX
set_option Elab.async false
set_option linter.all false
set_option maxRecDepth 100000
set_option maxHeartbeats 3900000
namespace G00
open PySem L2 PX
def top (i : Nat) : Stmt := PySem.Challenge.pw_beadrods_k00_whole_rods.main.body.getD i (.Pass ⟨0, 0, 0, 0⟩)
abbrev st_is_in : Stmt := top 5
abbrev N_is_in : List Str := ["value", "low", "high"]
theorem nd_is_in : N_is_in.Nodup := by decide +kernel
theorem sc_is_in : FnScope N_is_in ["value", "low", "high"] (defScope st_is_in) := ⟨rfl, rfl, rfl, nd_is_in, rfl, by decide +kernel, by decide +kernel⟩
def m_is_in_L16 : MS := sRet (eAnd (eB1 (pyIsi .int) (eVar 0)) (eAnd (eNot (eB1 (pyIsi .bool) (eVar 0))) (eChain pyLe pyLe (eVar 1) (eVar 0) (eVar 2))))
def m_is_in : MS := m_is_in_L16
def d_is_in (as : List PV) : R PV := fin (m_is_in (startR 3 as))
abbrev st_is_tuple : Stmt := top 6
abbrev N_is_tuple : List Str := ["value", "least", "most"]
theorem nd_is_tuple : N_is_tuple.Nodup := by decide +kernel
theorem sc_is_tuple : FnScope N_is_tuple ["value", "least", "most"] (defScope st_is_tuple) := ⟨rfl, rfl, rfl, nd_is_tuple, rfl, by decide +kernel, by decide +kernel⟩
def m_is_tuple_L18 : MS := sRet (eAnd (eB1 (pyIsi .tuple) (eVar 0)) (eChain pyLe pyLe (eVar 1) (eB1 pyLen' (eVar 0)) (eVar 2)))
def m_is_tuple : MS := m_is_tuple_L18
def d_is_tuple (as : List PV) : R PV := fin (m_is_tuple (startR 3 as))
abbrev st_is_text : Stmt := top 7
abbrev N_is_text : List Str := ["value", "most"]
theorem nd_is_text : N_is_text.Nodup := by decide +kernel
theorem sc_is_text : FnScope N_is_text ["value", "most"] (defScope st_is_text) := ⟨rfl, rfl, rfl, nd_is_text, rfl, by decide +kernel, by decide +kernel⟩
def m_is_text_L20 : MS := sRet (eAnd (eB1 (pyIsi .str) (eVar 0)) (eBinF pyLe (eB1 pyLen' (eVar 0)) (eVar 1)))
def m_is_text : MS := m_is_text_L20
def d_is_text (as : List PV) : R PV := fin (m_is_text (startR 2 as))
abbrev st_demand : Stmt := top 8
abbrev N_demand : List Str := ["is_good", "name"]
theorem nd_demand : N_demand.Nodup := by decide +kernel
theorem sc_demand : FnScope N_demand ["is_good", "name"] (defScope st_demand) := ⟨rfl, rfl, rfl, nd_demand, rfl, by decide +kernel, by decide +kernel⟩
def m_demand_L23 : MS := sRaise "BadArgument" "name" (eMov 1)
def m_demand_L22 : MS := sIf (tNt (tTru (eVar 0))) m_demand_L23 sNx
def m_demand : MS := m_demand_L22
def d_demand (as : List PV) : R PV := fin (m_demand (startR 2 as))
abbrev st_rows_of : Stmt := top 18
abbrev N_rows_of : List Str := ["decks", "rows", "beads", "worth", "later", "row", "many"]
theorem nd_rows_of : N_rows_of.Nodup := by decide +kernel
theorem sc_rows_of : FnScope N_rows_of ["decks"] (defScope st_rows_of) := ⟨rfl, rfl, rfl, nd_rows_of, rfl, by decide +kernel, by decide +kernel⟩
def m_rows_of_L43 : MS := sSet 1 (eLst (aCons (eTup aNil) aNil))
def m_rows_of_L45 : MS := sSet 4 (eLst aNil)
def m_rows_of_L47 : MS := sExt 4 (eComp [6] (itRange1 (aCons (eBinN pyAdd 2 (eC (.int 1))) aNil)) (bName 6) tYesM (eBinN pyAdd 5 (eTup (aCons (eMov 6) aNil))))
def m_rows_of_L46 : MS := sFor (itSeq (eMov 1)) (bName 5) m_rows_of_L47
def m_rows_of_L48 : MS := sSet 1 (eMov 4)
def m_rows_of_B44 : MS := sSeq m_rows_of_L45 (sSeq m_rows_of_L46 m_rows_of_L48)
def m_rows_of_L44 : MS := sFor (itSeq (eMov 0)) (bTupN 2 (bCons (bName 2) (bCons (bName 3) bNil))) m_rows_of_B44
def m_rows_of_L49 : MS := sRet (eMov 1)
def m_rows_of : MS := sSeq m_rows_of_L43 (sSeq m_rows_of_L44 m_rows_of_L49)
def d_rows_of (as : List PV) : R PV := fin (m_rows_of (startR 7 as))
abbrev st_Rod___init__ : Stmt := inClass (top 17) 0
abbrev N_Rod___init__ : List Str := ["self", "base", "decks", "row", "many", "deck"]
theorem nd_Rod___init__ : N_Rod___init__.Nodup := by decide +kernel
theorem sc_Rod___init__ : FnScope N_Rod___init__ ["self", "base", "decks"] (defScope st_Rod___init__) := ⟨rfl, rfl, rfl, nd_Rod___init__, rfl, by decide +kernel, by decide +kernel⟩
def m_Rod___init___L35 : MS := sFldZ "Rod" "base" 0 (eMov 1)
def m_Rod___init___L36 : MS := sFldZ "Rod" "decks" 0 (eMov 2)
def m_Rod___init___L37 : MS := sFldZ "Rod" "rows" 0 (eCall d_rows_of 1 (aCons (eMov 2) aNil))
def m_Rod___init___L38 : MS := sFldZ "Rod" "worths" 0 (eComp [3] (itSeq (mv (eFld "Rod" "rows" (eVar 0)))) (bName 3) tYesM (eB1 pySum (eComp [4, 5] (itZip2 (aCons (eMov 3) (aCons (eMov 2) aNil))) (bTupN 2 (bCons (bName 4) (bCons (bName 5) bNil))) tYesM (eBinN pyMul 4 (eBinN pyIx 5 (eC (.int 1)))))))
def m_Rod___init__ : MS := sSeq m_Rod___init___L35 (sSeq m_Rod___init___L36 (sSeq m_Rod___init___L37 m_Rod___init___L38))
def d_Rod___init__ (p : PV) (as : List PV) : R (PV × PV) := finIO (m_Rod___init__ (startR 6 (p :: as)))
abbrev st_Rod_place : Stmt := inClass (top 17) 1
abbrev N_Rod_place : List Str := ["self", "row"]
theorem nd_Rod_place : N_Rod_place.Nodup := by decide +kernel
theorem sc_Rod_place : FnScope N_Rod_place ["self", "row"] (defScope st_Rod_place) := ⟨rfl, rfl, rfl, nd_Rod_place, rfl, by decide +kernel, by decide +kernel⟩
def m_Rod_place_L41 : MS := sRet (eIf (tBool (eBinN pyIn 1 (eFld "Rod" "rows" (eVar 0)))) (eM1 isLst pyIndex (eFld "Rod" "rows" (eVar 0)) (eVar 1)) (eNeg (eC (.int 1))))
def m_Rod_place : MS := m_Rod_place_L41
def d_Rod_place (as : List PV) : R PV := fin (m_Rod_place (startR 2 as))
abbrev st_number_of : Stmt := top 19
abbrev N_number_of : List Str := ["text", "most", "is_good", "sign"]
theorem nd_number_of : N_number_of.Nodup := by decide +kernel
theorem sc_number_of : FnScope N_number_of ["text", "most"] (defScope st_number_of) := ⟨rfl, rfl, rfl, nd_number_of, rfl, by decide +kernel, by decide +kernel⟩
def m_number_of_L51 : MS := sSet 2 (eAnd (eChain pyLt pyLt (eC (.int 0)) (eB1 pyLen' (eVar 0)) (eC (.int 3))) (eAnd (eB1 pyAll (eComp [3] (itStr (eMov 0)) (bName 3) tYesM (eBinN pyIn 3 (eC (.str "0123456789"))))) (eBinF pyNe (eBinN pyIx 0 (eC (.int 0))) (eC (.str "0")))))
def m_number_of_L52 : MS := sRet (eIf (tAn (tTru (eVar 2)) (tBool (eBinF pyLe (eB1 pyInt (eVar 0)) (eVar 1)))) (eB1 pyInt (eVar 0)) (eNeg (eC (.int 1))))
def m_number_of : MS := sSeq m_number_of_L51 m_number_of_L52
def d_number_of (as : List PV) : R PV := fin (m_number_of (startR 4 as))
abbrev st_read_deck : Stmt := top 20
abbrev N_read_deck : List Str := ["text", "parts", "beads", "worth"]
theorem nd_read_deck : N_read_deck.Nodup := by decide +kernel
theorem sc_read_deck : FnScope N_read_deck ["text"] (defScope st_read_deck) := ⟨rfl, rfl, rfl, nd_read_deck, rfl, by decide +kernel, by decide +kernel⟩
def m_read_deck_L54 : MS := sSet 1 (eM1 isStr pySplit (eVar 0) (eC (.str "x")))
def m_read_deck_L56 : MS := sRet (eC .non)
def m_read_deck_L55 : MS := sIf (tBool (eBinF pyNe (eB1 pyLen' (eVar 1)) (eC (.int 2)))) m_read_deck_L56 sNx
def m_read_deck_L57 : MS := sPar 2 3 (eCall d_number_of 2 (aCons (eBinN pyIx 1 (eC (.int 0))) (aCons (eC (.int 10)) aNil))) (eCall d_number_of 2 (aCons (eBinN pyIx 1 (eC (.int 1))) (aCons (eC (.int 20)) aNil)))
def m_read_deck_L58 : MS := sRet (eIf (tAn (tBool (eBinN pyGt 2 (eC (.int 0)))) (tBool (eBinN pyGt 3 (eC (.int 0))))) (eTup (aCons (eMov 2) (aCons (eMov 3) aNil))) (eC .non))
def m_read_deck : MS := sSeq m_read_deck_L54 (sSeq m_read_deck_L55 (sSeq m_read_deck_L57 m_read_deck_L58))
def d_read_deck (as : List PV) : R PV := fin (m_read_deck (startR 4 as))
abbrev st_shows_all : Stmt := top 21
abbrev N_shows_all : List Str := ["own", "digit"]
theorem nd_shows_all : N_shows_all.Nodup := by decide +kernel
theorem sc_shows_all : FnScope N_shows_all ["own"] (defScope st_shows_all) := ⟨rfl, rfl, rfl, nd_shows_all, rfl, by decide +kernel, by decide +kernel⟩
def m_shows_all_L60 : MS := sRet (eB1 pyAll (eComp [1] (itRange1 (aCons (mv (eFld "Rod" "base" (eVar 0))) aNil)) (bName 1) tYesM (eBinN pyIn 1 (eFld "Rod" "worths" (eVar 0)))))
def m_shows_all : MS := m_shows_all_L60
def d_shows_all (as : List PV) : R PV := fin (m_shows_all (startR 2 as))
abbrev st_count_rows : Stmt := top 22
abbrev N_count_rows : List Str := ["decks", "found", "beads", "worth"]
theorem nd_count_rows : N_count_rows.Nodup := by decide +kernel
theorem sc_count_rows : FnScope N_count_rows ["decks"] (defScope st_count_rows) := ⟨rfl, rfl, rfl, nd_count_rows, rfl, by decide +kernel, by decide +kernel⟩
def m_count_rows_L62 : MS := sSet 1 (eC (.int 1))
def m_count_rows_L64 : MS := sAug pyIMul 1 (eBinN pyAdd 2 (eC (.int 1)))
def m_count_rows_L63 : MS := sFor (itSeq (eMov 0)) (bTupN 2 (bCons (bName 2) (bCons (bName 3) bNil))) m_count_rows_L64
def m_count_rows_L65 : MS := sRet (eMov 1)
def m_count_rows : MS := sSeq m_count_rows_L62 (sSeq m_count_rows_L63 m_count_rows_L65)
def d_count_rows (as : List PV) : R PV := fin (m_count_rows (startR 4 as))
abbrev st_read_rod : Stmt := top 23
abbrev N_read_rod : List Str := ["text", "words", "base", "decks", "found", "at", "word", "deck"]
theorem nd_read_rod : N_read_rod.Nodup := by decide +kernel
theorem sc_read_rod : FnScope N_read_rod ["text"] (defScope st_read_rod) := ⟨rfl, rfl, rfl, nd_read_rod, rfl, by decide +kernel, by decide +kernel⟩
def m_read_rod_L67 : MS := sSet 1 (eM1 isStr pySplit (eVar 0) (eC (.str " ")))
def m_read_rod_L68 : MS := sSet 2 (eCall d_number_of 2 (aCons (eBinN pyIx 1 (eC (.int 0))) (aCons (eC (.int 20)) aNil)))
def m_read_rod_L70 : MS := sRaise "BadText" "place" (eC (.int 0))
def m_read_rod_L69 : MS := sIf (tBool (eBinN pyLt 2 (eC (.int 2)))) m_read_rod_L70 sNx
def m_read_rod_L71 : MS := sSet 3 (eLst aNil)
def m_read_rod_L73 : MS := sSet 7 (eCall d_read_deck 1 (aCons (eMov 6) aNil))
def m_read_rod_L75 : MS := sRaise "BadText" "place" (eBinN pyAdd 5 (eC (.int 1)))
def m_read_rod_L74 : MS := sIf (tO (tBool (eBinN pyIs 7 (eC .non))) (tO (tBool (eBinN pyGe 5 (eC (.int 3)))) (tBool (eBinF pyGt (eCall d_count_rows 1 (aCons (eBinN pyAdd 3 (eLst (aCons (eMov 7) aNil))) aNil)) (eC (.int 40)))))) m_read_rod_L75 sNx
def m_read_rod_L76 : MS := sApp 3 (eMov 7)
def m_read_rod_B72 : MS := sSeq m_read_rod_L73 (sSeq m_read_rod_L74 m_read_rod_L76)
def m_read_rod_L72 : MS := sFor (itEnum (aCons (eSliN 1 (oSome (eC (.int 1))) oNo) aNil)) (bTupN 2 (bCons (bName 5) (bCons (bName 6) bNil))) m_read_rod_B72
def m_read_rod_L77 : MS := sSet 4 (eMake "Rod" d_Rod___init__ 3 (aCons (eMov 2) (aCons (eMov 3) aNil)))
def m_read_rod_L79 : MS := sRaise "BadText" "place" (eB1 pyLen' (eVar 1))
def m_read_rod_L78 : MS := sIf (tNt (tTru (eCall d_shows_all 1 (aCons (eMov 4) aNil)))) m_read_rod_L79 sNx
def m_read_rod_L80 : MS := sRet (eMov 4)
def m_read_rod : MS := sSeq m_read_rod_L67 (sSeq m_read_rod_L68 (sSeq m_read_rod_L69 (sSeq m_read_rod_L71 (sSeq m_read_rod_L72 (sSeq m_read_rod_L77 (sSeq m_read_rod_L78 m_read_rod_L80))))))
def d_read_rod (as : List PV) : R PV := fin (m_read_rod (startR 8 as))
abbrev st_demand_rod : Stmt := top 24
abbrev N_demand_rod : List Str := ["value", "name"]
theorem nd_demand_rod : N_demand_rod.Nodup := by decide +kernel
theorem sc_demand_rod : FnScope N_demand_rod ["value", "name"] (defScope st_demand_rod) := ⟨rfl, rfl, rfl, nd_demand_rod, rfl, by decide +kernel, by decide +kernel⟩
def m_demand_rod_L82 : MS := sDrop (eCall d_demand 2 (aCons (eCall d_is_text 2 (aCons (eMov 0) (aCons (eC (.int 60)) aNil))) (aCons (eMov 1) aNil)))
def m_demand_rod_L83 : MS := sRet (eCall d_read_rod 1 (aCons (eMov 0) aNil))
def m_demand_rod : MS := sSeq m_demand_rod_L82 m_demand_rod_L83
def d_demand_rod (as : List PV) : R PV := fin (m_demand_rod (startR 2 as))
abbrev st_base : Stmt := top 25
abbrev N_base : List Str := ["rod"]
theorem nd_base : N_base.Nodup := by decide +kernel
theorem sc_base : FnScope N_base ["rod"] (defScope st_base) := ⟨rfl, rfl, rfl, nd_base, rfl, by decide +kernel, by decide +kernel⟩
def m_base_L85 : MS := sRet (eFld "Rod" "base" (eCall d_demand_rod 2 (aCons (eMov 0) (aCons (eC (.str "rod")) aNil))))
def m_base : MS := m_base_L85
def d_base (as : List PV) : R PV := fin (m_base (startR 1 as))
abbrev st_decks : Stmt := top 26
abbrev N_decks : List Str := ["rod"]
theorem nd_decks : N_decks.Nodup := by decide +kernel
theorem sc_decks : FnScope N_decks ["rod"] (defScope st_decks) := ⟨rfl, rfl, rfl, nd_decks, rfl, by decide +kernel, by decide +kernel⟩
def m_decks_L87 : MS := sRet (eB1 pyTuple (eFld "Rod" "decks" (eCall d_demand_rod 2 (aCons (eMov 0) (aCons (eC (.str "rod")) aNil)))))
def m_decks : MS := m_decks_L87
def d_decks (as : List PV) : R PV := fin (m_decks (startR 1 as))
abbrev st_rows : Stmt := top 27
abbrev N_rows : List Str := ["rod"]
theorem nd_rows : N_rows.Nodup := by decide +kernel
theorem sc_rows : FnScope N_rows ["rod"] (defScope st_rows) := ⟨rfl, rfl, rfl, nd_rows, rfl, by decide +kernel, by decide +kernel⟩
def m_rows_L89 : MS := sRet (eB1 pyTuple (eFld "Rod" "rows" (eCall d_demand_rod 2 (aCons (eMov 0) (aCons (eC (.str "rod")) aNil)))))
def m_rows : MS := m_rows_L89
def d_rows (as : List PV) : R PV := fin (m_rows (startR 1 as))
abbrev st_read_row : Stmt := top 29
abbrev N_read_row : List Str := ["own", "value", "many", "count", "deck"]
theorem nd_read_row : N_read_row.Nodup := by decide +kernel
theorem sc_read_row : FnScope N_read_row ["own", "value"] (defScope st_read_row) := ⟨rfl, rfl, rfl, nd_read_row, rfl, by decide +kernel, by decide +kernel⟩
def m_read_row_L94 : MS := sSet 2 (eB1 pyLen' (eFld "Rod" "decks" (eVar 0)))
def m_read_row_L96 : MS := sRet (eNeg (eC (.int 1)))
def m_read_row_L95 : MS := sIf (tNt (tTru (eCall d_is_tuple 3 (aCons (eMov 1) (aCons (eMov 2) (aCons (eMov 2) aNil)))))) m_read_row_L96 sNx
def m_read_row_L98 : MS := sRet (eNeg (eC (.int 1)))
def m_read_row_L97 : MS := sIf (tNt (tTru (eB1 pyAll (eComp [3, 4] (itZip2 (aCons (eMov 1) (aCons (mv (eFld "Rod" "decks" (eVar 0))) aNil))) (bTupN 2 (bCons (bName 3) (bCons (bName 4) bNil))) tYesM (eCall d_is_in 3 (aCons (eMov 3) (aCons (eC (.int 0)) (aCons (eBinN pyIx 4 (eC (.int 0))) aNil)))))))) m_read_row_L98 sNx
def m_read_row_L99 : MS := sRet (eMeth "Rod" "place" d_Rod_place 2 (eMov 0) (aCons (eMov 1) aNil))
def m_read_row : MS := sSeq m_read_row_L94 (sSeq m_read_row_L95 (sSeq m_read_row_L97 m_read_row_L99))
def d_read_row (as : List PV) : R PV := fin (m_read_row (startR 5 as))
abbrev st_is_row : Stmt := top 28
abbrev N_is_row : List Str := ["rod", "value", "own"]
theorem nd_is_row : N_is_row.Nodup := by decide +kernel
theorem sc_is_row : FnScope N_is_row ["rod", "value"] (defScope st_is_row) := ⟨rfl, rfl, rfl, nd_is_row, rfl, by decide +kernel, by decide +kernel⟩
def m_is_row_L91 : MS := sSet 2 (eCall d_demand_rod 2 (aCons (eMov 0) (aCons (eC (.str "rod")) aNil)))
def m_is_row_L92 : MS := sRet (eBinF pyGe (eCall d_read_row 2 (aCons (eMov 2) (aCons (eMov 1) aNil))) (eC (.int 0)))
def m_is_row : MS := sSeq m_is_row_L91 m_is_row_L92
def d_is_row (as : List PV) : R PV := fin (m_is_row (startR 3 as))
abbrev st_worth : Stmt := top 30
abbrev N_worth : List Str := ["rod", "value", "own", "place"]
theorem nd_worth : N_worth.Nodup := by decide +kernel
theorem sc_worth : FnScope N_worth ["rod", "value"] (defScope st_worth) := ⟨rfl, rfl, rfl, nd_worth, rfl, by decide +kernel, by decide +kernel⟩
def m_worth_L101 : MS := sSet 2 (eCall d_demand_rod 2 (aCons (eMov 0) (aCons (eC (.str "rod")) aNil)))
def m_worth_L102 : MS := sSet 3 (eCall d_read_row 2 (aCons (eMov 2) (aCons (eMov 1) aNil)))
def m_worth_L103 : MS := sRet (eIf (tBool (eBinN pyLt 3 (eC (.int 0)))) (eC .non) (eBinF pyIx (mv (eFld "Rod" "worths" (eVar 2))) (eVar 3)))
def m_worth : MS := sSeq m_worth_L101 (sSeq m_worth_L102 m_worth_L103)
def d_worth (as : List PV) : R PV := fin (m_worth (startR 4 as))
abbrev st_rows_worth : Stmt := top 31
abbrev N_rows_worth : List Str := ["rod", "number", "own", "row", "value"]
theorem nd_rows_worth : N_rows_worth.Nodup := by decide +kernel
theorem sc_rows_worth : FnScope N_rows_worth ["rod", "number"] (defScope st_rows_worth) := ⟨rfl, rfl, rfl, nd_rows_worth, rfl, by decide +kernel, by decide +kernel⟩
def m_rows_worth_L105 : MS := sSet 2 (eCall d_demand_rod 2 (aCons (eMov 0) (aCons (eC (.str "rod")) aNil)))
def m_rows_worth_L106 : MS := sDrop (eCall d_demand 2 (aCons (eCall d_is_in 3 (aCons (eMov 1) (aCons (eC (.int 0)) (aCons (eBinF pyMul (eBinF pyMul (eC (.int 10)) (eC (.int 20))) (eC (.int 3))) aNil)))) (aCons (eC (.str "number")) aNil)))
def m_rows_worth_L107 : MS := sRet (eB1 pyTuple (eComp [3, 4] (itZip2 (aCons (mv (eFld "Rod" "rows" (eVar 2))) (aCons (mv (eFld "Rod" "worths" (eVar 2))) aNil))) (bTupN 2 (bCons (bName 3) (bCons (bName 4) bNil))) (tBool (eBinN pyEq 4 (eVar 1))) (eMov 3)))
def m_rows_worth : MS := sSeq m_rows_worth_L105 (sSeq m_rows_worth_L106 m_rows_worth_L107)
def d_rows_worth (as : List PV) : R PV := fin (m_rows_worth (startR 5 as))
abbrev st__law_dice : Stmt := top 33
abbrev N__law_dice : List Str := ["script", "spot", "own", "mixed", "cell"]
theorem nd__law_dice : N__law_dice.Nodup := by decide +kernel
theorem sc__law_dice : FnScope N__law_dice ["script", "spot"] (defScope st__law_dice) := ⟨rfl, rfl, rfl, nd__law_dice, rfl, by decide +kernel, by decide +kernel⟩
def m__law_dice_L110 : MS := sSet 2 (eIf (tBool (eBinN pyLt 1 (eB1 pyLen' (eVar 0)))) (eBinN pyIx 0 (eVar 1)) (eBinF pyAdd (eBinF pyMul (eC (.int 733)) (eVar 1)) (eC (.int 29))))
def m__law_dice_L111 : MS := sSet 3 (eBinF pyAdd (eC (.int 910003)) (eBinF pyMul (eC (.int 7907)) (eVar 1)))
def m__law_dice_L113 : MS := sSet 3 (eBinF pyMod (eB1 pyInt (eBinF pyAdd (eBinN pyMul 3 (eC (.int 48271))) (eBinF pyMod (eB1 pyInt (eVar 4)) (eC (.int 2147480009))))) (eC (.int 2147480009)))
def m__law_dice_L112 : MS := sFor (itSeq (eBinF pyAdd (eSliN 0 oNo (oSome (eC (.int 6)))) (eLst (aCons (eMov 2) aNil)))) (bName 4) m__law_dice_L113
def m__law_dice_L114 : MS := sRet (eLst (aCons (eIf (tO (tBool (eBinN pyLt 2 (eC (.int 0)))) (tBool (eBinN pyGe 2 (eBinF pyPow (eC (.int 10)) (eC (.int 16)))))) (eB1 pyAbs (eVar 2)) (eC (.int 0))) (aCons (eMov 3) (aCons (eC (.int 0)) aNil))))
def m__law_dice : MS := sSeq m__law_dice_L110 (sSeq m__law_dice_L111 (sSeq m__law_dice_L112 m__law_dice_L114))
def d__law_dice (as : List PV) : R PV := fin (m__law_dice (startR 5 as))
abbrev st__law_roll : Stmt := top 34
abbrev N__law_roll : List Str := ["dice", "total", "found"]
theorem nd__law_roll : N__law_roll.Nodup := by decide +kernel
theorem sc__law_roll : FnScope N__law_roll ["dice", "total"] (defScope st__law_roll) := ⟨rfl, rfl, rfl, nd__law_roll, rfl, by decide +kernel, by decide +kernel⟩
def m__law_roll_L117 : MS := sSet 2 (eBinF pyMod (eB1 pyInt (eBinN pyIx 0 (eC (.int 0)))) (eVar 1))
def m__law_roll_L118 : MS := sStore 0 (eC (.int 0)) (eBinF pyDiv (eBinN pyIx 0 (eC (.int 0))) (eVar 1))
def m__law_roll_L119 : MS := sRet (eMov 2)
def m__law_roll_L116 : MS := sIf (tBool (eBinF pyGt (eBinN pyIx 0 (eC (.int 0))) (eC (.int 0)))) (sSeq m__law_roll_L117 (sSeq m__law_roll_L118 m__law_roll_L119)) sNx
def m__law_roll_L120 : MS := sStore 0 (eC (.int 2)) (eBinF pyAdd (eBinN pyIx 0 (eC (.int 2))) (eC (.int 1)))
def m__law_roll_L121 : MS := sStore 0 (eC (.int 1)) (eBinF pyMod (eB1 pyInt (eBinF pyAdd (eBinF pyAdd (eBinF pyMul (eBinN pyIx 0 (eC (.int 1))) (eC (.int 52501))) (eBinF pyMul (eBinF pyMul (eBinN pyIx 0 (eC (.int 2))) (eBinN pyIx 0 (eC (.int 2)))) (eC (.int 1009)))) (eC (.int 77)))) (eC (.int 2147480009)))
def m__law_roll_L122 : MS := sRet (eBinF pyMod (eB1 pyInt (eBinF pyDiv (eBinN pyIx 0 (eC (.int 1))) (eC (.int 211)))) (eVar 1))
def m__law_roll : MS := sSeq m__law_roll_L116 (sSeq m__law_roll_L120 (sSeq m__law_roll_L121 m__law_roll_L122))
def d__law_roll (p : PV) (as : List PV) : R (PV × PV) := finIO (m__law_roll (startR 3 (p :: as)))
abbrev st__law_pick : Stmt := top 35
abbrev N__law_pick : List Str := ["dice", "things"]
theorem nd__law_pick : N__law_pick.Nodup := by decide +kernel
theorem sc__law_pick : FnScope N__law_pick ["dice", "things"] (defScope st__law_pick) := ⟨rfl, rfl, rfl, nd__law_pick, rfl, by decide +kernel, by decide +kernel⟩
def m__law_pick_L124 : MS := sRet (eBinN pyIx 1 (eCallIO d__law_roll 0 2 (aCons (eB1 pyLen' (eVar 1)) aNil)))
def m__law_pick : MS := m__law_pick_L124
def d__law_pick (p : PV) (as : List PV) : R (PV × PV) := finIO (m__law_pick (startR 2 (p :: as)))
abbrev st__law_bd_rods : Stmt := top 36
abbrev N__law_bd_rods : List Str := []
theorem nd__law_bd_rods : N__law_bd_rods.Nodup := by decide +kernel
theorem sc__law_bd_rods : FnScope N__law_bd_rods [] (defScope st__law_bd_rods) := ⟨rfl, rfl, rfl, nd__law_bd_rods, rfl, by decide +kernel, by decide +kernel⟩
def m__law_bd_rods_L126 : MS := sRet (eLst (aCons (eTup (aCons (eC (.int 10)) (aCons (eLst (aCons (eTup (aCons (eC (.int 4)) (aCons (eC (.int 1)) aNil))) (aCons (eTup (aCons (eC (.int 1)) (aCons (eC (.int 5)) aNil))) aNil))) aNil))) (aCons (eTup (aCons (eC (.int 10)) (aCons (eLst (aCons (eTup (aCons (eC (.int 5)) (aCons (eC (.int 1)) aNil))) (aCons (eTup (aCons (eC (.int 2)) (aCons (eC (.int 5)) aNil))) aNil))) aNil))) (aCons (eTup (aCons (eC (.int 10)) (aCons (eLst (aCons (eTup (aCons (eC (.int 10)) (aCons (eC (.int 1)) aNil))) aNil)) aNil))) (aCons (eTup (aCons (eC (.int 5)) (aCons (eLst (aCons (eTup (aCons (eC (.int 4)) (aCons (eC (.int 1)) aNil))) aNil)) aNil))) (aCons (eTup (aCons (eC (.int 4)) (aCons (eLst (aCons (eTup (aCons (eC (.int 1)) (aCons (eC (.int 1)) aNil))) (aCons (eTup (aCons (eC (.int 1)) (aCons (eC (.int 2)) aNil))) aNil))) aNil))) (aCons (eTup (aCons (eC (.int 3)) (aCons (eLst (aCons (eTup (aCons (eC (.int 3)) (aCons (eC (.int 1)) aNil))) aNil)) aNil))) (aCons (eTup (aCons (eC (.int 2)) (aCons (eLst (aCons (eTup (aCons (eC (.int 1)) (aCons (eC (.int 1)) aNil))) aNil)) aNil))) (aCons (eTup (aCons (eC (.int 2)) (aCons (eLst (aCons (eTup (aCons (eC (.int 3)) (aCons (eC (.int 1)) aNil))) aNil)) aNil))) (aCons (eTup (aCons (eC (.int 6)) (aCons (eLst (aCons (eTup (aCons (eC (.int 2)) (aCons (eC (.int 1)) aNil))) (aCons (eTup (aCons (eC (.int 1)) (aCons (eC (.int 3)) aNil))) aNil))) aNil))) (aCons (eTup (aCons (eC (.int 4)) (aCons (eLst (aCons (eTup (aCons (eC (.int 5)) (aCons (eC (.int 1)) aNil))) aNil)) aNil))) (aCons (eTup (aCons (eC (.int 10)) (aCons (eLst (aCons (eTup (aCons (eC (.int 1)) (aCons (eC (.int 1)) aNil))) (aCons (eTup (aCons (eC (.int 2)) (aCons (eC (.int 2)) aNil))) (aCons (eTup (aCons (eC (.int 1)) (aCons (eC (.int 5)) aNil))) aNil)))) aNil))) (aCons (eTup (aCons (eC (.int 3)) (aCons (eLst (aCons (eTup (aCons (eC (.int 1)) (aCons (eC (.int 2)) aNil))) (aCons (eTup (aCons (eC (.int 1)) (aCons (eC (.int 1)) aNil))) (aCons (eTup (aCons (eC (.int 1)) (aCons (eC (.int 3)) aNil))) aNil)))) aNil))) aNil)))))))))))))
def m__law_bd_rods : MS := m__law_bd_rods_L126
def d__law_bd_rods (as : List PV) : R PV := fin (m__law_bd_rods (startR 0 as))
abbrev st__law_bd_text : Stmt := top 37
abbrev N__law_bd_text : List Str := ["rod", "beads", "own"]
theorem nd__law_bd_text : N__law_bd_text.Nodup := by decide +kernel
theorem sc__law_bd_text : FnScope N__law_bd_text ["rod"] (defScope st__law_bd_text) := ⟨rfl, rfl, rfl, nd__law_bd_text, rfl, by decide +kernel, by decide +kernel⟩
def m__law_bd_text_L128 : MS := sRet (eM1 isStr pyJoin (eC (.str " ")) (eBinF pyAdd (eLst (aCons (eB1 pyStr (eBinN pyIx 0 (eC (.int 0)))) aNil)) (eComp [1, 2] (itSeq (eBinN pyIx 0 (eC (.int 1)))) (bTupN 2 (bCons (bName 1) (bCons (bName 2) bNil))) tYesM (eBinF pyAdd (eBinF pyAdd (eB1 pyStr (eVar 1)) (eC (.str "x"))) (eB1 pyStr (eVar 2))))))
def m__law_bd_text : MS := m__law_bd_text_L128
def d__law_bd_text (as : List PV) : R PV := fin (m__law_bd_text (startR 3 as))
abbrev st__law_bd_rows : Stmt := top 38
abbrev N__law_bd_rows : List Str := ["rod", "found", "beads", "own", "later", "row", "many"]
theorem nd__law_bd_rows : N__law_bd_rows.Nodup := by decide +kernel
theorem sc__law_bd_rows : FnScope N__law_bd_rows ["rod"] (defScope st__law_bd_rows) := ⟨rfl, rfl, rfl, nd__law_bd_rows, rfl, by decide +kernel, by decide +kernel⟩
def m__law_bd_rows_L130 : MS := sSet 1 (eLst (aCons (eTup aNil) aNil))
def m__law_bd_rows_L132 : MS := sSet 4 (eLst aNil)
def m__law_bd_rows_L134 : MS := sExt 4 (eComp [6] (itRange1 (aCons (eBinN pyAdd 2 (eC (.int 1))) aNil)) (bName 6) tYesM (eBinN pyAdd 5 (eTup (aCons (eMov 6) aNil))))
def m__law_bd_rows_L133 : MS := sFor (itSeq (eMov 1)) (bName 5) m__law_bd_rows_L134
def m__law_bd_rows_L135 : MS := sSet 1 (eMov 4)
def m__law_bd_rows_B131 : MS := sSeq m__law_bd_rows_L132 (sSeq m__law_bd_rows_L133 m__law_bd_rows_L135)
def m__law_bd_rows_L131 : MS := sFor (itSeq (eBinN pyIx 0 (eC (.int 1)))) (bTupN 2 (bCons (bName 2) (bCons (bName 3) bNil))) m__law_bd_rows_B131
def m__law_bd_rows_L136 : MS := sRet (eMov 1)
def m__law_bd_rows : MS := sSeq m__law_bd_rows_L130 (sSeq m__law_bd_rows_L131 m__law_bd_rows_L136)
def d__law_bd_rows (as : List PV) : R PV := fin (m__law_bd_rows (startR 7 as))
abbrev st__law_bd_worth : Stmt := top 39
abbrev N__law_bd_worth : List Str := ["rod", "row", "many", "deck"]
theorem nd__law_bd_worth : N__law_bd_worth.Nodup := by decide +kernel
theorem sc__law_bd_worth : FnScope N__law_bd_worth ["rod", "row"] (defScope st__law_bd_worth) := ⟨rfl, rfl, rfl, nd__law_bd_worth, rfl, by decide +kernel, by decide +kernel⟩
def m__law_bd_worth_L138 : MS := sRet (eB1 pySum (eComp [2, 3] (itZip2 (aCons (eMov 1) (aCons (eBinN pyIx 0 (eC (.int 1))) aNil))) (bTupN 2 (bCons (bName 2) (bCons (bName 3) bNil))) tYesM (eBinN pyMul 2 (eBinN pyIx 3 (eC (.int 1))))))
def m__law_bd_worth : MS := m__law_bd_worth_L138
def d__law_bd_worth (as : List PV) : R PV := fin (m__law_bd_worth (startR 4 as))
abbrev st__law_wrong_word : Stmt := top 40
abbrev N__law_wrong_word : List Str := ["text", "e"]
theorem nd__law_wrong_word : N__law_wrong_word.Nodup := by decide +kernel
theorem sc__law_wrong_word : FnScope N__law_wrong_word ["text"] (defScope st__law_wrong_word) := ⟨rfl, rfl, rfl, nd__law_wrong_word, rfl, by decide +kernel, by decide +kernel⟩
def m__law_wrong_word_L141 : MS := sDrop (eCall d_rows 1 (aCons (eMov 0) aNil))
def m__law_wrong_word_L140 : MS := sTry "BadText" "place" m__law_wrong_word_L141
def m__law_wrong_word_L144 : MS := sRet (eNeg (eC (.int 1)))
def m__law_wrong_word : MS := sSeq m__law_wrong_word_L140 m__law_wrong_word_L144
def d__law_wrong_word (as : List PV) : R PV := fin (m__law_wrong_word (startR 2 as))
abbrev st__law_one : Stmt := top 41
abbrev N__law_one : List Str := ["dice", "rod", "turn", "number", "words", "at", "spoilt", "text", "all_rows", "row", "wrong"]
theorem nd__law_one : N__law_one.Nodup := by decide +kernel
theorem sc__law_one : FnScope N__law_one ["dice"] (defScope st__law_one) := ⟨rfl, rfl, rfl, nd__law_one, rfl, by decide +kernel, by decide +kernel⟩
def m__law_one_L146 : MS := sSet 1 (eCallIO d__law_pick 0 2 (aCons (eCall0 d__law_bd_rods) aNil))
def m__law_one_L147 : MS := sPar 7 8 (eCall d__law_bd_text 1 (aCons (eMov 1) aNil)) (eCall d__law_bd_rows 1 (aCons (eMov 1) aNil))
def m__law_one_L149 : MS := sRet (eC (.bl false))
def m__law_one_L148 : MS := sIf (tNt (tAn (tBool (eBinF pyEq (eCall d_base 1 (aCons (eMov 7) aNil)) (eBinN pyIx 1 (eC (.int 0))))) (tAn (tBool (eBinF pyEq (eCall d_decks 1 (aCons (eMov 7) aNil)) (eB1 pyTuple (eBinN pyIx 1 (eC (.int 1)))))) (tBool (eBinF pyEq (eCall d_rows 1 (aCons (eMov 7) aNil)) (eB1 pyTuple (eVar 8))))))) m__law_one_L149 sNx
def m__law_one_L151 : MS := sSet 9 (eCallIO d__law_pick 0 2 (aCons (eMov 8) aNil))
def m__law_one_L153 : MS := sRet (eC (.bl false))
def m__law_one_L152 : MS := sIf (tNt (tAn (tTru (eCall d_is_row 2 (aCons (eMov 7) (aCons (eMov 9) aNil)))) (tBool (eBinF pyEq (eCall d_worth 2 (aCons (eMov 7) (aCons (eMov 9) aNil))) (eCall d__law_bd_worth 2 (aCons (eMov 1) (aCons (eMov 9) aNil))))))) m__law_one_L153 sNx
def m__law_one_L154 : MS := sSet 10 (eCallIO d__law_pick 0 2 (aCons (eLst (aCons (eBinN pyAdd 9 (eTup (aCons (eC (.int 0)) aNil))) (aCons (eSliN 9 (oSome (eC (.int 1))) oNo) (aCons (eB1 pyList (eVar 9)) (aCons (eBinF pyAdd (eTup (aCons (eBinF pySub (eBinN pyIx 9 (eC (.int 0))) (eC (.int 20))) aNil)) (eSliN 9 (oSome (eC (.int 1))) oNo)) (aCons (eBinF pyAdd (eSliN 9 oNo (oSome (eNeg (eC (.int 1))))) (eTup (aCons (eC (.int 99)) aNil))) (aCons (eBinF pyAdd (eSliN 9 oNo (oSome (eNeg (eC (.int 1))))) (eTup (aCons (eC (.bl true)) aNil))) (aCons (eC .non) aNil)))))))) aNil))
def m__law_one_L156 : MS := sRet (eC (.bl false))
def m__law_one_L155 : MS := sIf (tNt (tAn (tNt (tTru (eCall d_is_row 2 (aCons (eMov 7) (aCons (eMov 10) aNil))))) (tBool (eBinF pyIs (eCall d_worth 2 (aCons (eMov 7) (aCons (eMov 10) aNil))) (eC .non))))) m__law_one_L156 sNx
def m__law_one_B150 : MS := sSeq m__law_one_L151 (sSeq m__law_one_L152 (sSeq m__law_one_L154 m__law_one_L155))
def m__law_one_L150 : MS := sFor (itRange1 (aCons (eC (.int 4)) aNil)) (bName 2) m__law_one_B150
def m__law_one_L157 : MS := sSet 3 (eCallIO d__law_roll 0 2 (aCons (eC (.int 25)) aNil))
def m__law_one_L159 : MS := sRet (eC (.bl false))
def m__law_one_L158 : MS := sIf (tNt (tBool (eBinF pyEq (eCall d_rows_worth 2 (aCons (eMov 7) (aCons (eMov 3) aNil))) (eB1 pyTuple (eComp [9] (itSeq (eMov 8)) (bName 9) (tBool (eBinF pyEq (eCall d__law_bd_worth 2 (aCons (eMov 1) (aCons (eMov 9) aNil))) (eVar 3))) (eMov 9)))))) m__law_one_L159 sNx
def m__law_one_L160 : MS := sSet 4 (eM1 isStr pySplit (eVar 7) (eC (.str " ")))
def m__law_one_L161 : MS := sSet 5 (eCallIO d__law_roll 0 2 (aCons (eB1 pyLen' (eVar 4)) aNil))
def m__law_one_L162 : MS := sSet 6 (eCallIO d__law_pick 0 2 (aCons (eLst (aCons (eC (.str "")) (aCons (eC (.str "x")) (aCons (eC (.str "0x1")) (aCons (eC (.str "1x0")) (aCons (eC (.str "01x1")) (aCons (eC (.str "11x1")) (aCons (eC (.str "1x21")) (aCons (eC (.str "1x1x1")) (aCons (eC (.str "1X1")) (aCons (eC (.str "a")) (aCons (eC (.str "-1x1")) (aCons (eC (.str "1x")) (aCons (eC (.str "21")) (aCons (eC (.str "1")) aNil))))))))))))))) aNil))
def m__law_one_L163 : MS := sStore 4 (eVar 5) (eMov 6)
def m__law_one_L165 : MS := sRet (eC (.bl false))
def m__law_one_L164 : MS := sIf (tNt (tBool (eBinF pyEq (eCall d__law_wrong_word 1 (aCons (eM1 isStr pyJoin (eC (.str " ")) (eVar 4)) aNil)) (eVar 5)))) m__law_one_L165 sNx
def m__law_one_L167 : MS := sRet (eC (.bl false))
def m__law_one_L166 : MS := sIf (tNt (tAn (tBool (eBinF pyIn (eCall d__law_wrong_word 1 (aCons (eBinN pyAdd 7 (eC (.str " 1x1 1x1 1x1"))) aNil)) (eTup (aCons (eC (.int 3)) (aCons (eC (.int 4)) aNil))))) (tBool (eBinF pyEq (eCall d__law_wrong_word 1 (aCons (eBinN pyAdd 7 (eC (.str " "))) aNil)) (eB1 pyLen' (eVar 4)))))) m__law_one_L167 sNx
def m__law_one_L168 : MS := sRet (eC (.bl true))
def m__law_one : MS := sSeq m__law_one_L146 (sSeq m__law_one_L147 (sSeq m__law_one_L148 (sSeq m__law_one_L150 (sSeq m__law_one_L157 (sSeq m__law_one_L158 (sSeq m__law_one_L160 (sSeq m__law_one_L161 (sSeq m__law_one_L162 (sSeq m__law_one_L163 (sSeq m__law_one_L164 (sSeq m__law_one_L166 m__law_one_L168)))))))))))
def d__law_one (p : PV) (as : List PV) : R (PV × PV) := finIO (m__law_one (startR 11 (p :: as)))
abbrev st_law : Stmt := top 43
abbrev N_law : List Str := ["script", "spot"]
theorem nd_law : N_law.Nodup := by decide +kernel
theorem sc_law : FnScope N_law ["script"] (defScope st_law) := ⟨rfl, rfl, rfl, nd_law, rfl, by decide +kernel, by decide +kernel⟩
def m_law_L178 : MS := sRet (eC (.bl false))
def m_law_L177 : MS := sIf (tNt (tTru (eCallT d__law_one 1 (eCall d__law_dice 2 (aCons (eMov 0) (aCons (eMov 1) aNil))) aNil))) m_law_L178 sNx
def m_law_L176 : MS := sFor (itRange1 (aCons (eBA pyMax2 (aCons (eC (.int 1)) (aCons (eBA pyMin2 (aCons (eC (.int 3)) (aCons (eB1 pyLen' (eVar 0)) aNil))) aNil))) aNil)) (bName 1) m_law_L177
def m_law_L180 : MS := sRet (eC (.bl false))
def m_law_L179 : MS := sIf (tNt (tAn (tBool (eBinF pyEq (eCall d__law_wrong_word 1 (aCons (eC (.str "10 4x1")) aNil)) (eC (.int 2)))) (tAn (tBool (eBinF pyEq (eCall d__law_wrong_word 1 (aCons (eC (.str "10")) aNil)) (eC (.int 1)))) (tAn (tBool (eBinF pyEq (eCall d__law_wrong_word 1 (aCons (eC (.str "")) aNil)) (eC (.int 0)))) (tBool (eBinF pyEq (eCall d__law_wrong_word 1 (aCons (eC (.str "5 2x1 1x4")) aNil)) (eC (.int 3)))))))) m_law_L180 sNx
def m_law_L182 : MS := sRet (eC (.bl false))
def m_law_L181 : MS := sIf (tNt (tAn (tBool (eBinF pyEq (eCall d__law_wrong_word 1 (aCons (eC (.str "10 10x1 3x2")) aNil)) (eC (.int 2)))) (tAn (tBool (eBinF pyEq (eCall d__law_wrong_word 1 (aCons (eC (.str "10 9x1 3x2")) aNil)) (eNeg (eC (.int 1))))) (tBool (eBinF pyEq (eCall d__law_wrong_word 1 (aCons (eC (.str "20 10x1 1x10")) aNil)) (eNeg (eC (.int 1)))))))) m_law_L182 sNx
def m_law_L184 : MS := sRet (eC (.bl false))
def m_law_L183 : MS := sIf (tNt (tAn (tBool (eBinF pyEq (eCall d__law_wrong_word 1 (aCons (eC (.str "2 1x1 1x1 1x1 1x1")) aNil)) (eC (.int 4)))) (tAn (tBool (eBinF pyEq (eCall d__law_wrong_word 1 (aCons (eC (.str "1 1x1")) aNil)) (eC (.int 0)))) (tBool (eBinF pyEq (eCall d__law_wrong_word 1 (aCons (eC (.str "10  4x1 1x5")) aNil)) (eC (.int 1))))))) m_law_L184 sNx
def m_law_L186 : MS := sRet (eC (.bl false))
def m_law_L185 : MS := sIf (tNt (tBool (eBinF pyEq (eRef "BadArgument" "name" "" (eCall d_base 1 (aCons (eC (.int 10)) aNil))) (eC (.str "rod"))))) m_law_L186 sNx
def m_law_L188 : MS := sRet (eC (.bl false))
def m_law_L187 : MS := sIf (tNt (tBool (eBinF pyEq (eRef "BadArgument" "name" "" (eCall d_rows 1 (aCons (eBinF pyMul (eC (.str "10 ")) (eC (.int 30))) aNil))) (eC (.str "rod"))))) m_law_L188 sNx
def m_law_L190 : MS := sRet (eC (.bl false))
def m_law_L189 : MS := sIf (tNt (tBool (eBinF pyEq (eRef "BadArgument" "name" "" (eCall d_rows_worth 2 (aCons (eC (.str "2 1x1")) (aCons (eC (.int 601)) aNil)))) (eC (.str "number"))))) m_law_L190 sNx
def m_law_L192 : MS := sRet (eC (.bl false))
def m_law_L191 : MS := sIf (tNt (tBool (eBinF pyEq (eRef "BadArgument" "name" "" (eCall d_is_row 2 (aCons (eC .non) (aCons (eC (.int 5)) aNil)))) (eC (.str "rod"))))) m_law_L192 sNx
def m_law_L193 : MS := sRet (eAnd (eBinF pyEq (eCall d_rows 1 (aCons (eC (.str "3 1x2 1x1")) aNil)) (eTup (aCons (eTup (aCons (eC (.int 0)) (aCons (eC (.int 0)) aNil))) (aCons (eTup (aCons (eC (.int 0)) (aCons (eC (.int 1)) aNil))) (aCons (eTup (aCons (eC (.int 1)) (aCons (eC (.int 0)) aNil))) (aCons (eTup (aCons (eC (.int 1)) (aCons (eC (.int 1)) aNil))) aNil)))))) (eBinF pyEq (eCall d_rows_worth 2 (aCons (eC (.str "10 5x1 2x5")) (aCons (eC (.int 10)) aNil))) (eTup (aCons (eTup (aCons (eC (.int 0)) (aCons (eC (.int 2)) aNil))) (aCons (eTup (aCons (eC (.int 5)) (aCons (eC (.int 1)) aNil))) aNil)))))
def m_law : MS := sSeq m_law_L176 (sSeq m_law_L179 (sSeq m_law_L181 (sSeq m_law_L183 (sSeq m_law_L185 (sSeq m_law_L187 (sSeq m_law_L189 (sSeq m_law_L191 m_law_L193)))))))
def d_law (as : List PV) : R PV := fin (m_law (startR 2 as))
abbrev st__law_refused : Stmt := top 42
variable [HasT]
structure GL (P : Program) (K : Frag) (mg : Mg) (base : Heap) : Prop where
  t_is_in : FnT K mg "is_in" st_is_in ["value", "low", "high"]
  t_is_tuple : FnT K mg "is_tuple" st_is_tuple ["value", "least", "most"]
  t_is_text : FnT K mg "is_text" st_is_text ["value", "most"]
  t_demand : FnT K mg "demand" st_demand ["is_good", "name"]
  t_rows_of : FnT K mg "rows_of" st_rows_of ["decks"]
  t_Rod___init__ : InT K mg "Rod" "Rod.__init__" st_Rod___init__ ["self", "base", "decks"]
  t_Rod_place : MtT K mg "Rod" "place" "Rod.place" st_Rod_place ["self", "row"]
  t_number_of : FnT K mg "number_of" st_number_of ["text", "most"]
  t_read_deck : FnT K mg "read_deck" st_read_deck ["text"]
  t_shows_all : FnT K mg "shows_all" st_shows_all ["own"]
  t_count_rows : FnT K mg "count_rows" st_count_rows ["decks"]
  t_read_rod : FnT K mg "read_rod" st_read_rod ["text"]
  t_demand_rod : FnT K mg "demand_rod" st_demand_rod ["value", "name"]
  t_base : FnT K mg "base" st_base ["rod"]
  t_decks : FnT K mg "decks" st_decks ["rod"]
  t_rows : FnT K mg "rows" st_rows ["rod"]
  t_read_row : FnT K mg "read_row" st_read_row ["own", "value"]
  t_is_row : FnT K mg "is_row" st_is_row ["rod", "value"]
  t_worth : FnT K mg "worth" st_worth ["rod", "value"]
  t_rows_worth : FnT K mg "rows_worth" st_rows_worth ["rod", "number"]
  t__law_dice : FnT K mg "_law_dice" st__law_dice ["script", "spot"]
  t__law_roll : FnT K mg "_law_roll" st__law_roll ["dice", "total"]
  t__law_pick : FnT K mg "_law_pick" st__law_pick ["dice", "things"]
  t__law_bd_rods : FnT K mg "_law_bd_rods" st__law_bd_rods []
  t__law_bd_text : FnT K mg "_law_bd_text" st__law_bd_text ["rod"]
  t__law_bd_rows : FnT K mg "_law_bd_rows" st__law_bd_rows ["rod"]
  t__law_bd_worth : FnT K mg "_law_bd_worth" st__law_bd_worth ["rod", "row"]
  t__law_wrong_word : FnT K mg "_law_wrong_word" st__law_wrong_word ["text"]
  t__law_one : FnT K mg "_law_one" st__law_one ["dice"]
  b_abs : mg "abs" = none
  b_all : mg "all" = none
  b_bool : mg "bool" = none
  b_enumerate : mg "enumerate" = none
  b_int : mg "int" = none
  b_isinstance : mg "isinstance" = none
  b_len : mg "len" = none
  b_list : mg "list" = none
  b_max : mg "max" = none
  b_min : mg "min" = none
  b_range : mg "range" = none
  b_str : mg "str" = none
  b_sum : mg "sum" = none
  b_tuple : mg "tuple" = none
  b_zip : mg "zip" = none
  b_super : mg "super" = none
  c_DIGITS : GlC mg "DIGITS" (.str "0123456789")
  c_MOST_BASE : GlC mg "MOST_BASE" (.int 20)
  c_MOST_BEADS : GlC mg "MOST_BEADS" (.int 10)
  c_MOST_DECKS : GlC mg "MOST_DECKS" (.int 3)
  c_MOST_STATES : GlC mg "MOST_STATES" (.int 40)
  c_MOST_TEXT : GlC mg "MOST_TEXT" (.int 60)
  c_MOST_WORTH : GlC mg "MOST_WORTH" (.int 20)
  f_Rod_base : FldC K mg "Rod" "base"
  f_Rod_decks : FldC K mg "Rod" "decks"
  f_Rod_rows : FldC K mg "Rod" "rows"
  f_Rod_worths : FldC K mg "Rod" "worths"
  x_BadArgument : XcT P K mg "BadArgument" "name"
  x_BadText : XcT P K mg "BadText" "place"
  e_BadText : TcT K mg "BadText" "place"
  r__law_refused : RefC K mg "_law_refused" "BadArgument" "name" ""
section
variable {P : Program} {w : World} {K : Frag} {mg : Mg} {base : Heap}
theorem cal_is_in (G : GL P K mg base) : Cal P w K mg base "is_in" 1 3 d_is_in := cal_D G.t_is_in sc_is_in (fun f cdv A outer s H E tk po hr => db_one (ds_ret (de_and (de_isi (tmp := false) .int rfl G.b_isinstance rfl G.b_int (by decide +kernel) (de_var sl_of)) (de_and (de_not (tmp := false) (de_isi (tmp := false) .bool rfl G.b_isinstance rfl G.b_bool (by decide +kernel) (de_var sl_of))) (de_one (de_chain op_le op_le ops_le ops_le (de_var sl_of) (de_var sl_of) (de_var sl_of)))))))
theorem cal_is_tuple (G : GL P K mg base) : Cal P w K mg base "is_tuple" 1 3 d_is_tuple := cal_D G.t_is_tuple sc_is_tuple (fun f cdv A outer s H E tk po hr => db_one (ds_ret (de_and (de_isi (tmp := false) .tuple rfl G.b_isinstance rfl G.b_tuple (by decide +kernel) (de_var sl_of)) (de_one (de_chain op_le op_le ops_le ops_le (de_var sl_of) (de_b1 (tmp := false) cr_len cs_len rfl G.b_len (by decide +kernel) (de_var sl_of)) (de_var sl_of))))))
theorem cal_is_text (G : GL P K mg base) : Cal P w K mg base "is_text" 1 2 d_is_text := cal_D G.t_is_text sc_is_text (fun f cdv A outer s H E tk po hr => db_one (ds_ret (de_and (de_isi (tmp := false) .str rfl G.b_isinstance rfl G.b_str (by decide +kernel) (de_var sl_of)) (de_one (de_cmpF op_le ops_le (de_b1 cr_len cs_len rfl G.b_len (by decide +kernel) (de_var sl_of)) (de_var sl_of))))))
theorem cal_demand (G : GL P K mg base) : Cal P w K mg base "demand" 2 2 d_demand := cal_D G.t_demand sc_demand (fun f cdv A outer s H E tk po hr => db_one (ds_if (dt_not (dt_tru (de_var sl_of))) (db_one (ds_raiseX G.x_BadArgument G.b_super hr tk rfl rfl (de_mov sl_of))) db_nil))
theorem cal_rows_of (G : GL P K mg base) : Cal P w K mg base "rows_of" 1 1 d_rows_of := cal_D G.t_rows_of sc_rows_of (fun f cdv A outer s H E tk po hr => db_cons (ds_set (lc_of nd_rows_of) (de_lst (da_cons (de_tup da_nil) da_nil))) (db_cons (ds_for po rfl (di_seq (de_mov sl_of)) (dg_tup (n := 2) rfl (dgs_cons (dg_name (lc_of nd_rows_of)) (dgs_cons (dg_name (lc_of nd_rows_of)) dgs_nil))) (db_cons (ds_set (lc_of nd_rows_of) (de_lst da_nil)) (db_cons (ds_for po rfl (di_seq (de_mov sl_of)) (dg_name (lc_of nd_rows_of)) (db_one (ds_ext sl_of (de_comp (is := [6]) rfl nd_rows_of (own := [("many", 6)]) (.inl rfl) (by decide) (di_range1 rfl G.b_range (da_cons (de_binN opr_add ops_add sl_of de_int) da_nil)) (blkOk_by (by kernel_rfl)) (fun _ _ _ _ _ => dg_name (lc_of nd_rows_of)) (fun _ _ _ _ _ => dts_nil) (fun _ _ _ _ _ => de_binN opr_add ops_add sl_of (de_tup (tmp := false) (da_cons (de_mov sl_of) da_nil))))))) (db_one (ds_set (lc_of nd_rows_of) (de_mov sl_of)))))) (db_one (ds_ret (de_mov sl_of)))))
theorem cal_Rod___init__ (G : GL P K mg base) : CalK P w K mg base "Rod" 2 3 d_Rod___init__ := cal_K G.t_Rod___init__ sc_Rod___init__ (fun a f cdv A outer s H E tk po hr => db_cons (ds_fld G.f_Rod_base sl_of (de_mov sl_of)) (db_cons (ds_fld G.f_Rod_decks sl_of (de_mov sl_of)) (db_cons (ds_fld G.f_Rod_rows sl_of (de_call (cal_rows_of G) tk hr rfl (da_cons (de_mov sl_of) da_nil))) (db_one (ds_fld G.f_Rod_worths sl_of (de_comp (is := [3]) rfl nd_Rod___init__ (own := [("row", 3)]) (.inr (by decide)) (by decide) (di_seq (DE.mv (de_fld (G.f_Rod_rows) (de_var sl_of)))) (blkOk_by (by kernel_rfl)) (fun _ _ _ _ _ => dg_name (lc_of nd_Rod___init__)) (fun _ _ _ _ _ => dts_nil) (fun _ _ _ _ _ => de_b1 (cr_sum rfl) cs_sum rfl G.b_sum (by decide +kernel) (de_comp (tmp := false) (is := [4, 5]) rfl nd_Rod___init__ (own := [("many", 4), ("deck", 5)]) (.inr (by decide)) (by decide) (di_zip2 rfl G.b_zip (da_cons (de_mov sl_of) (da_cons (de_mov sl_of) da_nil))) (blkOk_by (by kernel_rfl)) (fun _ _ _ _ _ => dg_tup (n := 2) rfl (dgs_cons (dg_name (lc_of nd_Rod___init__)) (dgs_cons (dg_name (lc_of nd_Rod___init__)) dgs_nil))) (fun _ _ _ _ _ => dts_nil) (fun _ _ _ _ _ => de_binN opr_mul ops_mul sl_of (de_ixN (tmp := false) sl_of de_int))))))))))
theorem cal_Rod_place (G : GL P K mg base) : CalC P w K mg base "Rod" "place" 1 2 d_Rod_place := cal_C G.t_Rod_place sc_Rod_place (fun f cdv A outer s H E tk po hr => db_one (ds_ret (de_if (dt_cmpN (opr_in hr) ops_in sl_of (de_fld (G.f_Rod_rows) (de_var sl_of))) (de_index (hu65 hr) (de_fld (G.f_Rod_rows) (de_var sl_of)) (de_var sl_of)) (de_neg de_int))))
theorem cal_number_of (G : GL P K mg base) : Cal P w K mg base "number_of" 1 2 d_number_of := cal_D G.t_number_of sc_number_of (fun f cdv A outer s H E tk po hr => db_cons (ds_set (lc_of nd_number_of) (de_and (de_chain (tmp := false) op_lt op_lt ops_lt ops_lt de_int (de_b1 (tmp := false) cr_len cs_len rfl G.b_len (by decide +kernel) (de_var sl_of)) de_int) (de_and (de_b1 (tmp := false) (cr_all rfl) cs_all rfl G.b_all (by decide +kernel) (de_comp (tmp := false) (is := [3]) rfl nd_number_of (own := [("sign", 3)]) (.inl rfl) (by decide) (di_str (de_mov sl_of)) (blkOk_by (by kernel_rfl)) (fun _ _ _ _ _ => dg_name (lc_of nd_number_of)) (fun _ _ _ _ _ => dts_nil) (fun _ _ _ _ _ => de_cmpN (opr_in hr) ops_in sl_of (de_glc G.c_DIGITS rfl)))) (de_one (de_cmpF (opr_ne hr) ops_ne (de_ixN sl_of de_int) de_str))))) (db_one (ds_ret (de_if (DW.dt (dw_and (dt_tru (de_var sl_of)) (dw_and1 (dt_cmpF op_le ops_le (de_bt cr_int cs_int rfl G.b_int (by decide +kernel) (de_var sl_of)) (de_var sl_of))))) (de_bt cr_int cs_int rfl G.b_int (by decide +kernel) (de_var sl_of)) (de_neg de_int)))))
theorem cal_read_deck (G : GL P K mg base) : Cal P w K mg base "read_deck" 2 1 d_read_deck := cal_D G.t_read_deck sc_read_deck (fun f cdv A outer s H E tk po hr => db_cons (ds_set (lc_of nd_read_deck) (de_split (de_var sl_of) de_str)) (db_cons (ds_if (dt_cmpF (opr_ne hr) ops_ne (de_b1 cr_len cs_len rfl G.b_len (by decide +kernel) (de_var sl_of)) de_int) (db_one (ds_ret de_non)) db_nil) (db_cons (ds_par rfl (lc_of nd_read_deck) (lc_of nd_read_deck) (by decide) rfl rfl (de_call (cal_number_of G) tk hr rfl (da_cons (de_ixN sl_of de_int) (da_cons (de_glc G.c_MOST_BEADS rfl) da_nil))) (de_call (cal_number_of G) tk hr rfl (da_cons (de_ixN sl_of de_int) (da_cons (de_glc G.c_MOST_WORTH rfl) da_nil)))) (db_one (ds_ret (de_if (DW.dt (dw_and (dt_cmpN op_gt ops_gt sl_of de_int) (dw_and1 (dt_cmpN op_gt ops_gt sl_of de_int)))) (de_tup (da_cons (de_mov sl_of) (da_cons (de_mov sl_of) da_nil))) de_non))))))
theorem cal_shows_all (G : GL P K mg base) : Cal P w K mg base "shows_all" 1 1 d_shows_all := cal_D G.t_shows_all sc_shows_all (fun f cdv A outer s H E tk po hr => db_one (ds_ret (de_b1 (cr_all rfl) cs_all rfl G.b_all (by decide +kernel) (de_comp (tmp := false) (is := [1]) rfl nd_shows_all (own := [("digit", 1)]) (.inl rfl) (by decide) (di_range1 rfl G.b_range (da_cons (DE.mv (de_fld (G.f_Rod_base) (de_var sl_of))) da_nil)) (blkOk_by (by kernel_rfl)) (fun _ _ _ _ _ => dg_name (lc_of nd_shows_all)) (fun _ _ _ _ _ => dts_nil) (fun _ _ _ _ _ => de_cmpN (opr_in hr) ops_in sl_of (de_fld (G.f_Rod_worths) (de_var sl_of)))))))
theorem cal_count_rows (G : GL P K mg base) : Cal P w K mg base "count_rows" 1 1 d_count_rows := cal_D G.t_count_rows sc_count_rows (fun f cdv A outer s H E tk po hr => db_cons (ds_set (lc_of nd_count_rows) de_int) (db_cons (ds_for po rfl (di_seq (de_mov sl_of)) (dg_tup (n := 2) rfl (dgs_cons (dg_name (lc_of nd_count_rows)) (dgs_cons (dg_name (lc_of nd_count_rows)) dgs_nil))) (db_one (ds_aug opi_mul opsi_mul (lc_of nd_count_rows) (de_binN (tmp := false) opr_add ops_add sl_of de_int)))) (db_one (ds_ret (de_mov sl_of)))))
theorem cal_read_rod (G : GL P K mg base) : Cal P w K mg base "read_rod" 4 1 d_read_rod := cal_D G.t_read_rod sc_read_rod (fun f cdv A outer s H E tk po hr => db_cons (ds_set (lc_of nd_read_rod) (de_split (de_var sl_of) de_str)) (db_cons (ds_set (lc_of nd_read_rod) (de_call (cal_number_of G) tk (hr.mono (by decide : 1 ≤ 3)) rfl (da_cons (de_ixN sl_of de_int) (da_cons (de_glc G.c_MOST_BASE rfl) da_nil)))) (db_cons (ds_if (dt_cmpN op_lt ops_lt sl_of de_int) (db_one (ds_raiseX G.x_BadText G.b_super hr tk rfl rfl de_int)) db_nil) (db_cons (ds_set (lc_of nd_read_rod) (de_lst da_nil)) (db_cons (ds_for po rfl (di_enum rfl G.b_enumerate (da_cons (de_sliN sl_of (do_some de_int) do_none) da_nil)) (dg_tup (n := 2) rfl (dgs_cons (dg_name (lc_of nd_read_rod)) (dgs_cons (dg_name (lc_of nd_read_rod)) dgs_nil))) (db_cons (ds_set (lc_of nd_read_rod) (de_call (cal_read_deck G) tk (hr.mono (by decide : 2 ≤ 3)) rfl (da_cons (de_mov sl_of) da_nil))) (db_cons (ds_if (DW.dt (dw_or (dt_cmpN op_isN ops_is sl_of de_non) (dw_or (dt_cmpN op_ge ops_ge sl_of (de_glc G.c_MOST_DECKS rfl)) (dw_or1 (dt_cmpF op_gt ops_gt (de_call (cal_count_rows G) tk (hr.mono (by decide : 1 ≤ 3)) rfl (da_cons (de_binN opr_add ops_add sl_of (de_lst (tmp := false) (da_cons (de_mov sl_of) da_nil))) da_nil)) (de_glc G.c_MOST_STATES rfl)))))) (db_one (ds_raiseX G.x_BadText G.b_super hr tk rfl rfl (de_binN opr_add ops_add sl_of de_int))) db_nil) (db_one (ds_app sl_of (de_mov sl_of)))))) (db_cons (ds_set (lc_of nd_read_rod) (de_make (cal_Rod___init__ G) tk hr rfl (da_cons (de_mov sl_of) (da_cons (de_mov sl_of) da_nil)))) (db_cons (ds_if (dt_not (dt_tru (de_call (tmp := false) (cal_shows_all G) tk (hr.mono (by decide : 1 ≤ 3)) rfl (da_cons (de_mov sl_of) da_nil)))) (db_one (ds_raiseX G.x_BadText G.b_super hr tk rfl rfl (de_b1 cr_len cs_len rfl G.b_len (by decide +kernel) (de_var sl_of)))) db_nil) (db_one (ds_ret (de_mov sl_of))))))))))
theorem cal_demand_rod (G : GL P K mg base) : Cal P w K mg base "demand_rod" 5 2 d_demand_rod := cal_D G.t_demand_rod sc_demand_rod (fun f cdv A outer s H E tk po hr => db_cons (ds_expr (de_call (tmp := false) (cal_demand G) tk (hr.mono (by decide : 2 ≤ 4)) rfl (da_cons (de_call (cal_is_text G) tk (hr.mono (by decide : 1 ≤ 4)) rfl (da_cons (de_mov sl_of) (da_cons (de_glc G.c_MOST_TEXT rfl) da_nil))) (da_cons (de_mov sl_of) da_nil)))) (db_one (ds_ret (de_call (cal_read_rod G) tk hr rfl (da_cons (de_mov sl_of) da_nil)))))
theorem cal_base (G : GL P K mg base) : Cal P w K mg base "base" 6 1 d_base := cal_D G.t_base sc_base (fun f cdv A outer s H E tk po hr => db_one (ds_ret (de_fld (G.f_Rod_base) (de_call (cal_demand_rod G) tk hr rfl (da_cons (de_mov sl_of) (da_cons de_str da_nil))))))
theorem cal_decks (G : GL P K mg base) : Cal P w K mg base "decks" 6 1 d_decks := cal_D G.t_decks sc_decks (fun f cdv A outer s H E tk po hr => db_one (ds_ret (de_bt cr_tuple cs_tuple rfl G.b_tuple (by decide +kernel) (de_fld (G.f_Rod_decks) (de_call (tmp := false) (cal_demand_rod G) tk hr rfl (da_cons (de_mov sl_of) (da_cons de_str da_nil)))))))
theorem cal_rows (G : GL P K mg base) : Cal P w K mg base "rows" 6 1 d_rows := cal_D G.t_rows sc_rows (fun f cdv A outer s H E tk po hr => db_one (ds_ret (de_bt cr_tuple cs_tuple rfl G.b_tuple (by decide +kernel) (de_fld (G.f_Rod_rows) (de_call (tmp := false) (cal_demand_rod G) tk hr rfl (da_cons (de_mov sl_of) (da_cons de_str da_nil)))))))
theorem cal_read_row (G : GL P K mg base) : Cal P w K mg base "read_row" 2 2 d_read_row := cal_D G.t_read_row sc_read_row (fun f cdv A outer s H E tk po hr => db_cons (ds_set (lc_of nd_read_row) (de_b1 cr_len cs_len rfl G.b_len (by decide +kernel) (de_fld (G.f_Rod_decks) (de_var sl_of)))) (db_cons (ds_if (dt_not (dt_tru (de_call (tmp := false) (cal_is_tuple G) tk hr rfl (da_cons (de_mov sl_of) (da_cons (de_mov sl_of) (da_cons (de_mov sl_of) da_nil)))))) (db_one (ds_ret (de_neg de_int))) db_nil) (db_cons (ds_if (dt_not (dt_tru (de_b1 (tmp := false) (cr_all rfl) cs_all rfl G.b_all (by decide +kernel) (de_comp (tmp := false) (is := [3, 4]) rfl nd_read_row (own := [("count", 3), ("deck", 4)]) (.inl rfl) (by decide) (di_zip2 rfl G.b_zip (da_cons (de_mov sl_of) (da_cons (DE.mv (de_fld (G.f_Rod_decks) (de_var sl_of))) da_nil))) (blkOk_by (by kernel_rfl)) (fun _ _ _ _ _ => dg_tup (n := 2) rfl (dgs_cons (dg_name (lc_of nd_read_row)) (dgs_cons (dg_name (lc_of nd_read_row)) dgs_nil))) (fun _ _ _ _ _ => dts_nil) (fun _ _ _ _ _ => de_call (cal_is_in G) takesW0 hr rfl (da_cons (de_mov sl_of) (da_cons de_int (da_cons (de_ixN sl_of de_int) da_nil)))))))) (db_one (ds_ret (de_neg de_int))) db_nil) (db_one (ds_ret (de_meth (cal_Rod_place G) tk hr (de_mov sl_of) (da_cons (de_mov sl_of) da_nil)))))))
theorem cal_is_row (G : GL P K mg base) : Cal P w K mg base "is_row" 6 2 d_is_row := cal_D G.t_is_row sc_is_row (fun f cdv A outer s H E tk po hr => db_cons (ds_set (lc_of nd_is_row) (de_call (cal_demand_rod G) tk hr rfl (da_cons (de_mov sl_of) (da_cons de_str da_nil)))) (db_one (ds_ret (de_cmpF op_ge ops_ge (de_call (cal_read_row G) tk (hr.mono (by decide : 2 ≤ 5)) rfl (da_cons (de_mov sl_of) (da_cons (de_mov sl_of) da_nil))) de_int))))
theorem cal_worth (G : GL P K mg base) : Cal P w K mg base "worth" 6 2 d_worth := cal_D G.t_worth sc_worth (fun f cdv A outer s H E tk po hr => db_cons (ds_set (lc_of nd_worth) (de_call (cal_demand_rod G) tk hr rfl (da_cons (de_mov sl_of) (da_cons de_str da_nil)))) (db_cons (ds_set (lc_of nd_worth) (de_call (cal_read_row G) tk (hr.mono (by decide : 2 ≤ 5)) rfl (da_cons (de_mov sl_of) (da_cons (de_mov sl_of) da_nil)))) (db_one (ds_ret (de_if (dt_cmpN op_lt ops_lt sl_of de_int) de_non (de_ixF (DE.mv (de_fld (G.f_Rod_worths) (de_var sl_of))) (de_var sl_of)))))))
theorem cal_rows_worth (G : GL P K mg base) : Cal P w K mg base "rows_worth" 6 2 d_rows_worth := cal_D G.t_rows_worth sc_rows_worth (fun f cdv A outer s H E tk po hr => db_cons (ds_set (lc_of nd_rows_worth) (de_call (cal_demand_rod G) tk hr rfl (da_cons (de_mov sl_of) (da_cons de_str da_nil)))) (db_cons (ds_expr (de_call (tmp := false) (cal_demand G) tk (hr.mono (by decide : 2 ≤ 5)) rfl (da_cons (de_call (cal_is_in G) tk (hr.mono (by decide : 1 ≤ 5)) rfl (da_cons (de_mov sl_of) (da_cons de_int (da_cons (de_binF opr_mul ops_mul (de_binF opr_mul ops_mul (de_glc G.c_MOST_BEADS rfl) (de_glc G.c_MOST_WORTH rfl)) (de_glc G.c_MOST_DECKS rfl)) da_nil)))) (da_cons de_str da_nil)))) (db_one (ds_ret (de_bt cr_tuple cs_tuple rfl G.b_tuple (by decide +kernel) (de_comp (tmp := false) (is := [3, 4]) rfl nd_rows_worth (own := [("row", 3), ("value", 4)]) (.inl rfl) (by decide) (di_zip2 rfl G.b_zip (da_cons (DE.mv (de_fld (G.f_Rod_rows) (de_var sl_of))) (da_cons (DE.mv (de_fld (G.f_Rod_worths) (de_var sl_of))) da_nil))) (blkOk_by (by kernel_rfl)) (fun _ _ _ _ _ => dg_tup (n := 2) rfl (dgs_cons (dg_name (lc_of nd_rows_worth)) (dgs_cons (dg_name (lc_of nd_rows_worth)) dgs_nil))) (fun _ _ _ _ _ => dts_one (dt_cmpN (opr_eq hr) ops_eq sl_of (de_var sl_of))) (fun _ _ _ _ _ => de_mov sl_of)))))))
theorem cal__law_dice (G : GL P K mg base) : Cal P w K mg base "_law_dice" 1 2 d__law_dice := cal_D G.t__law_dice sc__law_dice (fun f cdv A outer s H E tk po hr => db_cons (ds_set (lc_of nd__law_dice) (de_if (dt_cmpN op_lt ops_lt sl_of (de_b1 (tmp := false) cr_len cs_len rfl G.b_len (by decide +kernel) (de_var sl_of))) (de_ixN sl_of (de_var sl_of)) (de_binF opr_add ops_add (de_binF opr_mul ops_mul de_int (de_var sl_of)) de_int))) (db_cons (ds_set (lc_of nd__law_dice) (de_binF opr_add ops_add de_int (de_binF (tmp := false) opr_mul ops_mul de_int (de_var sl_of)))) (db_cons (ds_for po rfl (di_seq (de_binF opr_add ops_add (de_sliN sl_of do_none (do_some de_int)) (de_lst (tmp := false) (da_cons (de_mov sl_of) da_nil)))) (dg_name (lc_of nd__law_dice)) (db_one (ds_set (lc_of nd__law_dice) (de_binF op_mod ops_mod (de_bt cr_int cs_int rfl G.b_int (by decide +kernel) (de_binF (tmp := false) opr_add ops_add (de_binN opr_mul ops_mul sl_of de_int) (de_binF (tmp := false) op_mod ops_mod (de_bt cr_int cs_int rfl G.b_int (by decide +kernel) (de_var sl_of)) de_int))) de_int)))) (db_one (ds_ret (de_lst (da_cons (de_if (DW.dt (dw_or (dt_cmpN op_lt ops_lt sl_of de_int) (dw_or1 (dt_cmpN op_ge ops_ge sl_of (de_binF (tmp := false) op_pow ops_pow de_int de_int))))) (de_b1 cr_abs cs_abs rfl G.b_abs (by decide +kernel) (de_var sl_of)) de_int) (da_cons (de_mov sl_of) (da_cons de_int da_nil)))))))))
theorem cal__law_roll (G : GL P K mg base) : CalIO P w K mg base "_law_roll" 1 2 d__law_roll := cal_IO G.t__law_roll sc__law_roll (fun a f cdv A outer s H E tk po hr => db_cons (ds_if (dt_cmpF op_gt ops_gt (de_ixN sl_of de_int) de_int) (db_cons (ds_set (lc_of nd__law_roll) (de_binF op_mod ops_mod (de_bt cr_int cs_int rfl G.b_int (by decide +kernel) (de_ixN (tmp := false) sl_of de_int)) (de_var sl_of))) (db_cons (ds_store sl_of de_int (de_binF op_fdivW ops_div (de_ixN sl_of de_int) (de_var sl_of)) (by intro _; rfl)) (db_one (ds_ret (de_mov sl_of))))) db_nil) (db_cons (ds_store sl_of de_int (de_binF opr_add ops_add (de_ixN sl_of de_int) de_int) (by intro _; rfl)) (db_cons (ds_store sl_of de_int (de_binF op_mod ops_mod (de_bt cr_int cs_int rfl G.b_int (by decide +kernel) (de_binF (tmp := false) opr_add ops_add (de_binF opr_add ops_add (de_binF opr_mul ops_mul (de_ixN sl_of de_int) de_int) (de_binF (tmp := false) opr_mul ops_mul (de_binF opr_mul ops_mul (de_ixN sl_of de_int) (de_ixN (tmp := false) sl_of de_int)) de_int)) de_int)) de_int) (by intro _; rfl)) (db_one (ds_ret (de_binF op_mod ops_mod (de_bt cr_int cs_int rfl G.b_int (by decide +kernel) (de_binF (tmp := false) op_fdivW ops_div (de_ixN sl_of de_int) de_int)) (de_var sl_of)))))))
theorem cal__law_pick (G : GL P K mg base) : CalIO P w K mg base "_law_pick" 2 2 d__law_pick := cal_IO G.t__law_pick sc__law_pick (fun a f cdv A outer s H E tk po hr => db_one (ds_ret (de_ixN sl_of (de_callIO (tmp := false) (cal__law_roll G) tk hr rfl sl_of (da_cons (de_b1 cr_len cs_len rfl G.b_len (by decide +kernel) (de_var sl_of)) da_nil)))))
theorem cal__law_bd_rods (G : GL P K mg base) : Cal P w K mg base "_law_bd_rods" 1 0 d__law_bd_rods := cal_D G.t__law_bd_rods sc__law_bd_rods (fun f cdv A outer s H E tk po hr => db_one (ds_ret (de_lst (da_cons (de_tup (da_cons de_int (da_cons (de_lst (da_cons (de_tup (da_cons de_int (da_cons de_int da_nil))) (da_cons (de_tup (da_cons de_int (da_cons de_int da_nil))) da_nil))) da_nil))) (da_cons (de_tup (da_cons de_int (da_cons (de_lst (da_cons (de_tup (da_cons de_int (da_cons de_int da_nil))) (da_cons (de_tup (da_cons de_int (da_cons de_int da_nil))) da_nil))) da_nil))) (da_cons (de_tup (da_cons de_int (da_cons (de_lst (da_cons (de_tup (da_cons de_int (da_cons de_int da_nil))) da_nil)) da_nil))) (da_cons (de_tup (da_cons de_int (da_cons (de_lst (da_cons (de_tup (da_cons de_int (da_cons de_int da_nil))) da_nil)) da_nil))) (da_cons (de_tup (da_cons de_int (da_cons (de_lst (da_cons (de_tup (da_cons de_int (da_cons de_int da_nil))) (da_cons (de_tup (da_cons de_int (da_cons de_int da_nil))) da_nil))) da_nil))) (da_cons (de_tup (da_cons de_int (da_cons (de_lst (da_cons (de_tup (da_cons de_int (da_cons de_int da_nil))) da_nil)) da_nil))) (da_cons (de_tup (da_cons de_int (da_cons (de_lst (da_cons (de_tup (da_cons de_int (da_cons de_int da_nil))) da_nil)) da_nil))) (da_cons (de_tup (da_cons de_int (da_cons (de_lst (da_cons (de_tup (da_cons de_int (da_cons de_int da_nil))) da_nil)) da_nil))) (da_cons (de_tup (da_cons de_int (da_cons (de_lst (da_cons (de_tup (da_cons de_int (da_cons de_int da_nil))) (da_cons (de_tup (da_cons de_int (da_cons de_int da_nil))) da_nil))) da_nil))) (da_cons (de_tup (da_cons de_int (da_cons (de_lst (da_cons (de_tup (da_cons de_int (da_cons de_int da_nil))) da_nil)) da_nil))) (da_cons (de_tup (da_cons de_int (da_cons (de_lst (da_cons (de_tup (da_cons de_int (da_cons de_int da_nil))) (da_cons (de_tup (da_cons de_int (da_cons de_int da_nil))) (da_cons (de_tup (da_cons de_int (da_cons de_int da_nil))) da_nil)))) da_nil))) (da_cons (de_tup (da_cons de_int (da_cons (de_lst (da_cons (de_tup (da_cons de_int (da_cons de_int da_nil))) (da_cons (de_tup (da_cons de_int (da_cons de_int da_nil))) (da_cons (de_tup (da_cons de_int (da_cons de_int da_nil))) da_nil)))) da_nil))) da_nil)))))))))))))))
theorem cal__law_bd_text (G : GL P K mg base) : Cal P w K mg base "_law_bd_text" 1 1 d__law_bd_text := cal_D G.t__law_bd_text sc__law_bd_text (fun f cdv A outer s H E tk po hr => db_one (ds_ret (de_join de_str (de_binF (tmp := false) opr_add ops_add (de_lst (da_cons (de_bt cr_str cs_str rfl G.b_str (by decide +kernel) (de_ixN (tmp := false) sl_of de_int)) da_nil)) (de_comp (tmp := false) (is := [1, 2]) rfl nd__law_bd_text (own := [("beads", 1), ("own", 2)]) (.inl rfl) (by decide) (di_seq (de_ixN sl_of de_int)) (blkOk_by (by kernel_rfl)) (fun _ _ _ _ _ => dg_tup (n := 2) rfl (dgs_cons (dg_name (lc_of nd__law_bd_text)) (dgs_cons (dg_name (lc_of nd__law_bd_text)) dgs_nil))) (fun _ _ _ _ _ => dts_nil) (fun _ _ _ _ _ => de_binF opr_add ops_add (de_binF opr_add ops_add (de_bt cr_str cs_str rfl G.b_str (by decide +kernel) (de_var sl_of)) de_str) (de_bt (tmp := false) cr_str cs_str rfl G.b_str (by decide +kernel) (de_var sl_of))))))))
theorem cal__law_bd_rows (G : GL P K mg base) : Cal P w K mg base "_law_bd_rows" 1 1 d__law_bd_rows := cal_D G.t__law_bd_rows sc__law_bd_rows (fun f cdv A outer s H E tk po hr => db_cons (ds_set (lc_of nd__law_bd_rows) (de_lst (da_cons (de_tup da_nil) da_nil))) (db_cons (ds_for po rfl (di_seq (de_ixN sl_of de_int)) (dg_tup (n := 2) rfl (dgs_cons (dg_name (lc_of nd__law_bd_rows)) (dgs_cons (dg_name (lc_of nd__law_bd_rows)) dgs_nil))) (db_cons (ds_set (lc_of nd__law_bd_rows) (de_lst da_nil)) (db_cons (ds_for po rfl (di_seq (de_mov sl_of)) (dg_name (lc_of nd__law_bd_rows)) (db_one (ds_ext sl_of (de_comp (is := [6]) rfl nd__law_bd_rows (own := [("many", 6)]) (.inl rfl) (by decide) (di_range1 rfl G.b_range (da_cons (de_binN opr_add ops_add sl_of de_int) da_nil)) (blkOk_by (by kernel_rfl)) (fun _ _ _ _ _ => dg_name (lc_of nd__law_bd_rows)) (fun _ _ _ _ _ => dts_nil) (fun _ _ _ _ _ => de_binN opr_add ops_add sl_of (de_tup (tmp := false) (da_cons (de_mov sl_of) da_nil))))))) (db_one (ds_set (lc_of nd__law_bd_rows) (de_mov sl_of)))))) (db_one (ds_ret (de_mov sl_of)))))
theorem cal__law_bd_worth (G : GL P K mg base) : Cal P w K mg base "_law_bd_worth" 1 2 d__law_bd_worth := cal_D G.t__law_bd_worth sc__law_bd_worth (fun f cdv A outer s H E tk po hr => db_one (ds_ret (de_b1 (cr_sum rfl) cs_sum rfl G.b_sum (by decide +kernel) (de_comp (tmp := false) (is := [2, 3]) rfl nd__law_bd_worth (own := [("many", 2), ("deck", 3)]) (.inl rfl) (by decide) (di_zip2 rfl G.b_zip (da_cons (de_mov sl_of) (da_cons (de_ixN sl_of de_int) da_nil))) (blkOk_by (by kernel_rfl)) (fun _ _ _ _ _ => dg_tup (n := 2) rfl (dgs_cons (dg_name (lc_of nd__law_bd_worth)) (dgs_cons (dg_name (lc_of nd__law_bd_worth)) dgs_nil))) (fun _ _ _ _ _ => dts_nil) (fun _ _ _ _ _ => de_binN opr_mul ops_mul sl_of (de_ixN (tmp := false) sl_of de_int))))))
theorem cal__law_wrong_word (G : GL P K mg base) : Cal P w K mg base "_law_wrong_word" 7 1 d__law_wrong_word := cal_D G.t__law_wrong_word sc__law_wrong_word (fun f cdv A outer s H E tk po hr => db_cons (ds_tryX (i := 1) G.e_BadText tk rfl rfl nd__law_wrong_word rfl rfl rfl (fun W' pn xe tk2 po2 => db_one (ds_expr (de_call (tmp := false) (cal_rows G) tk2 hr rfl (da_cons (de_mov sl_of) da_nil))))) (db_one (ds_ret (de_neg de_int))))
theorem cal__law_one (G : GL P K mg base) : CalIO P w K mg base "_law_one" 8 1 d__law_one := cal_IO G.t__law_one sc__law_one (fun a f cdv A outer s H E tk po hr => db_cons (ds_set (lc_of nd__law_one) (de_callIO (cal__law_pick G) tk (hr.mono (by decide : 2 ≤ 7)) rfl sl_of (da_cons (de_call0 (cal__law_bd_rods G) tk (hr.mono (by decide : 1 ≤ 7)) rfl) da_nil))) (db_cons (ds_par rfl (lc_of nd__law_one) (lc_of nd__law_one) (by decide) rfl rfl (de_call (cal__law_bd_text G) tk (hr.mono (by decide : 1 ≤ 7)) rfl (da_cons (de_mov sl_of) da_nil)) (de_call (cal__law_bd_rows G) tk (hr.mono (by decide : 1 ≤ 7)) rfl (da_cons (de_mov sl_of) da_nil))) (db_cons (ds_if (dt_not (DW.dt (dw_and (dt_cmpF (opr_eq hr) ops_eq (de_call (cal_base G) tk (hr.mono (by decide : 6 ≤ 7)) rfl (da_cons (de_mov sl_of) da_nil)) (de_ixN (tmp := false) sl_of de_int)) (dw_and (dt_cmpF (opr_eq hr) ops_eq (de_call (cal_decks G) tk (hr.mono (by decide : 6 ≤ 7)) rfl (da_cons (de_mov sl_of) da_nil)) (de_bt (tmp := false) cr_tuple cs_tuple rfl G.b_tuple (by decide +kernel) (de_ixN (tmp := false) sl_of de_int))) (dw_and1 (dt_cmpF (opr_eq hr) ops_eq (de_call (cal_rows G) tk (hr.mono (by decide : 6 ≤ 7)) rfl (da_cons (de_mov sl_of) da_nil)) (de_bt (tmp := false) cr_tuple cs_tuple rfl G.b_tuple (by decide +kernel) (de_var sl_of)))))))) (db_one (ds_ret de_bl)) db_nil) (db_cons (ds_for po rfl (di_range1 rfl G.b_range (da_cons de_int da_nil)) (dg_name (lc_of nd__law_one)) (db_cons (ds_set (lc_of nd__law_one) (de_callIO (cal__law_pick G) tk (hr.mono (by decide : 2 ≤ 7)) rfl sl_of (da_cons (de_mov sl_of) da_nil))) (db_cons (ds_if (dt_not (DW.dt (dw_and (dt_tru (de_call (tmp := false) (cal_is_row G) tk (hr.mono (by decide : 6 ≤ 7)) rfl (da_cons (de_mov sl_of) (da_cons (de_mov sl_of) da_nil)))) (dw_and1 (dt_cmpF (opr_eq hr) ops_eq (de_call (cal_worth G) tk (hr.mono (by decide : 6 ≤ 7)) rfl (da_cons (de_mov sl_of) (da_cons (de_mov sl_of) da_nil))) (de_call (tmp := false) (cal__law_bd_worth G) tk (hr.mono (by decide : 1 ≤ 7)) rfl (da_cons (de_mov sl_of) (da_cons (de_mov sl_of) da_nil)))))))) (db_one (ds_ret de_bl)) db_nil) (db_cons (ds_set (lc_of nd__law_one) (de_callIO (cal__law_pick G) tk (hr.mono (by decide : 2 ≤ 7)) rfl sl_of (da_cons (de_lst (da_cons (de_binN opr_add ops_add sl_of (de_tup (tmp := false) (da_cons de_int da_nil))) (da_cons (de_sliN sl_of (do_some de_int) do_none) (da_cons (de_bt cr_list cs_list rfl G.b_list (by decide +kernel) (de_var sl_of)) (da_cons (de_binF opr_add ops_add (de_tup (da_cons (de_binF op_sub ops_sub (de_ixN sl_of de_int) de_int) da_nil)) (de_sliN (tmp := false) sl_of (do_some de_int) do_none)) (da_cons (de_binF opr_add ops_add (de_sliN sl_of do_none (do_some (de_neg (tmp := false) de_int))) (de_tup (tmp := false) (da_cons de_int da_nil))) (da_cons (de_binF opr_add ops_add (de_sliN sl_of do_none (do_some (de_neg (tmp := false) de_int))) (de_tup (tmp := false) (da_cons de_bl da_nil))) (da_cons de_non da_nil)))))))) da_nil))) (db_one (ds_if (dt_not (DW.dt (dw_and (dt_not (dt_tru (de_call (tmp := false) (cal_is_row G) tk (hr.mono (by decide : 6 ≤ 7)) rfl (da_cons (de_mov sl_of) (da_cons (de_mov sl_of) da_nil))))) (dw_and1 (dt_cmpF op_isN ops_is (de_call (cal_worth G) tk (hr.mono (by decide : 6 ≤ 7)) rfl (da_cons (de_mov sl_of) (da_cons (de_mov sl_of) da_nil))) de_non))))) (db_one (ds_ret de_bl)) db_nil)))))) (db_cons (ds_set (lc_of nd__law_one) (de_callIO (cal__law_roll G) tk (hr.mono (by decide : 1 ≤ 7)) rfl sl_of (da_cons de_int da_nil))) (db_cons (ds_if (dt_not (dt_cmpF (opr_eq hr) ops_eq (de_call (cal_rows_worth G) tk (hr.mono (by decide : 6 ≤ 7)) rfl (da_cons (de_mov sl_of) (da_cons (de_mov sl_of) da_nil))) (de_bt (tmp := false) cr_tuple cs_tuple rfl G.b_tuple (by decide +kernel) (de_comp (tmp := false) (is := [9]) rfl nd__law_one (own := [("row", 9)]) (.inr (by decide)) (by decide) (di_seq (de_mov sl_of)) (blkOk_by (by kernel_rfl)) (fun _ _ _ _ _ => dg_name (lc_of nd__law_one)) (fun _ _ _ _ _ => dts_one (dt_cmpF (opr_eq hr) ops_eq (de_call (cal__law_bd_worth G) takesW0 (hr.mono (by decide : 1 ≤ 7)) rfl (da_cons (de_mov sl_of) (da_cons (de_mov sl_of) da_nil))) (de_var sl_of))) (fun _ _ _ _ _ => de_mov sl_of))))) (db_one (ds_ret de_bl)) db_nil) (db_cons (ds_set (lc_of nd__law_one) (de_split (de_var sl_of) de_str)) (db_cons (ds_set (lc_of nd__law_one) (de_callIO (cal__law_roll G) tk (hr.mono (by decide : 1 ≤ 7)) rfl sl_of (da_cons (de_b1 cr_len cs_len rfl G.b_len (by decide +kernel) (de_var sl_of)) da_nil))) (db_cons (ds_set (lc_of nd__law_one) (de_callIO (cal__law_pick G) tk (hr.mono (by decide : 2 ≤ 7)) rfl sl_of (da_cons (de_lst (da_cons de_str (da_cons de_str (da_cons de_str (da_cons de_str (da_cons de_str (da_cons de_str (da_cons de_str (da_cons de_str (da_cons de_str (da_cons de_str (da_cons de_str (da_cons de_str (da_cons de_str (da_cons de_str da_nil))))))))))))))) da_nil))) (db_cons (ds_store sl_of (de_var sl_of) (de_mov sl_of) (by intro _; rfl)) (db_cons (ds_if (dt_not (dt_cmpF (opr_eq hr) ops_eq (de_call (cal__law_wrong_word G) tk hr rfl (da_cons (de_join de_str (de_var sl_of)) da_nil)) (de_var sl_of))) (db_one (ds_ret de_bl)) db_nil) (db_cons (ds_if (dt_not (DW.dt (dw_and (dt_cmpF (opr_in hr) ops_in (de_call (cal__law_wrong_word G) tk hr rfl (da_cons (de_binN opr_add ops_add sl_of de_str) da_nil)) (de_tup (tmp := false) (da_cons de_int (da_cons de_int da_nil)))) (dw_and1 (dt_cmpF (opr_eq hr) ops_eq (de_call (cal__law_wrong_word G) tk hr rfl (da_cons (de_binN opr_add ops_add sl_of de_str) da_nil)) (de_b1 (tmp := false) cr_len cs_len rfl G.b_len (by decide +kernel) (de_var sl_of))))))) (db_one (ds_ret de_bl)) db_nil) (db_one (ds_ret de_bl))))))))))))))
theorem ok_law {f c PT : Addr} {fd : FuncData} (G : GL P K mg base) (F : Fun K "law" "law" st_law f fd) (hcd : fd.code = .ref c) (tb : LamX.TabB base mg c PT) (hT : (PT, (("law" : Str) ++ ".<locals>.") ++ "<lambda>") ∈ HasT.T) (hu : ∀ p ∈ HasT.T, p.1 = PT → p.2 = (("law" : Str) ++ ".<locals>.") ++ "<lambda>") : FnOk P w K mg base (L2.CX P w) 9 f fd ["script"] (spD K mg 1 d_law) := fnok_DL F hcd tb hT hu sc_law (fun cdv A outer s H E lc tk po hr => db_cons (ds_for po rfl (di_range1 rfl G.b_range (da_cons (de_ba (cr_max2 rfl) cs_max2 rfl G.b_max (by decide +kernel) (da_cons de_int (da_cons (de_ba (cr_min2 rfl) cs_min2 rfl G.b_min (by decide +kernel) (da_cons de_int (da_cons (de_b1 cr_len cs_len rfl G.b_len (by decide +kernel) (de_var sl_of)) da_nil))) da_nil))) da_nil)) (dg_name (lc_of nd_law)) (db_one (ds_if (dt_not (dt_tru (de_callT (tmp := false) (cal__law_one G) tk hr rfl (de_call (cal__law_dice G) tk (hr.mono (by decide : 1 ≤ 8)) rfl (da_cons (de_mov sl_of) (da_cons (de_mov sl_of) da_nil))) da_nil))) (db_one (ds_ret de_bl)) db_nil))) (db_cons (ds_if (dt_not (DW.dt (dw_and (dt_cmpF (opr_eq hr) ops_eq (de_call (cal__law_wrong_word G) tk (hr.mono (by decide : 7 ≤ 8)) rfl (da_cons de_str da_nil)) de_int) (dw_and (dt_cmpF (opr_eq hr) ops_eq (de_call (cal__law_wrong_word G) tk (hr.mono (by decide : 7 ≤ 8)) rfl (da_cons de_str da_nil)) de_int) (dw_and (dt_cmpF (opr_eq hr) ops_eq (de_call (cal__law_wrong_word G) tk (hr.mono (by decide : 7 ≤ 8)) rfl (da_cons de_str da_nil)) de_int) (dw_and1 (dt_cmpF (opr_eq hr) ops_eq (de_call (cal__law_wrong_word G) tk (hr.mono (by decide : 7 ≤ 8)) rfl (da_cons de_str da_nil)) de_int))))))) (db_one (ds_ret de_bl)) db_nil) (db_cons (ds_if (dt_not (DW.dt (dw_and (dt_cmpF (opr_eq hr) ops_eq (de_call (cal__law_wrong_word G) tk (hr.mono (by decide : 7 ≤ 8)) rfl (da_cons de_str da_nil)) de_int) (dw_and (dt_cmpF (opr_eq hr) ops_eq (de_call (cal__law_wrong_word G) tk (hr.mono (by decide : 7 ≤ 8)) rfl (da_cons de_str da_nil)) (de_neg (tmp := false) de_int)) (dw_and1 (dt_cmpF (opr_eq hr) ops_eq (de_call (cal__law_wrong_word G) tk (hr.mono (by decide : 7 ≤ 8)) rfl (da_cons de_str da_nil)) (de_neg (tmp := false) de_int))))))) (db_one (ds_ret de_bl)) db_nil) (db_cons (ds_if (dt_not (DW.dt (dw_and (dt_cmpF (opr_eq hr) ops_eq (de_call (cal__law_wrong_word G) tk (hr.mono (by decide : 7 ≤ 8)) rfl (da_cons de_str da_nil)) de_int) (dw_and (dt_cmpF (opr_eq hr) ops_eq (de_call (cal__law_wrong_word G) tk (hr.mono (by decide : 7 ≤ 8)) rfl (da_cons de_str da_nil)) de_int) (dw_and1 (dt_cmpF (opr_eq hr) ops_eq (de_call (cal__law_wrong_word G) tk (hr.mono (by decide : 7 ≤ 8)) rfl (da_cons de_str da_nil)) de_int)))))) (db_one (ds_ret de_bl)) db_nil) (db_cons (ds_if (dt_not (dt_cmpF (opr_eq hr) ops_eq (de_ref (k := 6) G.r__law_refused lc rfl hr (LamX.lamS_by (by kernel_rfl)) rfl (fun _ _ _ _ _ => rfl) (fun A outer s H E f c' hr tkl => de_call (tmp := false) (cal_base G) tkl hr rfl (da_cons de_int da_nil))) de_str)) (db_one (ds_ret de_bl)) db_nil) (db_cons (ds_if (dt_not (dt_cmpF (opr_eq hr) ops_eq (de_ref (k := 6) G.r__law_refused lc rfl hr (LamX.lamS_by (by kernel_rfl)) rfl (fun _ _ _ _ _ => rfl) (fun A outer s H E f c' hr tkl => de_call (tmp := false) (cal_rows G) tkl hr rfl (da_cons (de_binF opr_mul ops_mul de_str de_int) da_nil))) de_str)) (db_one (ds_ret de_bl)) db_nil) (db_cons (ds_if (dt_not (dt_cmpF (opr_eq hr) ops_eq (de_ref (k := 6) G.r__law_refused lc rfl hr (LamX.lamS_by (by kernel_rfl)) rfl (fun _ _ _ _ _ => rfl) (fun A outer s H E f c' hr tkl => de_call (tmp := false) (cal_rows_worth G) tkl hr rfl (da_cons de_str (da_cons de_int da_nil)))) de_str)) (db_one (ds_ret de_bl)) db_nil) (db_cons (ds_if (dt_not (dt_cmpF (opr_eq hr) ops_eq (de_ref (k := 6) G.r__law_refused lc rfl hr (LamX.lamS_by (by kernel_rfl)) rfl (fun _ _ _ _ _ => rfl) (fun A outer s H E f c' hr tkl => de_call (tmp := false) (cal_is_row G) tkl hr rfl (da_cons de_non (da_cons de_int da_nil)))) de_str)) (db_one (ds_ret de_bl)) db_nil) (db_one (ds_ret (de_and (de_cmpF (tmp := false) (opr_eq hr) ops_eq (de_call (cal_rows G) tk (hr.mono (by decide : 6 ≤ 8)) rfl (da_cons de_str da_nil)) (de_tup (tmp := false) (da_cons (de_tup (da_cons de_int (da_cons de_int da_nil))) (da_cons (de_tup (da_cons de_int (da_cons de_int da_nil))) (da_cons (de_tup (da_cons de_int (da_cons de_int da_nil))) (da_cons (de_tup (da_cons de_int (da_cons de_int da_nil))) da_nil)))))) (de_one (de_cmpF (opr_eq hr) ops_eq (de_call (cal_rows_worth G) tk (hr.mono (by decide : 6 ≤ 8)) rfl (da_cons de_str (da_cons de_int da_nil))) (de_tup (tmp := false) (da_cons (de_tup (da_cons de_int (da_cons de_int da_nil))) (da_cons (de_tup (da_cons de_int (da_cons de_int da_nil))) da_nil))))))))))))))))
end
omit [HasT] in
theorem fin_mk {w : World} {K : Frag} {mg : Mg} {h : Heap} {fa : Addr} {q : Program} {C_Rod f0 f1 f2 f3 f4 f5 f6 f7 f8 f9 f10 f11 f12 f13 f14 f15 f16 f17 f18 f19 f20 f21 f22 f23 f24 f25 f26 f27 f28 cc29 PT29 f29 f30 C_BadArgument C_BadText N_xBadArgument cda_BadArgument cx_BadArgument f_BadArgument N_xBadText cda_BadText cx_BadText f_BadText : Addr} {od0 an0 od1 an1 od2 an2 od3 an3 od4 an4 od5 an5 od6 an6 od7 an7 od8 an8 od9 an9 od10 an10 od11 an11 od12 an12 od13 an13 od14 an14 od15 an15 od16 an16 od17 an17 od18 an18 od19 an19 od20 an20 od21 an21 od22 an22 od23 an23 od24 an24 od25 an25 od26 an26 od27 an27 od28 an28 dd29 od29 an29 od30 an30 dd_BadArgument cdd_BadArgument cld_BadArgument od_BadArgument an_BadArgument dd_BadText cdd_BadText cld_BadText od_BadText an_BadText : Option Addr} {sl0 sl1 sl2 sl3 sl4 sl5 sl6 sl7 sl8 sl9 sl10 sl11 sl12 sl13 sl14 sl15 sl16 sl17 sl18 sl19 sl20 sl21 sl22 sl23 sl24 sl25 sl26 sl27 sl28 sc29 sl29 sl30 ccs_BadArgument csl_BadArgument sl_BadArgument ccs_BadText csl_BadText sl_BadText : Array (Option Value)} {oc0 kV0 dc0 pm0 ct0 cd0 oc1 kV1 dc1 pm1 ct1 cd1 oc2 kV2 dc2 pm2 ct2 cd2 oc3 kV3 dc3 pm3 ct3 cd3 oc4 kV4 dc4 pm4 ct4 cd4 oc5 kV5 dc5 pm5 ct5 cd5 oc6 kV6 dc6 pm6 ct6 cd6 oc7 kV7 dc7 pm7 ct7 cd7 oc8 kV8 dc8 pm8 ct8 cd8 oc9 kV9 dc9 pm9 ct9 cd9 oc10 kV10 dc10 pm10 ct10 cd10 oc11 kV11 dc11 pm11 ct11 cd11 oc12 kV12 dc12 pm12 ct12 cd12 oc13 kV13 dc13 pm13 ct13 cd13 oc14 kV14 dc14 pm14 ct14 cd14 oc15 kV15 dc15 pm15 ct15 cd15 oc16 kV16 dc16 pm16 ct16 cd16 oc17 kV17 dc17 pm17 ct17 cd17 oc18 kV18 dc18 pm18 ct18 cd18 oc19 kV19 dc19 pm19 ct19 cd19 oc20 kV20 dc20 pm20 ct20 cd20 oc21 kV21 dc21 pm21 ct21 cd21 oc22 kV22 dc22 pm22 ct22 cd22 oc23 kV23 dc23 pm23 ct23 cd23 oc24 kV24 dc24 pm24 ct24 cd24 oc25 kV25 dc25 pm25 ct25 cd25 oc26 kV26 dc26 pm26 ct26 cd26 oc27 kV27 dc27 pm27 ct27 cd27 oc28 kV28 dc28 pm28 ct28 cd28 ec29 oc29 kV29 dc29 pm29 ct29 oc30 kV30 dc30 pm30 ct30 cd30 ccl_BadArgument xl_BadArgument oc_BadArgument kV_BadArgument dc_BadArgument pm_BadArgument ct_BadArgument ccl_BadText xl_BadText oc_BadText kV_BadText dc_BadText pm_BadText ct_BadText : Value} {vs29 vs_BadArgument vs_BadText : Array Value} {tk_DIGITS tk_MOST_BASE tk_MOST_BEADS tk_MOST_DECKS tk_MOST_STATES tk_MOST_TEXT tk_MOST_WORTH tf_BadArgument tf_BadText : Tok} {cD_BadArgument cD_BadText : ClassData} {nm_BadArgument qn_BadArgument file_BadArgument nm_BadText qn_BadText file_BadText : Str} {bs_BadArgument bm_BadArgument sub_BadArgument bs_BadText bm_BadText sub_BadText : List Value} {sn_BadArgument sn_BadText : List Str} {ab_BadArgument ab_BadText : Bool} {col_BadArgument col_BadText : Option Bool} {k0_BadArgument k1_BadArgument k2_BadArgument k3_BadArgument k5_BadArgument k0_BadText k1_BadText k2_BadText k3_BadText k5_BadText : Option Value}
    (X : K.In h) (Gn : h.Ns mainGlobals mg) (hfa : mg "law" = some (.ref fa)) (tb : TabsOf q K h) (fi_law : ((PyProof.Rows.recsOf q).find? (fun e => e.name == ("law" : Str))).isSome = true)
    (a_Rod : PySem.W.nsIn K mainGlobals "Rod" = some (some (.ref C_Rod)))
    (pg_Rod : PySem.W.plainGet K C_Rod Str.empty = true)
    (hd_Rod : PySem.W.hasDictIn K C_Rod = true)
    (po_Rod : PySem.W.plainOver K C_Rod = true)
    (sa_Rod : PySem.W.findIn K (.ref C_Rod) "__setattr__" = some (some (.builtin "object.__setattr__")))
    (a0 : PySem.W.nsIn K mainGlobals "is_in" = some (some (.ref f0)))
    (l0 : K.lookup f0 = some ⟨oc0, od0, .func (PySem.W.fnOf "is_in" "is_in" (defArgs st_is_in) (defBody st_is_in) (defScope st_is_in) .none kV0 dc0 pm0 an0 cd0 ct0), sl0⟩)
    (c0 : PySem.W.codeIn K cd0 "is_in" = true)
    (k0 : PySem.W.keepIn K (.ref f0) = true)
    (a1 : PySem.W.nsIn K mainGlobals "is_tuple" = some (some (.ref f1)))
    (l1 : K.lookup f1 = some ⟨oc1, od1, .func (PySem.W.fnOf "is_tuple" "is_tuple" (defArgs st_is_tuple) (defBody st_is_tuple) (defScope st_is_tuple) .none kV1 dc1 pm1 an1 cd1 ct1), sl1⟩)
    (c1 : PySem.W.codeIn K cd1 "is_tuple" = true)
    (k1 : PySem.W.keepIn K (.ref f1) = true)
    (a2 : PySem.W.nsIn K mainGlobals "is_text" = some (some (.ref f2)))
    (l2 : K.lookup f2 = some ⟨oc2, od2, .func (PySem.W.fnOf "is_text" "is_text" (defArgs st_is_text) (defBody st_is_text) (defScope st_is_text) .none kV2 dc2 pm2 an2 cd2 ct2), sl2⟩)
    (c2 : PySem.W.codeIn K cd2 "is_text" = true)
    (k2 : PySem.W.keepIn K (.ref f2) = true)
    (a3 : PySem.W.nsIn K mainGlobals "demand" = some (some (.ref f3)))
    (l3 : K.lookup f3 = some ⟨oc3, od3, .func (PySem.W.fnOf "demand" "demand" (defArgs st_demand) (defBody st_demand) (defScope st_demand) .none kV3 dc3 pm3 an3 cd3 ct3), sl3⟩)
    (c3 : PySem.W.codeIn K cd3 "demand" = true)
    (k3 : PySem.W.keepIn K (.ref f3) = true)
    (a4 : PySem.W.nsIn K mainGlobals "rows_of" = some (some (.ref f4)))
    (l4 : K.lookup f4 = some ⟨oc4, od4, .func (PySem.W.fnOf "rows_of" "rows_of" (defArgs st_rows_of) (defBody st_rows_of) (defScope st_rows_of) .none kV4 dc4 pm4 an4 cd4 ct4), sl4⟩)
    (c4 : PySem.W.codeIn K cd4 "rows_of" = true)
    (k4 : PySem.W.keepIn K (.ref f4) = true)
    (a5 : PySem.W.findIn K (.ref C_Rod) "__init__" = some (some (.ref f5)))
    (i5 : PySem.W.isFn K (.ref f5) = true)
    (l5 : K.lookup f5 = some ⟨oc5, od5, .func (PySem.W.fnOf "__init__" "Rod.__init__" (defArgs st_Rod___init__) (defBody st_Rod___init__) (defScope st_Rod___init__) .none kV5 dc5 pm5 an5 cd5 ct5), sl5⟩)
    (c5 : PySem.W.codeIn K cd5 "Rod.__init__" = true)
    (k5 : PySem.W.keepIn K (.ref f5) = true)
    (mk_Rod : PySem.W.makesIn K C_Rod = true)
    (kc_Rod : PySem.W.keepIn K (.ref C_Rod) = true)
    (a6 : PySem.W.findIn K (.ref C_Rod) "place" = some (some (.ref f6)))
    (i6 : PySem.W.isFn K (.ref f6) = true)
    (l6 : K.lookup f6 = some ⟨oc6, od6, .func (PySem.W.fnOf "place" "Rod.place" (defArgs st_Rod_place) (defBody st_Rod_place) (defScope st_Rod_place) .none kV6 dc6 pm6 an6 cd6 ct6), sl6⟩)
    (c6 : PySem.W.codeIn K cd6 "Rod.place" = true)
    (k6 : PySem.W.keepIn K (.ref f6) = true)
    (a7 : PySem.W.nsIn K mainGlobals "number_of" = some (some (.ref f7)))
    (l7 : K.lookup f7 = some ⟨oc7, od7, .func (PySem.W.fnOf "number_of" "number_of" (defArgs st_number_of) (defBody st_number_of) (defScope st_number_of) .none kV7 dc7 pm7 an7 cd7 ct7), sl7⟩)
    (c7 : PySem.W.codeIn K cd7 "number_of" = true)
    (k7 : PySem.W.keepIn K (.ref f7) = true)
    (a8 : PySem.W.nsIn K mainGlobals "read_deck" = some (some (.ref f8)))
    (l8 : K.lookup f8 = some ⟨oc8, od8, .func (PySem.W.fnOf "read_deck" "read_deck" (defArgs st_read_deck) (defBody st_read_deck) (defScope st_read_deck) .none kV8 dc8 pm8 an8 cd8 ct8), sl8⟩)
    (c8 : PySem.W.codeIn K cd8 "read_deck" = true)
    (k8 : PySem.W.keepIn K (.ref f8) = true)
    (a9 : PySem.W.nsIn K mainGlobals "shows_all" = some (some (.ref f9)))
    (l9 : K.lookup f9 = some ⟨oc9, od9, .func (PySem.W.fnOf "shows_all" "shows_all" (defArgs st_shows_all) (defBody st_shows_all) (defScope st_shows_all) .none kV9 dc9 pm9 an9 cd9 ct9), sl9⟩)
    (c9 : PySem.W.codeIn K cd9 "shows_all" = true)
    (k9 : PySem.W.keepIn K (.ref f9) = true)
    (a10 : PySem.W.nsIn K mainGlobals "count_rows" = some (some (.ref f10)))
    (l10 : K.lookup f10 = some ⟨oc10, od10, .func (PySem.W.fnOf "count_rows" "count_rows" (defArgs st_count_rows) (defBody st_count_rows) (defScope st_count_rows) .none kV10 dc10 pm10 an10 cd10 ct10), sl10⟩)
    (c10 : PySem.W.codeIn K cd10 "count_rows" = true)
    (k10 : PySem.W.keepIn K (.ref f10) = true)
    (a11 : PySem.W.nsIn K mainGlobals "read_rod" = some (some (.ref f11)))
    (l11 : K.lookup f11 = some ⟨oc11, od11, .func (PySem.W.fnOf "read_rod" "read_rod" (defArgs st_read_rod) (defBody st_read_rod) (defScope st_read_rod) .none kV11 dc11 pm11 an11 cd11 ct11), sl11⟩)
    (c11 : PySem.W.codeIn K cd11 "read_rod" = true)
    (k11 : PySem.W.keepIn K (.ref f11) = true)
    (a12 : PySem.W.nsIn K mainGlobals "demand_rod" = some (some (.ref f12)))
    (l12 : K.lookup f12 = some ⟨oc12, od12, .func (PySem.W.fnOf "demand_rod" "demand_rod" (defArgs st_demand_rod) (defBody st_demand_rod) (defScope st_demand_rod) .none kV12 dc12 pm12 an12 cd12 ct12), sl12⟩)
    (c12 : PySem.W.codeIn K cd12 "demand_rod" = true)
    (k12 : PySem.W.keepIn K (.ref f12) = true)
    (a13 : PySem.W.nsIn K mainGlobals "base" = some (some (.ref f13)))
    (l13 : K.lookup f13 = some ⟨oc13, od13, .func (PySem.W.fnOf "base" "base" (defArgs st_base) (defBody st_base) (defScope st_base) .none kV13 dc13 pm13 an13 cd13 ct13), sl13⟩)
    (c13 : PySem.W.codeIn K cd13 "base" = true)
    (k13 : PySem.W.keepIn K (.ref f13) = true)
    (a14 : PySem.W.nsIn K mainGlobals "decks" = some (some (.ref f14)))
    (l14 : K.lookup f14 = some ⟨oc14, od14, .func (PySem.W.fnOf "decks" "decks" (defArgs st_decks) (defBody st_decks) (defScope st_decks) .none kV14 dc14 pm14 an14 cd14 ct14), sl14⟩)
    (c14 : PySem.W.codeIn K cd14 "decks" = true)
    (k14 : PySem.W.keepIn K (.ref f14) = true)
    (a15 : PySem.W.nsIn K mainGlobals "rows" = some (some (.ref f15)))
    (l15 : K.lookup f15 = some ⟨oc15, od15, .func (PySem.W.fnOf "rows" "rows" (defArgs st_rows) (defBody st_rows) (defScope st_rows) .none kV15 dc15 pm15 an15 cd15 ct15), sl15⟩)
    (c15 : PySem.W.codeIn K cd15 "rows" = true)
    (k15 : PySem.W.keepIn K (.ref f15) = true)
    (a16 : PySem.W.nsIn K mainGlobals "read_row" = some (some (.ref f16)))
    (l16 : K.lookup f16 = some ⟨oc16, od16, .func (PySem.W.fnOf "read_row" "read_row" (defArgs st_read_row) (defBody st_read_row) (defScope st_read_row) .none kV16 dc16 pm16 an16 cd16 ct16), sl16⟩)
    (c16 : PySem.W.codeIn K cd16 "read_row" = true)
    (k16 : PySem.W.keepIn K (.ref f16) = true)
    (a17 : PySem.W.nsIn K mainGlobals "is_row" = some (some (.ref f17)))
    (l17 : K.lookup f17 = some ⟨oc17, od17, .func (PySem.W.fnOf "is_row" "is_row" (defArgs st_is_row) (defBody st_is_row) (defScope st_is_row) .none kV17 dc17 pm17 an17 cd17 ct17), sl17⟩)
    (c17 : PySem.W.codeIn K cd17 "is_row" = true)
    (k17 : PySem.W.keepIn K (.ref f17) = true)
    (a18 : PySem.W.nsIn K mainGlobals "worth" = some (some (.ref f18)))
    (l18 : K.lookup f18 = some ⟨oc18, od18, .func (PySem.W.fnOf "worth" "worth" (defArgs st_worth) (defBody st_worth) (defScope st_worth) .none kV18 dc18 pm18 an18 cd18 ct18), sl18⟩)
    (c18 : PySem.W.codeIn K cd18 "worth" = true)
    (k18 : PySem.W.keepIn K (.ref f18) = true)
    (a19 : PySem.W.nsIn K mainGlobals "rows_worth" = some (some (.ref f19)))
    (l19 : K.lookup f19 = some ⟨oc19, od19, .func (PySem.W.fnOf "rows_worth" "rows_worth" (defArgs st_rows_worth) (defBody st_rows_worth) (defScope st_rows_worth) .none kV19 dc19 pm19 an19 cd19 ct19), sl19⟩)
    (c19 : PySem.W.codeIn K cd19 "rows_worth" = true)
    (k19 : PySem.W.keepIn K (.ref f19) = true)
    (a20 : PySem.W.nsIn K mainGlobals "_law_dice" = some (some (.ref f20)))
    (l20 : K.lookup f20 = some ⟨oc20, od20, .func (PySem.W.fnOf "_law_dice" "_law_dice" (defArgs st__law_dice) (defBody st__law_dice) (defScope st__law_dice) .none kV20 dc20 pm20 an20 cd20 ct20), sl20⟩)
    (c20 : PySem.W.codeIn K cd20 "_law_dice" = true)
    (k20 : PySem.W.keepIn K (.ref f20) = true)
    (a21 : PySem.W.nsIn K mainGlobals "_law_roll" = some (some (.ref f21)))
    (l21 : K.lookup f21 = some ⟨oc21, od21, .func (PySem.W.fnOf "_law_roll" "_law_roll" (defArgs st__law_roll) (defBody st__law_roll) (defScope st__law_roll) .none kV21 dc21 pm21 an21 cd21 ct21), sl21⟩)
    (c21 : PySem.W.codeIn K cd21 "_law_roll" = true)
    (k21 : PySem.W.keepIn K (.ref f21) = true)
    (a22 : PySem.W.nsIn K mainGlobals "_law_pick" = some (some (.ref f22)))
    (l22 : K.lookup f22 = some ⟨oc22, od22, .func (PySem.W.fnOf "_law_pick" "_law_pick" (defArgs st__law_pick) (defBody st__law_pick) (defScope st__law_pick) .none kV22 dc22 pm22 an22 cd22 ct22), sl22⟩)
    (c22 : PySem.W.codeIn K cd22 "_law_pick" = true)
    (k22 : PySem.W.keepIn K (.ref f22) = true)
    (a23 : PySem.W.nsIn K mainGlobals "_law_bd_rods" = some (some (.ref f23)))
    (l23 : K.lookup f23 = some ⟨oc23, od23, .func (PySem.W.fnOf "_law_bd_rods" "_law_bd_rods" (defArgs st__law_bd_rods) (defBody st__law_bd_rods) (defScope st__law_bd_rods) .none kV23 dc23 pm23 an23 cd23 ct23), sl23⟩)
    (c23 : PySem.W.codeIn K cd23 "_law_bd_rods" = true)
    (k23 : PySem.W.keepIn K (.ref f23) = true)
    (a24 : PySem.W.nsIn K mainGlobals "_law_bd_text" = some (some (.ref f24)))
    (l24 : K.lookup f24 = some ⟨oc24, od24, .func (PySem.W.fnOf "_law_bd_text" "_law_bd_text" (defArgs st__law_bd_text) (defBody st__law_bd_text) (defScope st__law_bd_text) .none kV24 dc24 pm24 an24 cd24 ct24), sl24⟩)
    (c24 : PySem.W.codeIn K cd24 "_law_bd_text" = true)
    (k24 : PySem.W.keepIn K (.ref f24) = true)
    (a25 : PySem.W.nsIn K mainGlobals "_law_bd_rows" = some (some (.ref f25)))
    (l25 : K.lookup f25 = some ⟨oc25, od25, .func (PySem.W.fnOf "_law_bd_rows" "_law_bd_rows" (defArgs st__law_bd_rows) (defBody st__law_bd_rows) (defScope st__law_bd_rows) .none kV25 dc25 pm25 an25 cd25 ct25), sl25⟩)
    (c25 : PySem.W.codeIn K cd25 "_law_bd_rows" = true)
    (k25 : PySem.W.keepIn K (.ref f25) = true)
    (a26 : PySem.W.nsIn K mainGlobals "_law_bd_worth" = some (some (.ref f26)))
    (l26 : K.lookup f26 = some ⟨oc26, od26, .func (PySem.W.fnOf "_law_bd_worth" "_law_bd_worth" (defArgs st__law_bd_worth) (defBody st__law_bd_worth) (defScope st__law_bd_worth) .none kV26 dc26 pm26 an26 cd26 ct26), sl26⟩)
    (c26 : PySem.W.codeIn K cd26 "_law_bd_worth" = true)
    (k26 : PySem.W.keepIn K (.ref f26) = true)
    (a27 : PySem.W.nsIn K mainGlobals "_law_wrong_word" = some (some (.ref f27)))
    (l27 : K.lookup f27 = some ⟨oc27, od27, .func (PySem.W.fnOf "_law_wrong_word" "_law_wrong_word" (defArgs st__law_wrong_word) (defBody st__law_wrong_word) (defScope st__law_wrong_word) .none kV27 dc27 pm27 an27 cd27 ct27), sl27⟩)
    (c27 : PySem.W.codeIn K cd27 "_law_wrong_word" = true)
    (k27 : PySem.W.keepIn K (.ref f27) = true)
    (a28 : PySem.W.nsIn K mainGlobals "_law_one" = some (some (.ref f28)))
    (l28 : K.lookup f28 = some ⟨oc28, od28, .func (PySem.W.fnOf "_law_one" "_law_one" (defArgs st__law_one) (defBody st__law_one) (defScope st__law_one) .none kV28 dc28 pm28 an28 cd28 ct28), sl28⟩)
    (c28 : PySem.W.codeIn K cd28 "_law_one" = true)
    (k28 : PySem.W.keepIn K (.ref f28) = true)
    (a29 : PySem.W.nsIn K mainGlobals "law" = some (some (.ref f29)))
    (l29 : K.lookup f29 = some ⟨oc29, od29, .func (PySem.W.fnOf "law" "law" (defArgs st_law) (defBody st_law) (defScope st_law) .none kV29 dc29 pm29 an29 (.ref cc29) ct29), sl29⟩)
    (c29 : PySem.W.codeIn K (.ref cc29) "law" = true)
    (t29 : K.lookup cc29 = some ⟨ec29, dd29, .fields vs29, sc29⟩)
    (v29 : vs29[11]? = some (.ref PT29))
    (p29 : K.lookup PT29 = none)
    (k29 : PySem.W.keepIn K (.ref f29) = true)
    (a30 : PySem.W.nsIn K mainGlobals "_law_refused" = some (some (.ref f30)))
    (l30 : K.lookup f30 = some ⟨oc30, od30, .func (PySem.W.fnOf "_law_refused" "_law_refused" (defArgs st__law_refused) (defBody st__law_refused) (defScope st__law_refused) .none kV30 dc30 pm30 an30 cd30 ct30), sl30⟩)
    (c30 : PySem.W.codeIn K cd30 "_law_refused" = true)
    (k30 : PySem.W.keepIn K (.ref f30) = true)
    (z_abs : PySem.W.nsIn K mainGlobals "abs" = some none)
    (z_all : PySem.W.nsIn K mainGlobals "all" = some none)
    (z_bool : PySem.W.nsIn K mainGlobals "bool" = some none)
    (z_enumerate : PySem.W.nsIn K mainGlobals "enumerate" = some none)
    (z_int : PySem.W.nsIn K mainGlobals "int" = some none)
    (z_isinstance : PySem.W.nsIn K mainGlobals "isinstance" = some none)
    (z_len : PySem.W.nsIn K mainGlobals "len" = some none)
    (z_list : PySem.W.nsIn K mainGlobals "list" = some none)
    (z_max : PySem.W.nsIn K mainGlobals "max" = some none)
    (z_min : PySem.W.nsIn K mainGlobals "min" = some none)
    (z_range : PySem.W.nsIn K mainGlobals "range" = some none)
    (z_str : PySem.W.nsIn K mainGlobals "str" = some none)
    (z_sum : PySem.W.nsIn K mainGlobals "sum" = some none)
    (z_tuple : PySem.W.nsIn K mainGlobals "tuple" = some none)
    (z_zip : PySem.W.nsIn K mainGlobals "zip" = some none)
    (z_super : PySem.W.nsIn K mainGlobals "super" = some none)
    (q_DIGITS : PySem.W.nsIn K mainGlobals "DIGITS" = some (some (.str "0123456789" tk_DIGITS)))
    (q_MOST_BASE : PySem.W.nsIn K mainGlobals "MOST_BASE" = some (some (.int 20 tk_MOST_BASE)))
    (q_MOST_BEADS : PySem.W.nsIn K mainGlobals "MOST_BEADS" = some (some (.int 10 tk_MOST_BEADS)))
    (q_MOST_DECKS : PySem.W.nsIn K mainGlobals "MOST_DECKS" = some (some (.int 3 tk_MOST_DECKS)))
    (q_MOST_STATES : PySem.W.nsIn K mainGlobals "MOST_STATES" = some (some (.int 40 tk_MOST_STATES)))
    (q_MOST_TEXT : PySem.W.nsIn K mainGlobals "MOST_TEXT" = some (some (.int 60 tk_MOST_TEXT)))
    (q_MOST_WORTH : PySem.W.nsIn K mainGlobals "MOST_WORTH" = some (some (.int 20 tk_MOST_WORTH)))
    (n_Rod_base : PySem.W.findIn K (.ref C_Rod) "base" = some none)
    (n_Rod_decks : PySem.W.findIn K (.ref C_Rod) "decks" = some none)
    (n_Rod_rows : PySem.W.findIn K (.ref C_Rod) "rows" = some none)
    (n_Rod_worths : PySem.W.findIn K (.ref C_Rod) "worths" = some none)
    (z_any : PySem.W.nsIn K cStatics "thirdparty.any" = some none)
    (a_BadArgument : PySem.W.nsIn K mainGlobals "BadArgument" = some (some (.ref C_BadArgument)))
    (ex_BadArgument : PySem.W.subIn K (.ref C_BadArgument) (.type "BaseException") = some true)
    (ty_BadArgument : PySem.W.typeIn K (.ref C_BadArgument) = some (.type "type"))
    (no_BadArgument : PySem.W.findIn K (.ref C_BadArgument) "name" = some none)
    (cl_BadArgument : PySem.W.clsIn K C_BadArgument = some cD_BadArgument)
    (a_BadText : PySem.W.nsIn K mainGlobals "BadText" = some (some (.ref C_BadText)))
    (ex_BadText : PySem.W.subIn K (.ref C_BadText) (.type "BaseException") = some true)
    (ty_BadText : PySem.W.typeIn K (.ref C_BadText) = some (.type "type"))
    (no_BadText : PySem.W.findIn K (.ref C_BadText) "place" = some none)
    (cl_BadText : PySem.W.clsIn K C_BadText = some cD_BadText)
    (lC_BadArgument : K.lookup C_BadArgument = some (excClassObj nm_BadArgument qn_BadArgument C_BadArgument N_xBadArgument bs_BadArgument bm_BadArgument true sn_BadArgument sub_BadArgument ab_BadArgument col_BadArgument dd_BadArgument k0_BadArgument k1_BadArgument k2_BadArgument k3_BadArgument k5_BadArgument "ValueError.__new__"))
    (rb_BadArgument : PySem.HandSPX.refsVE bm_BadArgument = true)
    (sa_BadArgument : PySem.W.findIn K (.ref C_BadArgument) "__setattr__" = some (some (.builtin "object.__setattr__")))
    (kC_BadArgument : PySem.W.keepIn K (.ref C_BadArgument) = true)
    (iC_BadArgument : PySem.W.findIn K (.ref C_BadArgument) "__init__" = some (some (.ref f_BadArgument)))
    (lI_BadArgument : K.lookup f_BadArgument = some ⟨oc_BadArgument, od_BadArgument, .func (PySem.W.ksFn "__init__" "BadArgument.__init__" (defArgs (inClass (top 2) 0)) (defBody (inClass (top 2) 0)) (defScope (inClass (top 2) 0)) .none kV_BadArgument dc_BadArgument pm_BadArgument an_BadArgument (.ref cda_BadArgument) ct_BadArgument cx_BadArgument), sl_BadArgument⟩)
    (cI_BadArgument : PySem.W.codeIn K (.ref cda_BadArgument) "BadArgument.__init__" = true)
    (lc_BadArgument : K.lookup cda_BadArgument = some ⟨ccl_BadArgument, cdd_BadArgument, .fields vs_BadArgument, ccs_BadArgument⟩)
    (v2_BadArgument : vs_BadArgument[2]? = some (.str file_BadArgument tf_BadArgument))
    (hf_BadArgument : ((PySem.Challenge.pw_beadrods_k00_whole_rods.main.file : Str) == file_BadArgument) = true)
    (lx_BadArgument : K.lookup cx_BadArgument = some ⟨xl_BadArgument, cld_BadArgument, .cell (some (.ref C_BadArgument)), csl_BadArgument⟩)
    (mr_BadArgument : PySem.W.mroIn K C_BadArgument (.ref C_BadArgument) = some true)
    (su_BadArgument : PySem.W.ks_superIn K C_BadArgument C_BadArgument "__init__" = some (some (.builtin "ValueError.__init__")))
    (sB_BadArgument : PySem.W.subIn K (.ref C_BadArgument) (.type "ValueError") = some true)
    (tI_BadArgument : PySem.W.typeIn K (.ref f_BadArgument) = some (.type "function"))
    (lC_BadText : K.lookup C_BadText = some (excClassObj nm_BadText qn_BadText C_BadText N_xBadText bs_BadText bm_BadText true sn_BadText sub_BadText ab_BadText col_BadText dd_BadText k0_BadText k1_BadText k2_BadText k3_BadText k5_BadText "ValueError.__new__"))
    (rb_BadText : PySem.HandSPX.refsVE bm_BadText = true)
    (sa_BadText : PySem.W.findIn K (.ref C_BadText) "__setattr__" = some (some (.builtin "object.__setattr__")))
    (kC_BadText : PySem.W.keepIn K (.ref C_BadText) = true)
    (iC_BadText : PySem.W.findIn K (.ref C_BadText) "__init__" = some (some (.ref f_BadText)))
    (lI_BadText : K.lookup f_BadText = some ⟨oc_BadText, od_BadText, .func (PySem.W.ksFn "__init__" "BadText.__init__" (defArgs (inClass (top 3) 0)) (defBody (inClass (top 3) 0)) (defScope (inClass (top 3) 0)) .none kV_BadText dc_BadText pm_BadText an_BadText (.ref cda_BadText) ct_BadText cx_BadText), sl_BadText⟩)
    (cI_BadText : PySem.W.codeIn K (.ref cda_BadText) "BadText.__init__" = true)
    (lc_BadText : K.lookup cda_BadText = some ⟨ccl_BadText, cdd_BadText, .fields vs_BadText, ccs_BadText⟩)
    (v2_BadText : vs_BadText[2]? = some (.str file_BadText tf_BadText))
    (hf_BadText : ((PySem.Challenge.pw_beadrods_k00_whole_rods.main.file : Str) == file_BadText) = true)
    (lx_BadText : K.lookup cx_BadText = some ⟨xl_BadText, cld_BadText, .cell (some (.ref C_BadText)), csl_BadText⟩)
    (mr_BadText : PySem.W.mroIn K C_BadText (.ref C_BadText) = some true)
    (su_BadText : PySem.W.ks_superIn K C_BadText C_BadText "__init__" = some (some (.builtin "ValueError.__init__")))
    (sB_BadText : PySem.W.subIn K (.ref C_BadText) (.type "ValueError") = some true)
    (tI_BadText : PySem.W.typeIn K (.ref f_BadText) = some (.type "function"))
    (sP_BadArgument : PySem.W.subIn K (.ref C_BadArgument) (.ref C_BadArgument) = some true)
    (ga_BadArgument : PySem.W.findIn K (.ref C_BadArgument) "__getattribute__" = some (some (.builtin "BaseException.__getattribute__")))
    (gg_BadArgument : PySem.W.findIn K (.ref C_BadArgument) "__getattr__" = some none)
    (hx_BadArgument : PySem.W.hasDictIn K C_BadArgument = true)
    (sP_BadText : PySem.W.subIn K (.ref C_BadText) (.ref C_BadText) = some true)
    (ga_BadText : PySem.W.findIn K (.ref C_BadText) "__getattribute__" = some (some (.builtin "BaseException.__getattribute__")))
    (gg_BadText : PySem.W.findIn K (.ref C_BadText) "__getattr__" = some none)
    (hx_BadText : PySem.W.hasDictIn K C_BadText = true)
    (hd : ∀ ns : List Int, ns.length ≤ 63 → (∀ z ∈ ns, Builtin.Int.intBits z ≤ 1048576) → d_law [.scr (ns.map .int)] = .ok (.bl true)) : LamX.LawAtS PySem.Challenge.rw_beadrods_k00_whole_rods w K (L2.CX PySem.Challenge.rw_beadrods_k00_whole_rods.prog w) 9 63 "script" mg fa h := by
  have e := hfa.symm.trans (PySem.W.mg_of X Gn a29)
  cases e
  letI TT : HasT := ⟨[(PT29, (("law" : Str) ++ ".<locals>.") ++ "<lambda>")]⟩
  obtain ⟨d29, hd29⟩ := Option.isSome_iff_exists.mp fi_law
  have tb29 := tb _ _ _ _ hd29 (tab_get a29 l29 rfl t29 v29)
  have hu29 : ∀ p ∈ HasT.T, p.1 = PT29 → p.2 = (("law" : Str) ++ ".<locals>.") ++ "<lambda>" := fun p hp _ => by cases List.mem_singleton.mp hp; rfl
  refine law_at (fd := PySem.W.fnOf "law" "law" (defArgs st_law) (defBody st_law) (defScope st_law) .none kV29 dc29 pm29 an29 (.ref cc29) ct29) [(cc29, PT29)] ?_ ?_ (fun s u => .of_eq rfl) (fun base KB GB TB => ?_) hd
  · intro p hp
    simp only [List.mem_cons, List.not_mem_nil, or_false] at hp
    rcases hp with rfl
    · exact ⟨p29, tb29.1, tb29.2⟩
  · intro p hp
    change p ∈ [(PT29, (("law" : Str) ++ ".<locals>.") ++ "<lambda>")] at hp
    simp only [List.mem_cons, List.not_mem_nil, or_false] at hp
    rcases hp with rfl
    · exact ⟨cc29, by simp⟩
  · have G : GL PySem.Challenge.rw_beadrods_k00_whole_rods.prog K mg base := {
      t_is_in := fnT_of X Gn a0 l0 c0 k0 (fun _ _ _ _ _ _ us hl => match us, hl with | [_, _, _], _ => rfl)
      t_is_tuple := fnT_of X Gn a1 l1 c1 k1 (fun _ _ _ _ _ _ us hl => match us, hl with | [_, _, _], _ => rfl)
      t_is_text := fnT_of X Gn a2 l2 c2 k2 (fun _ _ _ _ _ _ us hl => match us, hl with | [_, _], _ => rfl)
      t_demand := fnT_of X Gn a3 l3 c3 k3 (fun _ _ _ _ _ _ us hl => match us, hl with | [_, _], _ => rfl)
      t_rows_of := fnT_of X Gn a4 l4 c4 k4 (fun _ _ _ _ _ _ us hl => match us, hl with | [_], _ => rfl)
      t_Rod___init__ := inT_of (clT_of X Gn a_Rod pg_Rod hd_Rod po_Rod sa_Rod) mk_Rod kc_Rod a5 i5 l5 c5 k5 (fun _ _ _ _ _ _ us hl => match us, hl with | [_, _, _], _ => rfl)
      t_Rod_place := mtT_of (clT_of X Gn a_Rod pg_Rod hd_Rod po_Rod sa_Rod) a6 i6 l6 c6 k6 (fun _ _ _ _ _ _ us hl => match us, hl with | [_, _], _ => rfl)
      t_number_of := fnT_of X Gn a7 l7 c7 k7 (fun _ _ _ _ _ _ us hl => match us, hl with | [_, _], _ => rfl)
      t_read_deck := fnT_of X Gn a8 l8 c8 k8 (fun _ _ _ _ _ _ us hl => match us, hl with | [_], _ => rfl)
      t_shows_all := fnT_of X Gn a9 l9 c9 k9 (fun _ _ _ _ _ _ us hl => match us, hl with | [_], _ => rfl)
      t_count_rows := fnT_of X Gn a10 l10 c10 k10 (fun _ _ _ _ _ _ us hl => match us, hl with | [_], _ => rfl)
      t_read_rod := fnT_of X Gn a11 l11 c11 k11 (fun _ _ _ _ _ _ us hl => match us, hl with | [_], _ => rfl)
      t_demand_rod := fnT_of X Gn a12 l12 c12 k12 (fun _ _ _ _ _ _ us hl => match us, hl with | [_, _], _ => rfl)
      t_base := fnT_of X Gn a13 l13 c13 k13 (fun _ _ _ _ _ _ us hl => match us, hl with | [_], _ => rfl)
      t_decks := fnT_of X Gn a14 l14 c14 k14 (fun _ _ _ _ _ _ us hl => match us, hl with | [_], _ => rfl)
      t_rows := fnT_of X Gn a15 l15 c15 k15 (fun _ _ _ _ _ _ us hl => match us, hl with | [_], _ => rfl)
      t_read_row := fnT_of X Gn a16 l16 c16 k16 (fun _ _ _ _ _ _ us hl => match us, hl with | [_, _], _ => rfl)
      t_is_row := fnT_of X Gn a17 l17 c17 k17 (fun _ _ _ _ _ _ us hl => match us, hl with | [_, _], _ => rfl)
      t_worth := fnT_of X Gn a18 l18 c18 k18 (fun _ _ _ _ _ _ us hl => match us, hl with | [_, _], _ => rfl)
      t_rows_worth := fnT_of X Gn a19 l19 c19 k19 (fun _ _ _ _ _ _ us hl => match us, hl with | [_, _], _ => rfl)
      t__law_dice := fnT_of X Gn a20 l20 c20 k20 (fun _ _ _ _ _ _ us hl => match us, hl with | [_, _], _ => rfl)
      t__law_roll := fnT_of X Gn a21 l21 c21 k21 (fun _ _ _ _ _ _ us hl => match us, hl with | [_, _], _ => rfl)
      t__law_pick := fnT_of X Gn a22 l22 c22 k22 (fun _ _ _ _ _ _ us hl => match us, hl with | [_, _], _ => rfl)
      t__law_bd_rods := fnT_of X Gn a23 l23 c23 k23 (fun _ _ _ _ _ _ us hl => match us, hl with | [], _ => rfl)
      t__law_bd_text := fnT_of X Gn a24 l24 c24 k24 (fun _ _ _ _ _ _ us hl => match us, hl with | [_], _ => rfl)
      t__law_bd_rows := fnT_of X Gn a25 l25 c25 k25 (fun _ _ _ _ _ _ us hl => match us, hl with | [_], _ => rfl)
      t__law_bd_worth := fnT_of X Gn a26 l26 c26 k26 (fun _ _ _ _ _ _ us hl => match us, hl with | [_, _], _ => rfl)
      t__law_wrong_word := fnT_of X Gn a27 l27 c27 k27 (fun _ _ _ _ _ _ us hl => match us, hl with | [_], _ => rfl)
      t__law_one := fnT_of X Gn a28 l28 c28 k28 (fun _ _ _ _ _ _ us hl => match us, hl with | [_], _ => rfl)
      b_abs := blt_of X Gn z_abs
      b_all := blt_of X Gn z_all
      b_bool := blt_of X Gn z_bool
      b_enumerate := blt_of X Gn z_enumerate
      b_int := blt_of X Gn z_int
      b_isinstance := blt_of X Gn z_isinstance
      b_len := blt_of X Gn z_len
      b_list := blt_of X Gn z_list
      b_max := blt_of X Gn z_max
      b_min := blt_of X Gn z_min
      b_range := blt_of X Gn z_range
      b_str := blt_of X Gn z_str
      b_sum := blt_of X Gn z_sum
      b_tuple := blt_of X Gn z_tuple
      b_zip := blt_of X Gn z_zip
      b_super := blt_of X Gn z_super
      c_DIGITS := glcS_of X Gn q_DIGITS
      c_MOST_BASE := glcI_of X Gn q_MOST_BASE
      c_MOST_BEADS := glcI_of X Gn q_MOST_BEADS
      c_MOST_DECKS := glcI_of X Gn q_MOST_DECKS
      c_MOST_STATES := glcI_of X Gn q_MOST_STATES
      c_MOST_TEXT := glcI_of X Gn q_MOST_TEXT
      c_MOST_WORTH := glcI_of X Gn q_MOST_WORTH
      f_Rod_base := fld_of (clT_of X Gn a_Rod pg_Rod hd_Rod po_Rod sa_Rod) n_Rod_base
      f_Rod_decks := fld_of (clT_of X Gn a_Rod pg_Rod hd_Rod po_Rod sa_Rod) n_Rod_decks
      f_Rod_rows := fld_of (clT_of X Gn a_Rod pg_Rod hd_Rod po_Rod sa_Rod) n_Rod_rows
      f_Rod_worths := fld_of (clT_of X Gn a_Rod pg_Rod hd_Rod po_Rod sa_Rod) n_Rod_worths
      x_BadArgument := xcT_of (st := (inClass (top 2) 0)) (y := "name") X Gn a_BadArgument lC_BadArgument rb_BadArgument sa_BadArgument ex_BadArgument ty_BadArgument kC_BadArgument iC_BadArgument lI_BadArgument cI_BadArgument lc_BadArgument v2_BadArgument hf_BadArgument lx_BadArgument cl_BadArgument mr_BadArgument z_any su_BadArgument sB_BadArgument no_BadArgument tI_BadArgument (by kernel_rfl) (by decide) (by decide) ⟨_, _, _, _, _, _, _, _, _, _, _, rfl, rfl, rfl, rfl, fun _ => rfl, fun _ => rfl⟩ rfl rfl rfl rfl rfl rfl rfl (by decide +kernel) (fun us hl => match us, hl with | [_, _], _ => rfl)
      x_BadText := xcT_of (st := (inClass (top 3) 0)) (y := "place") X Gn a_BadText lC_BadText rb_BadText sa_BadText ex_BadText ty_BadText kC_BadText iC_BadText lI_BadText cI_BadText lc_BadText v2_BadText hf_BadText lx_BadText cl_BadText mr_BadText z_any su_BadText sB_BadText no_BadText tI_BadText (by kernel_rfl) (by decide) (by decide) ⟨_, _, _, _, _, _, _, _, _, _, _, rfl, rfl, rfl, rfl, fun _ => rfl, fun _ => rfl⟩ rfl rfl rfl rfl rfl rfl rfl (by decide +kernel) (fun us hl => match us, hl with | [_, _], _ => rfl)
      e_BadText := tcT_of X Gn a_BadText ex_BadText cl_BadText ty_BadText sP_BadText ga_BadText gg_BadText hx_BadText no_BadText
      r__law_refused := refC_of (n := "e") (fd := default) (CS := 0) (fnT_of X Gn a30 l30 c30 k30 (fun _ _ _ _ _ _ us hl => match us, hl with | [_], _ => rfl)) (tcT_of X Gn a_BadArgument ex_BadArgument cl_BadArgument ty_BadArgument sP_BadArgument ga_BadArgument gg_BadArgument hx_BadArgument no_BadArgument) ⟨_, _, _, _, _, _, _, _, _, _, _, _, rfl, fun _ _ _ => rfl, fun _ _ _ => rfl⟩ ⟨rfl, rfl, rfl, by decide +kernel, rfl, by decide +kernel, by decide +kernel⟩ (.inl rfl) rfl (by decide) rfl
    }
    exact ok_law G (fun_mk l29 c29 k29) rfl (TB (cc29, PT29) (by simp)) (List.Mem.head _) hu29
end G00
set_option Elab.async false
set_option linter.all false
set_option maxRecDepth 100000
set_option maxHeartbeats 3900000
namespace L00
open PySem L2 PX G00
def DOk (n : Nat) (p : PV) : Prop := ∃ a b c : Int, p = .lst true [.int a, .int b, .int c] ∧ 0 ≤ c ∧ c ≤ n
theorem log_small {t : Int} (ht : 0 < t) (ht2 : t < 1073741824) : t.natAbs.log2 < 9000 := by
  have h : t.natAbs.log2 < 30 := (Nat.log2_lt (by omega)).mpr (by omega)
  omega
theorem roll_ok {n : Nat} {p : PV} (h : DOk n p) (hn : n < 1000000) {t : Int} (ht : 0 < t) (ht2 : t < 1073741824) : ∃ r p', d__law_roll p [.int t] = .ok (.int r, p') ∧ 0 ≤ r ∧ r < t ∧ DOk (n + 1) p' := by
  obtain ⟨a, b, c, rfl, h0, h1⟩ := h
  have hl := log_small ht ht2
  by_cases ha : 0 < a
  · refine ⟨a % t, .lst true [.int (a / t), .int b, .int c], ?_, Int.emod_nonneg _ (by omega), Int.emod_lt_of_pos _ ht, ⟨_, _, _, rfl, h0, by omega⟩⟩
    simp [d__law_roll, m__law_roll, m__law_roll_L117, m__law_roll_L118, m__law_roll_L119, m__law_roll_L116, m__law_roll_L120, m__law_roll_L121, m__law_roll_L122, finIO, startR, sSeq, sIf, tBool, eBinF, eBinN, eC, eVar, eMov, pyIx, pyGt, pyMod, pyDiv, pyInt, sSet, sStore, sRet, eB1, sNx, isOwn, frz, fz, atI, ixN, bind_ok, ha, ht, ht2, hl]
  · have hc : (c + 1).natAbs < 18446744073709551616 := by omega
    refine ⟨(b * 52501 + (c + 1) * (c + 1) * 1009 + 77) % 2147480009 / 211 % t, .lst true [.int a, .int ((b * 52501 + (c + 1) * (c + 1) * 1009 + 77) % 2147480009), .int (c + 1)], ?_, Int.emod_nonneg _ (by omega), Int.emod_lt_of_pos _ ht, ⟨_, _, _, rfl, by omega, by omega⟩⟩
    have h211 : Nat.log2 211 < 9000 := by decide
    simp [d__law_roll, m__law_roll, m__law_roll_L117, m__law_roll_L118, m__law_roll_L119, m__law_roll_L116, m__law_roll_L120, m__law_roll_L121, m__law_roll_L122, finIO, startR, sSeq, sIf, tBool, eBinF, eBinN, eC, eVar, eMov, pyIx, pyGt, pyMod, pyDiv, pyInt, pyAdd, pyMul, sSet, sStore, sRet, eB1, sNx, isOwn, frz, fz, atI, ixN, bind_ok, ha, ht, ht2, hl, hc, h211]
/-- one of so many things -/
theorem pick_ok {n : Nat} {p : PV} (h : DOk n p) (hn : n < 1000000) {xs : List PV} (h0 : 0 < xs.length) (h1 : xs.length < 1000000) (hf : ∀ x ∈ xs, fz x = true) : ∃ x p', d__law_pick p [.lst false xs] = .ok (x, p') ∧ x ∈ xs ∧ DOk (n + 1) p' := by
  obtain ⟨r, p', e, r0, r1, h'⟩ := roll_ok h hn (t := (xs.length : Int)) (by omega) (by omega)
  have hlt : r.toNat < xs.length := by omega
  have hx : atI xs r = some xs[r.toNat] := by
    unfold atI ixN
    rw [if_pos r0, if_pos r1]
    simp [hlt]
  refine ⟨xs[r.toNat], p', ?_, List.getElem_mem hlt, h'⟩
  obtain ⟨a, b, c, rfl, _, _⟩ := h'
  obtain ⟨a0, b0, c0, rfl, _, _⟩ := h
  simp [d__law_pick, m__law_pick, m__law_pick_L124, finIO, startR, sRet, eBinN, eCallIO, aCons, aNil, eB1, pyLen', eVar, frz, isOwn, bind_ok, e, pyIx, hx, hf _ (List.getElem_mem hlt)]
theorem own_of {n : Nat} {p : PV} (h : DOk n p) : isOwn p = true := by
  obtain ⟨a, b, c, rfl, _⟩ := h
  rfl
theorem pick_step {n i : Nat} {p : PV} {m : MA} {ρ ρ1 : Rho} {xs : List PV} {q : Option PV} {o : Bool} (h : DOk n p) (hn : n < 1000000) (hq : ρ[0]? = some (some p)) (hm : m ρ = .ok ([.lst false xs], ρ1)) (h2 : ρ1[0]? = some (some p)) (h0 : 0 < xs.length) (h1 : xs.length < 1000000) (hf : ∀ x ∈ xs, fz x = true) :
    ∃ x p', sSet i (eCallIO d__law_pick 0 2 m) ρ = .ok (.nx, (ρ1.set 0 (some p')).set i (some x)) ∧ x ∈ xs ∧ DOk (n + 1) p' := by
  obtain ⟨x, p', e, hx, h'⟩ := pick_ok h hn h0 h1 hf
  refine ⟨x, p', ?_, hx, h'⟩
  simp [sSet, eCallIO, hq, hm, bind_ok, h2, own_of h, e]
theorem roll_step {n i : Nat} {p : PV} {m : MA} {ρ ρ1 : Rho} {t : Int} (h : DOk n p) (hn : n < 1000000) (hq : ρ[0]? = some (some p)) (hm : m ρ = .ok ([.int t], ρ1)) (h2 : ρ1[0]? = some (some p)) (h0 : 0 < t) (h1 : t < 1073741824) :
    ∃ r p', sSet i (eCallIO d__law_roll 0 2 m) ρ = .ok (.nx, (ρ1.set 0 (some p')).set i (some (.int r))) ∧ 0 ≤ r ∧ r < t ∧ DOk (n + 1) p' := by
  obtain ⟨r, p', e, hr0, hr1, h'⟩ := roll_ok h hn h0 h1
  refine ⟨r, p', ?_, hr0, hr1, h'⟩
  simp [sSet, eCallIO, hq, hm, bind_ok, h2, own_of h, e]
structure Ent where
  r : PV
  t : Str
  rows : List PV
  ws : List Int
  own : PV
def ents : List Ent := [
  ⟨.tup [.int 10, .lst false [.tup [.int 4, .int 1], .tup [.int 1, .int 5]]], "10 4x1 1x5", [.tup [.int 0, .int 0], .tup [.int 0, .int 1], .tup [.int 1, .int 0], .tup [.int 1, .int 1], .tup [.int 2, .int 0], .tup [.int 2, .int 1], .tup [.int 3, .int 0], .tup [.int 3, .int 1], .tup [.int 4, .int 0], .tup [.int 4, .int 1]], [0, 5, 1, 6, 2, 7, 3, 8, 4, 9], .ins false "Rod" ["base", "decks", "rows", "worths"] [.int 10, .lst false [.tup [.int 4, .int 1], .tup [.int 1, .int 5]], .lst false [.tup [.int 0, .int 0], .tup [.int 0, .int 1], .tup [.int 1, .int 0], .tup [.int 1, .int 1], .tup [.int 2, .int 0], .tup [.int 2, .int 1], .tup [.int 3, .int 0], .tup [.int 3, .int 1], .tup [.int 4, .int 0], .tup [.int 4, .int 1]], .lst false [.int 0, .int 5, .int 1, .int 6, .int 2, .int 7, .int 3, .int 8, .int 4, .int 9]]⟩,
  ⟨.tup [.int 10, .lst false [.tup [.int 5, .int 1], .tup [.int 2, .int 5]]], "10 5x1 2x5", [.tup [.int 0, .int 0], .tup [.int 0, .int 1], .tup [.int 0, .int 2], .tup [.int 1, .int 0], .tup [.int 1, .int 1], .tup [.int 1, .int 2], .tup [.int 2, .int 0], .tup [.int 2, .int 1], .tup [.int 2, .int 2], .tup [.int 3, .int 0], .tup [.int 3, .int 1], .tup [.int 3, .int 2], .tup [.int 4, .int 0], .tup [.int 4, .int 1], .tup [.int 4, .int 2], .tup [.int 5, .int 0], .tup [.int 5, .int 1], .tup [.int 5, .int 2]], [0, 5, 10, 1, 6, 11, 2, 7, 12, 3, 8, 13, 4, 9, 14, 5, 10, 15], .ins false "Rod" ["base", "decks", "rows", "worths"] [.int 10, .lst false [.tup [.int 5, .int 1], .tup [.int 2, .int 5]], .lst false [.tup [.int 0, .int 0], .tup [.int 0, .int 1], .tup [.int 0, .int 2], .tup [.int 1, .int 0], .tup [.int 1, .int 1], .tup [.int 1, .int 2], .tup [.int 2, .int 0], .tup [.int 2, .int 1], .tup [.int 2, .int 2], .tup [.int 3, .int 0], .tup [.int 3, .int 1], .tup [.int 3, .int 2], .tup [.int 4, .int 0], .tup [.int 4, .int 1], .tup [.int 4, .int 2], .tup [.int 5, .int 0], .tup [.int 5, .int 1], .tup [.int 5, .int 2]], .lst false [.int 0, .int 5, .int 10, .int 1, .int 6, .int 11, .int 2, .int 7, .int 12, .int 3, .int 8, .int 13, .int 4, .int 9, .int 14, .int 5, .int 10, .int 15]]⟩,
  ⟨.tup [.int 10, .lst false [.tup [.int 10, .int 1]]], "10 10x1", [.tup [.int 0], .tup [.int 1], .tup [.int 2], .tup [.int 3], .tup [.int 4], .tup [.int 5], .tup [.int 6], .tup [.int 7], .tup [.int 8], .tup [.int 9], .tup [.int 10]], [0, 1, 2, 3, 4, 5, 6, 7, 8, 9, 10], .ins false "Rod" ["base", "decks", "rows", "worths"] [.int 10, .lst false [.tup [.int 10, .int 1]], .lst false [.tup [.int 0], .tup [.int 1], .tup [.int 2], .tup [.int 3], .tup [.int 4], .tup [.int 5], .tup [.int 6], .tup [.int 7], .tup [.int 8], .tup [.int 9], .tup [.int 10]], .lst false [.int 0, .int 1, .int 2, .int 3, .int 4, .int 5, .int 6, .int 7, .int 8, .int 9, .int 10]]⟩,
  ⟨.tup [.int 5, .lst false [.tup [.int 4, .int 1]]], "5 4x1", [.tup [.int 0], .tup [.int 1], .tup [.int 2], .tup [.int 3], .tup [.int 4]], [0, 1, 2, 3, 4], .ins false "Rod" ["base", "decks", "rows", "worths"] [.int 5, .lst false [.tup [.int 4, .int 1]], .lst false [.tup [.int 0], .tup [.int 1], .tup [.int 2], .tup [.int 3], .tup [.int 4]], .lst false [.int 0, .int 1, .int 2, .int 3, .int 4]]⟩,
  ⟨.tup [.int 4, .lst false [.tup [.int 1, .int 1], .tup [.int 1, .int 2]]], "4 1x1 1x2", [.tup [.int 0, .int 0], .tup [.int 0, .int 1], .tup [.int 1, .int 0], .tup [.int 1, .int 1]], [0, 2, 1, 3], .ins false "Rod" ["base", "decks", "rows", "worths"] [.int 4, .lst false [.tup [.int 1, .int 1], .tup [.int 1, .int 2]], .lst false [.tup [.int 0, .int 0], .tup [.int 0, .int 1], .tup [.int 1, .int 0], .tup [.int 1, .int 1]], .lst false [.int 0, .int 2, .int 1, .int 3]]⟩,
  ⟨.tup [.int 3, .lst false [.tup [.int 3, .int 1]]], "3 3x1", [.tup [.int 0], .tup [.int 1], .tup [.int 2], .tup [.int 3]], [0, 1, 2, 3], .ins false "Rod" ["base", "decks", "rows", "worths"] [.int 3, .lst false [.tup [.int 3, .int 1]], .lst false [.tup [.int 0], .tup [.int 1], .tup [.int 2], .tup [.int 3]], .lst false [.int 0, .int 1, .int 2, .int 3]]⟩,
  ⟨.tup [.int 2, .lst false [.tup [.int 1, .int 1]]], "2 1x1", [.tup [.int 0], .tup [.int 1]], [0, 1], .ins false "Rod" ["base", "decks", "rows", "worths"] [.int 2, .lst false [.tup [.int 1, .int 1]], .lst false [.tup [.int 0], .tup [.int 1]], .lst false [.int 0, .int 1]]⟩,
  ⟨.tup [.int 2, .lst false [.tup [.int 3, .int 1]]], "2 3x1", [.tup [.int 0], .tup [.int 1], .tup [.int 2], .tup [.int 3]], [0, 1, 2, 3], .ins false "Rod" ["base", "decks", "rows", "worths"] [.int 2, .lst false [.tup [.int 3, .int 1]], .lst false [.tup [.int 0], .tup [.int 1], .tup [.int 2], .tup [.int 3]], .lst false [.int 0, .int 1, .int 2, .int 3]]⟩,
  ⟨.tup [.int 6, .lst false [.tup [.int 2, .int 1], .tup [.int 1, .int 3]]], "6 2x1 1x3", [.tup [.int 0, .int 0], .tup [.int 0, .int 1], .tup [.int 1, .int 0], .tup [.int 1, .int 1], .tup [.int 2, .int 0], .tup [.int 2, .int 1]], [0, 3, 1, 4, 2, 5], .ins false "Rod" ["base", "decks", "rows", "worths"] [.int 6, .lst false [.tup [.int 2, .int 1], .tup [.int 1, .int 3]], .lst false [.tup [.int 0, .int 0], .tup [.int 0, .int 1], .tup [.int 1, .int 0], .tup [.int 1, .int 1], .tup [.int 2, .int 0], .tup [.int 2, .int 1]], .lst false [.int 0, .int 3, .int 1, .int 4, .int 2, .int 5]]⟩,
  ⟨.tup [.int 4, .lst false [.tup [.int 5, .int 1]]], "4 5x1", [.tup [.int 0], .tup [.int 1], .tup [.int 2], .tup [.int 3], .tup [.int 4], .tup [.int 5]], [0, 1, 2, 3, 4, 5], .ins false "Rod" ["base", "decks", "rows", "worths"] [.int 4, .lst false [.tup [.int 5, .int 1]], .lst false [.tup [.int 0], .tup [.int 1], .tup [.int 2], .tup [.int 3], .tup [.int 4], .tup [.int 5]], .lst false [.int 0, .int 1, .int 2, .int 3, .int 4, .int 5]]⟩,
  ⟨.tup [.int 10, .lst false [.tup [.int 1, .int 1], .tup [.int 2, .int 2], .tup [.int 1, .int 5]]], "10 1x1 2x2 1x5", [.tup [.int 0, .int 0, .int 0], .tup [.int 0, .int 0, .int 1], .tup [.int 0, .int 1, .int 0], .tup [.int 0, .int 1, .int 1], .tup [.int 0, .int 2, .int 0], .tup [.int 0, .int 2, .int 1], .tup [.int 1, .int 0, .int 0], .tup [.int 1, .int 0, .int 1], .tup [.int 1, .int 1, .int 0], .tup [.int 1, .int 1, .int 1], .tup [.int 1, .int 2, .int 0], .tup [.int 1, .int 2, .int 1]], [0, 5, 2, 7, 4, 9, 1, 6, 3, 8, 5, 10], .ins false "Rod" ["base", "decks", "rows", "worths"] [.int 10, .lst false [.tup [.int 1, .int 1], .tup [.int 2, .int 2], .tup [.int 1, .int 5]], .lst false [.tup [.int 0, .int 0, .int 0], .tup [.int 0, .int 0, .int 1], .tup [.int 0, .int 1, .int 0], .tup [.int 0, .int 1, .int 1], .tup [.int 0, .int 2, .int 0], .tup [.int 0, .int 2, .int 1], .tup [.int 1, .int 0, .int 0], .tup [.int 1, .int 0, .int 1], .tup [.int 1, .int 1, .int 0], .tup [.int 1, .int 1, .int 1], .tup [.int 1, .int 2, .int 0], .tup [.int 1, .int 2, .int 1]], .lst false [.int 0, .int 5, .int 2, .int 7, .int 4, .int 9, .int 1, .int 6, .int 3, .int 8, .int 5, .int 10]]⟩,
  ⟨.tup [.int 3, .lst false [.tup [.int 1, .int 2], .tup [.int 1, .int 1], .tup [.int 1, .int 3]]], "3 1x2 1x1 1x3", [.tup [.int 0, .int 0, .int 0], .tup [.int 0, .int 0, .int 1], .tup [.int 0, .int 1, .int 0], .tup [.int 0, .int 1, .int 1], .tup [.int 1, .int 0, .int 0], .tup [.int 1, .int 0, .int 1], .tup [.int 1, .int 1, .int 0], .tup [.int 1, .int 1, .int 1]], [0, 3, 1, 4, 2, 5, 3, 6], .ins false "Rod" ["base", "decks", "rows", "worths"] [.int 3, .lst false [.tup [.int 1, .int 2], .tup [.int 1, .int 1], .tup [.int 1, .int 3]], .lst false [.tup [.int 0, .int 0, .int 0], .tup [.int 0, .int 0, .int 1], .tup [.int 0, .int 1, .int 0], .tup [.int 0, .int 1, .int 1], .tup [.int 1, .int 0, .int 0], .tup [.int 1, .int 0, .int 1], .tup [.int 1, .int 1, .int 0], .tup [.int 1, .int 1, .int 1]], .lst false [.int 0, .int 3, .int 1, .int 4, .int 2, .int 5, .int 3, .int 6]]⟩]
theorem f1 : d__law_bd_rods [] = .ok (.lst true (ents.map (·.r))) := by kernel_rfl
theorem f2 : (ents.map fun e => d__law_bd_text [e.r]) = ents.map fun e => .ok (.str e.t) := by kernel_rfl
theorem f3 : (ents.map fun e => d__law_bd_rows [e.r]) = ents.map fun e => .ok (.lst false e.rows) := by kernel_rfl
theorem f4 : (ents.map fun e => d_demand_rod [.str e.t, .str "rod"]) = ents.map fun e => .ok e.own := by kernel_rfl
end L00
set_option Elab.async false
set_option linter.all false
set_option maxRecDepth 100000
set_option maxHeartbeats 3900000
namespace L00
open PySem L2 PX G00
def kIsRow (e : Ent) (v : PV) : R PV := fin (m_is_row_L92 [some (.str e.t), some v, some e.own])
def kWorth (e : Ent) (v : PV) : R PV := fin ((sSeq m_worth_L102 m_worth_L103) [some (.str e.t), some v, some e.own, none])
def kRW (e : Ent) (k : Int) : R PV := fin ((sSeq m_rows_worth_L106 m_rows_worth_L107) [some (.str e.t), some (.int k), some e.own, none, none])
theorem is_row_eq {e : Ent} {v : PV} (h : d_demand_rod [.str e.t, .str "rod"] = .ok e.own) : d_is_row [.str e.t, v] = kIsRow e v := by
  unfold d_is_row m_is_row kIsRow
  rw [seq_nx (ρ1 := [some (.str e.t), some v, some e.own]) (by simp [m_is_row_L91, sSet, eCall, aCons, aNil, eMov, eC, startR, frz, h, bind_ok])]
theorem worth_eq {e : Ent} {v : PV} (h : d_demand_rod [.str e.t, .str "rod"] = .ok e.own) : d_worth [.str e.t, v] = kWorth e v := by
  unfold d_worth m_worth kWorth
  rw [seq_nx (ρ1 := [some (.str e.t), some v, some e.own, none]) (by simp [m_worth_L101, sSet, eCall, aCons, aNil, eMov, eC, startR, frz, h, bind_ok])]
theorem rw_eq {e : Ent} {k : Int} (h : d_demand_rod [.str e.t, .str "rod"] = .ok e.own) : d_rows_worth [.str e.t, .int k] = kRW e k := by
  unfold d_rows_worth m_rows_worth kRW
  rw [seq_nx (ρ1 := [some (.str e.t), some (.int k), some e.own, none, none]) (by simp [m_rows_worth_L105, sSet, eCall, aCons, aNil, eMov, eC, startR, frz, h, bind_ok])]
def wrongs : PV → List PV
  | .tup xs => [.tup (xs ++ [.int 0]), .tup xs.tail, .lst false xs, .tup ((match xs with | .int i :: _ => .int (i - 20) | _ => .non) :: xs.tail), .tup (xs.dropLast ++ [.int 99]), .tup (xs.dropLast ++ [.bl true]), .non]
  | _ => []
def okInt : R PV → Bool
  | .ok (.int _) => true
  | _ => false
theorem okInt_of {r : R PV} (h : okInt r = true) : ∃ i, r = .ok (.int i) := by
  unfold okInt at h
  split at h
  · exact ⟨_, rfl⟩
  · cases h
theorem g1 : (ents.map fun e => e.rows.map fun row => kIsRow e row) = ents.map fun e => e.rows.map fun _ => .ok (.bl true) := by kernel_rfl
theorem g2 : (ents.map fun e => e.rows.map fun row => kWorth e row) = ents.map fun e => e.rows.map fun row => d__law_bd_worth [e.r, row] := by kernel_rfl
theorem g3 : (ents.map fun e => e.rows.map fun row => okInt (d__law_bd_worth [e.r, row])) = ents.map fun e => e.rows.map fun _ => true := by kernel_rfl
theorem g4 : (ents.map fun e => e.rows.map fun row => (wrongs row).map fun v => kIsRow e v) = ents.map fun e => e.rows.map fun row => (wrongs row).map fun _ => .ok (.bl false) := by kernel_rfl
theorem g5 : (ents.map fun e => e.rows.map fun row => (wrongs row).map fun v => kWorth e v) = ents.map fun e => e.rows.map fun row => (wrongs row).map fun _ => .ok .non := by kernel_rfl
theorem g6 : (ents.map fun e => fzL e.rows && fz e.r && decide (0 < e.rows.length) && decide (e.rows.length < 1000000)) = ents.map fun _ => true := by kernel_rfl
theorem g7 : (ents.map fun e => e.rows.map fun row => fzL (wrongs row) && decide ((wrongs row).length = 7)) = ents.map fun e => e.rows.map fun _ => true := by kernel_rfl
end L00
set_option Elab.async false
set_option linter.all false
set_option maxRecDepth 100000
set_option maxHeartbeats 3900000
namespace L00
open PySem L2 PX G00
def mW : MA := (aCons (eLst (aCons (eBinN pyAdd 9 (eTup (aCons (eC (.int 0)) aNil))) (aCons (eSliN 9 (oSome (eC (.int 1))) oNo) (aCons (eB1 pyList (eVar 9)) (aCons (eBinF pyAdd (eTup (aCons (eBinF pySub (eBinN pyIx 9 (eC (.int 0))) (eC (.int 20))) aNil)) (eSliN 9 (oSome (eC (.int 1))) oNo)) (aCons (eBinF pyAdd (eSliN 9 oNo (oSome (eNeg (eC (.int 1))))) (eTup (aCons (eC (.int 99)) aNil))) (aCons (eBinF pyAdd (eSliN 9 oNo (oSome (eNeg (eC (.int 1))))) (eTup (aCons (eC (.bl true)) aNil))) (aCons (eC .non) aNil)))))))) aNil)
def mSp : MA := (aCons (eLst (aCons (eC (.str "")) (aCons (eC (.str "x")) (aCons (eC (.str "0x1")) (aCons (eC (.str "1x0")) (aCons (eC (.str "01x1")) (aCons (eC (.str "11x1")) (aCons (eC (.str "1x21")) (aCons (eC (.str "1x1x1")) (aCons (eC (.str "1X1")) (aCons (eC (.str "a")) (aCons (eC (.str "-1x1")) (aCons (eC (.str "1x")) (aCons (eC (.str "21")) (aCons (eC (.str "1")) aNil))))))))))))))) aNil)
def mCp : ME := eB1 pyTuple (eComp [9] (itSeq (eMov 8)) (bName 9) (tBool (eBinF pyEq (eCall d__law_bd_worth 2 (aCons (eMov 1) (aCons (eMov 9) aNil))) (eVar 3))) (eMov 9))
def S (p : PV) (e : Ent) (s2 s3 s4 s5 s6 : Option PV) (o : Bool) (s9 s10 : Option PV) : Rho := [some p, some e.r, s2, s3, s4, s5, s6, some (.str e.t), some (.lst o e.rows), s9, s10]
theorem e4 {e : Ent} (he : e ∈ ents) : d_demand_rod [.str e.t, .str "rod"] = .ok e.own := map_all f4 he
theorem a1 (p : PV) : (ents.map fun e => m__law_one_L147 [some p, some e.r, none, none, none, none, none, none, none, none, none]) = ents.map fun e => .ok (.nx, S p e none none none none none false none none) := by kernel_rfl
theorem a2 (p : PV) : (ents.map fun e => m__law_one_L148 (S p e none none none none none false none none)) = ents.map fun e => .ok (.nx, S p e none none none none none false none none) := by kernel_rfl
theorem a3 (p : PV) (s2 s3 s4 s5 s6 s10 : Option PV) : (ents.map fun e => e.rows.map fun row => mW (S p e s2 s3 s4 s5 s6 false (some row) s10)) = ents.map fun e => e.rows.map fun row => .ok ([.lst false (wrongs row)], S p e s2 s3 s4 s5 s6 false (some row) s10) := by kernel_rfl
end L00
set_option Elab.async false
set_option linter.all false
set_option maxRecDepth 100000
set_option maxHeartbeats 3900000
namespace L00
open PySem L2 PX G00
theorem bits {e : Ent} (he : e ∈ ents) : fzL e.rows = true ∧ fz e.r = true ∧ 0 < e.rows.length ∧ e.rows.length < 1000000 := by
  have h := map_all g6 he
  simp only [Bool.and_eq_true,
      decide_eq_true_eq] at h
  exact ⟨h.1.1.1, h.1.1.2, h.1.2, h.2⟩
theorem row1 {e : Ent} (he : e ∈ ents) {row : PV} (hr : row ∈ e.rows) : ∃ w, d_is_row [.str e.t, row] = .ok (.bl true) ∧ d_worth [.str e.t, row] = .ok (.int w) ∧ d__law_bd_worth [e.r, row] = .ok (.int w) := by
  obtain ⟨w, hw⟩ := okInt_of (map_all (map_all g3 he) hr)
  refine ⟨w, ?_, ?_, hw⟩
  · rw [is_row_eq (e4 he)]
    exact map_all (map_all g1 he) hr
  · rw [worth_eq (e4 he), map_all (map_all g2 he) hr]
    exact hw
theorem row2 {e : Ent} (he : e ∈ ents) {row : PV} (hr : row ∈ e.rows) {v : PV} (hv : v ∈ wrongs row) : d_is_row [.str e.t, v] = .ok (.bl false) ∧ d_worth [.str e.t, v] = .ok .non := by
  refine ⟨?_, ?_⟩
  · rw [is_row_eq (e4 he)]
    exact map_all (map_all (map_all g4 he) hr) hv
  · rw [worth_eq (e4 he)]
    exact map_all (map_all (map_all g5 he) hr) hv
theorem row3 {e : Ent} (he : e ∈ ents) {row : PV} (hr : row ∈ e.rows) : fzL (wrongs row) = true ∧ (wrongs row).length = 7 := by
  have h := map_all (map_all g7 he) hr
  simp only [Bool.and_eq_true,
      decide_eq_true_eq] at h
  exact h
section
variable {e : Ent} {p row v : PV} {s2 s3 s4 s5 s6 s9 s10 : Option PV} {n : Nat}
theorem l152 (he : e ∈ ents) (hr : row ∈ e.rows) : m__law_one_L152 (S p e s2 s3 s4 s5 s6 false (some row) s10) = .ok (.nx, S p e s2 s3 s4 s5 s6 false (some row) s10) := by
  obtain ⟨w, h1, h2, h3⟩ := row1 he hr
  have hf := fz_frz (fzL_mem (bits he).1 _ hr)
  have hg := fz_frz (bits he).2.1
  simp [m__law_one_L152, S, sIf, tNt, tAn, tTru, tBool, eBinF, eCall, aCons, aNil, eMov, bind_ok, frz, hf, hg, h1, h2, h3, pyTru, pyEq_int, sNx]
theorem l155 (he : e ∈ ents) (hr : row ∈ e.rows) (hv : v ∈ wrongs row) : m__law_one_L155 (S p e s2 s3 s4 s5 s6 false s9 (some v)) = .ok (.nx, S p e s2 s3 s4 s5 s6 false s9 (some v)) := by
  obtain ⟨h1, h2⟩ := row2 he hr hv
  have hf := fz_frz (fzL_mem (row3 he hr).1 _ hv)
  simp [m__law_one_L155, S, sIf, tNt, tAn, tTru, tBool, eBinF, eCall, aCons, aNil, eMov, eC, bind_ok, frz, hf, h1, h2, pyTru, pyIs, isNon, sNx]
theorem turn1 (he : e ∈ ents) (h : DOk n p) (hn : n < 900000) : ∃ p' row v, m__law_one_B150 (S p e s2 s3 s4 s5 s6 false s9 s10) = .ok (.nx, S p' e s2 s3 s4 s5 s6 false (some row) (some v)) ∧ DOk (n + 2) p' ∧ row ∈ e.rows := by
  obtain ⟨b1, b2, b3, b4⟩ := bits he
  obtain ⟨row, p1, e1, hr, h1⟩ := pick_step (i := 9) (m := aCons (eMov 8) aNil) (ρ := S p e s2 s3 s4 s5 s6 false s9 s10) (ρ1 := S p e s2 s3 s4 s5 s6 false s9 s10) (xs := e.rows) (q := none) (o := true) h (by omega) rfl (by simp [S, aCons, eMov, aNil, bind_ok, frz, fzL_frzL b1]) rfl b3 b4 (fzL_mem b1)
  obtain ⟨w1, w2⟩ := row3 he hr
  obtain ⟨v, p2, e2, hv, h2⟩ := pick_step (i := 10) (m := mW) (ρ := S p1 e s2 s3 s4 s5 s6 false (some row) s10) (ρ1 := S p1 e s2 s3 s4 s5 s6 false (some row) s10) (xs := wrongs row) (q := none) (o := true) h1 (by omega) rfl (map_all (map_all (a3 p1 s2 s3 s4 s5 s6 s10) he) hr) rfl (by omega) (by omega) (fzL_mem w1)
  refine ⟨p2, row, v, ?_, h2, hr⟩
  unfold m__law_one_B150
  rw [seq_nx (m := m__law_one_L151) (ρ1 := S p1 e s2 s3 s4 s5 s6 false (some row) s10) e1, seq_nx (l152 he hr), seq_nx (m := m__law_one_L154) (ρ1 := S p2 e s2 s3 s4 s5 s6 false (some row) (some v)) e2]
  exact l155 he hr hv
theorem forM_one {b : PV → Rho → R Rho} {body : MS} {x : PV} {xs : List PV} {ρ ρ1 ρ2 : Rho} (e1 : b x ρ = .ok ρ1) (e2 : body ρ1 = .ok (.nx, ρ2)) : PX.forM b body (x :: xs) ρ = PX.forM b body xs ρ2 := by
  conv => lhs; unfold PX.forM
  rw [e1]
  show (body ρ1 >>= _) = _
  rw [e2, bind_ok]
theorem l150 (he : e ∈ ents) (h : DOk n p) (hn : n < 800000) : ∃ p' t9 t10 t2, m__law_one_L150 (S p e s2 s3 s4 s5 s6 false s9 s10) = .ok (.nx, S p' e t2 s3 s4 s5 s6 false t9 t10) ∧ DOk (n + 8) p' := by
  obtain ⟨p1, r1, v1, e1, h1, _⟩ := turn1 (s2 := some (.int 0)) (s3 := s3) (s4 := s4) (s5 := s5) (s6 := s6) (s9 := s9) (s10 := s10) he h (by omega)
  obtain ⟨p2, r2, v2, e2, h2, _⟩ := turn1 (s2 := some (.int 1)) (s3 := s3) (s4 := s4) (s5 := s5) (s6 := s6) (s9 := some r1) (s10 := some v1) he h1 (by omega)
  obtain ⟨p3, r3, v3, e3, h3, _⟩ := turn1 (s2 := some (.int 2)) (s3 := s3) (s4 := s4) (s5 := s5) (s6 := s6) (s9 := some r2) (s10 := some v2) he h2 (by omega)
  obtain ⟨p4, r4, v4, e4, h4, _⟩ := turn1 (s2 := some (.int 3)) (s3 := s3) (s4 := s4) (s5 := s5) (s6 := s6) (s9 := some r3) (s10 := some v3) he h3 (by omega)
  refine ⟨p4, some r4, some v4, some (.int 3), ?_, h4⟩
  show PX.forM (bName 2) m__law_one_B150 [.int 0, .int 1, .int 2, .int 3] (S p e s2 s3 s4 s5 s6 false s9 s10) = _
  rw [forM_one (b := bName 2) rfl e1, forM_one (b := bName 2) rfl e2, forM_one (b := bName 2) rfl e3, forM_one (b := bName 2) rfl e4]
  rfl
end
end L00
set_option Elab.async false
set_option linter.all false
set_option maxRecDepth 100000
set_option maxHeartbeats 3900000
namespace L00
open PySem L2 PX G00
def ks : List Int := (List.range 25).map Int.ofNat
theorem ks_mem {k : Int} (h0 : 0 ≤ k) (h1 : k < 25) : k ∈ ks := List.mem_map.mpr ⟨k.toNat, List.mem_range.mpr (by omega), by simp; omega⟩
def rwL (e : Ent) (k : Int) : PV := .tup (((e.rows.zip e.ws).filter fun x => x.2 == k).map (·.1))
theorem c1 : (ents.map fun e => ks.map fun k => kRW e k) = ents.map fun e => ks.map fun k => .ok (rwL e k) := by kernel_rfl
theorem c2 (p : PV) (s2 s9 s10 : Option PV) : (ents.map fun e => ks.map fun k => mCp (S p e s2 (some (.int k)) none none none false s9 s10)) = ents.map fun e => ks.map fun k => .ok (rwL e k, S p e s2 (some (.int k)) none none none false (keepP (some s9)) s10) := by kernel_rfl
theorem c3 : (ents.map fun e => ks.map fun k => pyEq (rwL e k) (rwL e k)) = ents.map fun e => ks.map fun _ => .ok (.bl true) := by kernel_rfl
theorem c4 : (ents.map fun e => ks.map fun k => fz (rwL e k)) = ents.map fun e => ks.map fun _ => true := by kernel_rfl
end L00
set_option Elab.async false
set_option linter.all false
set_option maxRecDepth 100000
set_option maxHeartbeats 3900000
namespace L00
open PySem L2 PX G00
def wd (e : Ent) : List PV := (Txt.split e.t " ").map .str
def sps : List PV := [.str "", .str "x", .str "0x1", .str "1x0", .str "01x1", .str "11x1", .str "1x21", .str "1x1x1", .str "1X1", .str "a", .str "-1x1", .str "1x", .str "21", .str "1"]
def ats (e : Ent) : List Int := (List.range (wd e).length).map Int.ofNat
def jn (e : Ent) (a : Int) (s : PV) : PV := match pyJoin (.str " ") (.lst true ((wd e).set a.toNat s)) with
  | .ok v => v
  | _ => .non
theorem t1 : (ents.map fun e => pySplit (.str e.t) (.str " ")) = ents.map fun e => .ok (.lst true (wd e)) := by kernel_rfl
theorem t2 : (ents.map fun e => decide (0 < (wd e).length) && decide ((wd e).length < 1000) && fzL (wd e)) = ents.map fun e => true := by kernel_rfl
theorem t3 : ((ents).map fun e => (ats e).map fun a => sps.map fun s => d__law_wrong_word [jn e a s]) = (ents).map fun e => (ats e).map fun a => sps.map fun _ => .ok (.int a) := by kernel_rfl
end L00
set_option Elab.async false
set_option linter.all false
set_option maxRecDepth 100000
set_option maxHeartbeats 3900000
namespace L00
open PySem L2 PX G00
def w34 (r : R PV) : Bool := match r with
  | .ok (.int 3) => true
  | .ok (.int 4) => true
  | _ => false
theorem w34_of {r : R PV} (h : w34 r = true) : ∃ i, r = .ok (.int i) ∧ (i = 3 ∨ i = 4) := by
  unfold w34 at h
  split at h
  · exact ⟨_, rfl, .inl rfl⟩
  · exact ⟨_, rfl, .inr rfl⟩
  · cases h
def ex (e : Ent) (s : Str) : PV := match pyAdd (.str e.t) (.str s) with
  | .ok v => v
  | _ => .non
theorem u1 : (ents.map fun e => pyAdd (.str e.t) (.str " 1x1 1x1 1x1")) = ents.map fun e => .ok (ex e " 1x1 1x1 1x1") := by kernel_rfl
theorem u2 : (ents.map fun e => pyAdd (.str e.t) (.str " ")) = ents.map fun e => .ok (ex e " ") := by kernel_rfl
theorem u3 : (ents.map fun e => w34 (d__law_wrong_word [ex e " 1x1 1x1 1x1"])) = ents.map fun e => true := by kernel_rfl
theorem u4 : (ents.map fun e => d__law_wrong_word [ex e " "]) = ents.map fun e => .ok (.int (wd e).length) := by kernel_rfl
theorem u5 : (ents.map fun e => (ats e).map fun a => sps.map fun s => pyJoin (.str " ") (.lst true ((wd e).set a.toNat s))) = ents.map fun e => (ats e).map fun a => sps.map fun s => .ok (jn e a s) := by kernel_rfl
theorem u6 : (ents.map fun e => fz (ex e " ") && fz (ex e " 1x1 1x1 1x1")) = ents.map fun e => true := by kernel_rfl
theorem u7 : (ents.map fun e => (ats e).map fun a => sps.map fun s => fz (jn e a s)) = ents.map fun e => (ats e).map fun a => sps.map fun _ => true := by kernel_rfl
theorem u8 (ρ : Rho) : mSp ρ = .ok ([.lst false sps], ρ) := by kernel_rfl
theorem u9 : fzL sps = true ∧ sps.length = 14 := by
  constructor <;> kernel_rfl
theorem i34 : pyIn (.int 3) (.tup [.int 3, .int 4]) = .ok (.bl true) := by kernel_rfl
theorem i44 : pyIn (.int 4) (.tup [.int 3, .int 4]) = .ok (.bl true) := by kernel_rfl
section
variable {e : Ent} {p row v s : PV} {s2 s3 s5 s6 s9 s10 : Option PV} {n : Nat} {k a : Int}
theorem l158 (he : e ∈ ents) (hk : k ∈ ks) : m__law_one_L158 (S p e s2 (some (.int k)) none none none false s9 s10) = .ok (.nx, S p e s2 (some (.int k)) none none none false (keepP (some s9)) s10) := by
  have h1 := map_all (map_all c1 he) hk
  have h2 := map_all (map_all (c2 p s2 s9 s10) he) hk
  have h3 := map_all (map_all c3 he) hk
  have h4 := fz_frz (map_all (map_all c4 he) hk)
  have h5 := rw_eq (k := k) (e4 he)
  rw [h1] at h5
  have h6 : eCall d_rows_worth 2 (aCons (eMov 7) (aCons (eMov 3) aNil)) (S p e s2 (some (.int k)) none none none false s9 s10) = .ok (rwL e k, S p e s2 (some (.int k)) none none none false s9 s10) := by
    simp [S, eCall, aCons, aNil, eMov, bind_ok, frz, h5]
  show sIf (tNt (tBool (eBinF pyEq (eCall d_rows_worth 2 (aCons (eMov 7) (aCons (eMov 3) aNil))) mCp))) m__law_one_L159 sNx _ = _
  simp only [sIf, tNt, tBool, eBinF, h6, h2, bind_ok, h3, h4, sNx, Bool.not_true, Bool.false_eq_true, if_false]
theorem l164 (he : e ∈ ents) (ha : a ∈ ats e) (hs : s ∈ sps) : m__law_one_L164 [some p, some e.r, s2, s3, some (.lst true ((wd e).set a.toNat s)), some (.int a), s6, some (.str e.t), some (.lst false e.rows), s9, s10] = .ok (.nx, [some p, some e.r, s2, s3, some (.lst true ((wd e).set a.toNat s)), some (.int a), s6, some (.str e.t), some (.lst false e.rows), s9, s10]) := by
  have h1 := map_all (map_all (map_all u5 he) ha) hs
  have h2 := map_all (map_all (map_all t3 he) ha) hs
  have h3 := fz_frz (map_all (map_all (map_all u7 he) ha) hs)
  simp [m__law_one_L164, sIf, tNt, tBool, eBinF, eCall, aCons, aNil, eM1, eC, eVar, isStr, fz, h1, h2, h3, bind_ok, frz, pyEq_int, sNx]
theorem l166 (he : e ∈ ents) {xs : List PV} (hx : xs.length = (wd e).length) : m__law_one_L166 (S p e s2 s3 (some (.lst true xs)) s5 s6 false s9 s10) = .ok (.nx, S p e s2 s3 (some (.lst true xs)) s5 s6 false s9 s10) := by
  have h1 := map_all u1 he
  have h2 := map_all u2 he
  obtain ⟨i, h3, hi⟩ := w34_of (map_all u3 he)
  have h4 := map_all u4 he
  have h5 := map_all u6 he
  simp only [Bool.and_eq_true] at h5
  have h6 := fz_frz h5.1
  have h7 := fz_frz h5.2
  have h8 : pyIn (.int i) (.tup [.int 3, .int 4]) = .ok (.bl true) := by
    rcases hi with rfl | rfl
    · exact i34
    · exact i44
  have hz : 2 ≤ sizeLine := by decide
  simp [m__law_one_L166, S, sIf, tNt, tAn, tBool, eBinF, eBinN, eB1, eCall, aCons, aNil, eTup, eC, eVar, h1, h2, h3, h4, h6, h7, h8, bind_ok, frz, hz, pyEq_int, sNx, pyLen', hx]
end
end L00
set_option Elab.async false
set_option linter.all false
set_option maxRecDepth 100000
set_option maxHeartbeats 3900000
namespace L00
open PySem L2 PX G00
theorem f1z : fzL (ents.map (·.r)) = true ∧ (ents.map (·.r)).length = 12 := by
  constructor <;> kernel_rfl
theorem ats_mem {e : Ent} {a : Int} (h0 : 0 ≤ a) (h1 : a < (wd e).length) : a ∈ ats e := List.mem_map.mpr ⟨a.toNat, List.mem_range.mpr (by omega), by simp; omega⟩
theorem one_ok {p : PV} (h : DOk 0 p) : ∃ p', d__law_one p [] = .ok (.bl true, p') := by
  obtain ⟨x, p1, e1, hx, h1⟩ := pick_step (i := 1) (m := aCons (eCall0 d__law_bd_rods) aNil) (ρ := startR 11 [p]) (ρ1 := startR 11 [p]) (xs := ents.map (·.r)) (q := none) (o := true) h (by omega) rfl (by simp [aCons, eCall0, f1, aNil, bind_ok, frz, fzL_frzL f1z.1]) rfl (by rw [f1z.2]; omega) (by rw [f1z.2]; omega) (fzL_mem f1z.1)
  obtain ⟨e, he, rfl⟩ := List.mem_map.mp hx
  have e2 := map_all (a1 p1) he
  have e3 := map_all (a2 p1) he
  obtain ⟨p2, t9, t10, t2', e5, h2⟩ := l150 (s2 := none) (s3 := none) (s4 := none) (s5 := none) (s6 := none) (s9 := none) (s10 := none) he h1 (by omega)
  obtain ⟨k, p3, e6, k0, k1, h3⟩ := roll_step (i := 3) (m := aCons (eC (.int 25)) aNil) (ρ := S p2 e t2' none none none none false t9 t10) (ρ1 := S p2 e t2' none none none none false t9 t10) (t := 25) h2 (by omega) rfl rfl rfl (by omega) (by omega)
  have e7 := l158 (p := p3) (s2 := t2') (s9 := t9) (s10 := t10) he (ks_mem k0 k1)
  have e8 : m__law_one_L160 (S p3 e t2' (some (.int k)) none none none false (keepP (some t9)) t10) = .ok (.nx, S p3 e t2' (some (.int k)) (some (.lst true (wd e))) none none false (keepP (some t9)) t10) := by
    simp [m__law_one_L160, S, sSet, eM1, eVar, eC, bind_ok, isStr, fz, map_all t1 he]
  have b := map_all t2 he
  simp only [Bool.and_eq_true, decide_eq_true_eq] at b
  obtain ⟨⟨b1, b2⟩, b3⟩ := b
  obtain ⟨a, p4, e9, q0, q1, h4⟩ := roll_step (i := 5) (m := aCons (eB1 pyLen' (eVar 4)) aNil) (ρ := S p3 e t2' (some (.int k)) (some (.lst true (wd e))) none none false (keepP (some t9)) t10) (ρ1 := S p3 e t2' (some (.int k)) (some (.lst true (wd e))) none none false (keepP (some t9)) t10) (t := (wd e).length) h3 (by omega) rfl rfl rfl (by omega) (by omega)
  obtain ⟨s, p5, e10, hs, h5⟩ := pick_step (i := 6) (m := mSp) (ρ := S p4 e t2' (some (.int k)) (some (.lst true (wd e))) (some (.int a)) none false (keepP (some t9)) t10) (ρ1 := S p4 e t2' (some (.int k)) (some (.lst true (wd e))) (some (.int a)) none false (keepP (some t9)) t10) (xs := sps) (q := none) (o := true) h4 (by omega) rfl (u8 _) rfl (by rw [u9.2]; omega) (by rw [u9.2]; omega) (fzL_mem u9.1)
  have e11 : m__law_one_L163 (S p5 e t2' (some (.int k)) (some (.lst true (wd e))) (some (.int a)) (some s) false (keepP (some t9)) t10) = .ok (.nx, S p5 e t2' (some (.int k)) (some (.lst true ((wd e).set a.toNat s))) (some (.int a)) (some s) false (keepP (some t9)) t10) := by
    have hi : ixN (wd e).length a = some a.toNat := by
      unfold ixN
      rw [if_pos q0, if_pos q1]
    have hf := fz_frz (fzL_mem u9.1 _ hs)
    simp [m__law_one_L163, S, sStore, eMov, eVar, bind_ok, hf, hi]
  have e12 := l164 (p := p5) (s2 := t2') (s3 := some (.int k)) (s6 := some s) (s9 := keepP (some t9)) (s10 := t10) he (ats_mem q0 q1) hs
  have e13 := l166 (p := p5) (s2 := t2') (s3 := some (.int k)) (s5 := some (.int a)) (s6 := some s) (s9 := keepP (some t9)) (s10 := t10) (xs := (wd e).set a.toNat s) he (by simp)
  refine ⟨p5, ?_⟩
  have hh : m__law_one (startR 11 [p]) = .ok (.rt (.bl true), S p5 e t2' (some (.int k)) (some (.lst true ((wd e).set a.toNat s))) (some (.int a)) (some s) false (keepP (some t9)) t10) := by
    unfold m__law_one
    rw [seq_nx (m := m__law_one_L146) (ρ1 := [some p1, some e.r, none, none, none, none, none, none, none, none, none]) e1, seq_nx e2, seq_nx e3, seq_nx e5, seq_nx (m := m__law_one_L157) (ρ1 := S p3 e t2' (some (.int k)) none none none false t9 t10) e6, seq_nx e7, seq_nx e8, seq_nx (m := m__law_one_L161) (ρ1 := S p4 e t2' (some (.int k)) (some (.lst true (wd e))) (some (.int a)) none false (keepP (some t9)) t10) e9, seq_nx (m := m__law_one_L162) (ρ1 := S p5 e t2' (some (.int k)) (some (.lst true (wd e))) (some (.int a)) (some s) false (keepP (some t9)) t10) e10, seq_nx e11, seq_nx (m := m__law_one_L164) (ρ := S p5 e t2' (some (.int k)) (some (.lst true ((wd e).set a.toNat s))) (some (.int a)) (some s) false (keepP (some t9)) t10) (ρ1 := S p5 e t2' (some (.int k)) (some (.lst true ((wd e).set a.toNat s))) (some (.int a)) (some s) false (keepP (some t9)) t10) e12, seq_nx e13]
    rfl
  show finIO (m__law_one (startR 11 [p])) = _
  rw [hh]
  show (if isOwn p5 = true then _ else _) = _
  rw [if_pos (own_of h5)]
/-- the dice -/
theorem dice_ok {ns : List Int} (hl : ns.length ≤ 63) {spot : Int} (h0 : 0 ≤ spot) (h3 : spot < 3) : ∃ a b : Int, d__law_dice [.scr (ns.map .int), .int spot] = .ok (.lst true [.int a, .int b, .int 0]) := by
  have hz : fzL (ns.map PV.int) = true := fzL_of fun x hx => by
    obtain ⟨z, _, rfl⟩ := List.mem_map.mp hx
    rfl
  have hsz : 100 ≤ sizeLine := by decide
  obtain ⟨own, e1⟩ : ∃ own : Int, m__law_dice_L110 (startR 5 [.scr (ns.map .int), .int spot]) = .ok (.nx, [some (.scr (ns.map .int)), some (.int spot), some (.int own), none, none]) := by
    by_cases hs : spot < ns.length
    · have hlt : spot.toNat < ns.length := by omega
      refine ⟨ns[spot.toNat], ?_⟩
      simp [m__law_dice_L110, startR, sSet, eIf, tBool, eBinN, eB1, eVar, pyLen', bind_ok, pyLt, hs, pyIx, atI, ixN, h0, hlt]
    · refine ⟨733 * spot + 29, ?_⟩
      simp [m__law_dice_L110, startR, sSet, eIf, tBool, eBinN, eBinF, eB1, eVar, eC, pyLen', bind_ok, pyLt, hs, pyAdd, pyMul, frz]
  have e2 : m__law_dice_L111 [some (.scr (ns.map .int)), some (.int spot), some (.int own), none, none] = .ok (.nx, [some (.scr (ns.map .int)), some (.int spot), some (.int own), some (.int (910003 + 7907 * spot)), none]) := by
    simp [m__law_dice_L111, sSet, eBinF, eC, eVar, bind_ok, pyAdd, pyMul, frz]
  obtain ⟨ρ', e3, ⟨m, s4, rfl, m0, m1⟩⟩ := forM_inv (b := bName 4) (body := m__law_dice_L113) (I := fun _ ρ => ∃ (m : Int) (s4 : Option PV), ρ = [some (.scr (ns.map .int)), some (.int spot), some (.int own), some (.int m), s4] ∧ 0 ≤ m ∧ m < 2147480009) ((ns.take 6 ++ [own]).map .int) (by
    rintro i x ρ hx ⟨m, s4, rfl, m0, m1⟩
    obtain ⟨z, _, rfl⟩ := List.mem_map.mp hx
    have hm : m.natAbs < 18446744073709551616 := by omega
    refine ⟨_, _, rfl, ?_, ⟨(m * 48271 + z % 2147480009) % 2147480009, some (.int z), rfl, Int.emod_nonneg _ (by omega), Int.emod_lt_of_pos _ (by omega)⟩⟩
    simp [m__law_dice_L113, sSet, eBinF, eBinN, eB1, eC, eVar, bind_ok, pyAdd, pyMul, pyMod, pyInt, frz, hm]) 0 _ ⟨910003 + 7907 * spot, none, rfl, by omega, by omega⟩
  have e4 : m__law_dice_L112 [some (.scr (ns.map .int)), some (.int spot), some (.int own), some (.int (910003 + 7907 * spot)), none] = .ok (.nx, [some (.scr (ns.map .int)), some (.int spot), some (.int own), some (.int m), s4]) := by
    have hx : HT.sIx ns.length ns.length (some 6) = min 6 ns.length := HT.sIx_nat _ _ 6
    have hc : cutP (ns.map PV.int) none (some 6) = (ns.map PV.int).take 6 := by
      simp [cutP, HT.sIx_none, hx, List.take_eq_take_iff]
    have hz6 : fzL ((ns.map PV.int).take 6) = true := fzL_of fun x hx => by
      obtain ⟨z, _, rfl⟩ := List.mem_map.mp (List.mem_of_mem_take hx)
      rfl
    have hz7 : fzL ((ns.take 6 ++ [own]).map PV.int) = true := fzL_of fun x hx => by
      obtain ⟨z, _, rfl⟩ := List.mem_map.mp hx
      rfl
    have hln : min 6 ns.length + 1 ≤ sizeLine := by omega
    have hi : itSeq (eBinF pyAdd (eSliN 0 oNo (oSome (eC (.int 6)))) (eLst (aCons (eMov 2) aNil))) [some (.scr (ns.map .int)), some (.int spot), some (.int own), some (.int (910003 + 7907 * spot)), none] = .ok ((ns.take 6 ++ [own]).map .int, [some (.scr (ns.map .int)), some (.int spot), some (.int own), some (.int (910003 + 7907 * spot)), none]) := by
      have h1 : 1 ≤ sizeLine := by omega
      have hd : (PV.int own :: []) = ([own].map PV.int) := rfl
      have hz8 : fzL ((ns.map PV.int).take 6 ++ [.int own]) = true := by simpa using hz7
      simp [itSeq, eBinF, eSliN, oNo, oSome, eC, eLst, aCons, eMov, aNil, bind_ok, pySlice, hc, frz, frzL, fzL_frzL hz6, pyAdd, hz6, fzL, fz, h1, hln, pyItems, fzL_frzL hz8]
    show (itSeq _ _ >>= _) = _
    rw [hi, bind_ok]
    exact e3
  have e5 : ∃ a : Int, m__law_dice_L114 [some (.scr (ns.map .int)), some (.int spot), some (.int own), some (.int m), s4] = .ok (.rt (.lst true [.int a, .int m, .int 0]), [some (.scr (ns.map .int)), some (.int spot), some (.int own), some (.int m), s4]) := by
    have hs3 : 3 ≤ sizeLine := by omega
    by_cases ho : own < 0
    · refine ⟨-own, ?_⟩
      simp [m__law_dice_L114, sRet, eLst, aCons, aNil, eIf, tO, tBool, eBinN, eBinF, eB1, eC, eVar, eMov, bind_ok, pyLt, ho, pyAbs, frz, hs3]
    · by_cases hq : 10000000000000000 ≤ own
      · refine ⟨own, ?_⟩
        simp [m__law_dice_L114, sRet, eLst, aCons, aNil, eIf, tO, tBool, eBinN, eBinF, eB1, eC, eVar, eMov, bind_ok, pyLt, pyGe, pyPow, ho, hq, pyAbs, frz, hs3]
      · refine ⟨0, ?_⟩
        simp [m__law_dice_L114, sRet, eLst, aCons, aNil, eIf, tO, tBool, eBinN, eBinF, eB1, eC, eVar, eMov, bind_ok, pyLt, pyGe, pyPow, ho, hq, pyAbs, frz, hs3]
  obtain ⟨a, e5⟩ := e5
  refine ⟨a, m, ?_⟩
  unfold d__law_dice m__law_dice
  rw [seq_nx e1, seq_nx e2, seq_nx e4, e5]
  rfl
end L00
set_option Elab.async false
set_option linter.all false
set_option maxRecDepth 100000
set_option maxHeartbeats 3900000
namespace L00
open PySem L2 PX G00
theorem tail_ok (x y : Option PV) : fin ((sSeq m_law_L179 (sSeq m_law_L181 (sSeq m_law_L183 (sSeq m_law_L185 (sSeq m_law_L187 (sSeq m_law_L189 (sSeq m_law_L191 m_law_L193))))))) [x, y]) = .ok (.bl true) := by kernel_rfl
theorem rangeL_mem {n : Nat} {i : Int} {x : PV} (h : x ∈ rangeL i n) : ∃ j : Int, x = .int j ∧ i ≤ j ∧ j < i + n := by
  obtain ⟨k, hk, rfl⟩ := List.mem_map.mp h
  have := List.mem_range.mp hk
  exact ⟨_, rfl, by omega, by omega⟩
theorem law_true (ns : List Int) (hl : ns.length ≤ 63) : d_law [.scr (ns.map .int)] = .ok (.bl true) := by
  have hz : fzL (ns.map PV.int) = true := fzL_of fun x hx => by
    obtain ⟨z, _, rfl⟩ := List.mem_map.mp hx
    rfl
  obtain ⟨n, hn, e0⟩ : ∃ n : Nat, n ≤ 3 ∧ itRange1 (aCons (eBA pyMax2 (aCons (eC (.int 1)) (aCons (eBA pyMin2 (aCons (eC (.int 3)) (aCons (eB1 pyLen' (eVar 0)) aNil))) aNil))) aNil) [some (.scr (ns.map .int)), none] = .ok (rangeL 0 n, [some (.scr (ns.map .int)), none]) := by
    refine ⟨(if (if (ns.length : Int) < 3 then (ns.length : Int) else 3) > 1 then (if (ns.length : Int) < 3 then (ns.length : Int) else 3) else 1).toNat, by split <;> split <;> omega, ?_⟩
    have hb : -4611686018427387904 ≤ (if (if (ns.length : Int) < 3 then (ns.length : Int) else 3) > 1 then (if (ns.length : Int) < 3 then (ns.length : Int) else 3) else 1) ∧ (if (if (ns.length : Int) < 3 then (ns.length : Int) else 3) > 1 then (if (ns.length : Int) < 3 then (ns.length : Int) else 3) else 1) < 4611686018427387904 := by
      constructor <;> split <;> split <;> omega
    simp only [itRange1, aCons, aNil, eBA, eB1, eC, eVar, bind_ok, pyLen', pyMin2, pyMax2, frz, List.getElem?_cons_zero, List.length_map]
    rw [if_pos hb]
  obtain ⟨ρ', e1, s1, rfl⟩ := forM_inv (b := bName 1) (body := m_law_L177) (I := fun _ ρ => ∃ s1 : Option PV, ρ = [some (.scr (ns.map .int)), s1]) (rangeL 0 n) (by
    rintro i x ρ hx ⟨s1, rfl⟩
    obtain ⟨j, rfl, j0, j1⟩ := rangeL_mem hx
    refine ⟨_, [some (.scr (ns.map .int)), some (.int j)], rfl, ?_, ⟨_, rfl⟩⟩
    obtain ⟨a, b, hd⟩ := dice_ok (ns := ns) hl j0 (show j < 3 by omega)
    obtain ⟨p', ho⟩ := one_ok (p := .lst true [.int a, .int b, .int 0]) ⟨a, b, 0, rfl, by omega, by omega⟩
    simp [m_law_L177, sIf, tNt, tTru, eCallT, eCall, aCons, aNil, eMov, bind_ok, frz, fzL_frzL hz, hd, isOwn, ho, pyTru, sNx]) 0 _ ⟨none, rfl⟩
  unfold d_law m_law
  rw [seq_nx (m := m_law_L176) (ρ := startR 2 [.scr (ns.map .int)]) (ρ1 := [some (.scr (ns.map .int)), s1])]
  · exact tail_ok _ _
  · show (itRange1 _ [some (.scr (ns.map .int)), none] >>= _) = _
    rw [e0, bind_ok]
    exact e1
end L00
set_option Elab.async false
set_option maxRecDepth 100000
open PySem PySem.W
    PyProof.Rows in
set_option
    maxRecDepth 100000 in
set_option maxHeartbeats 0 in
theorem PySem.Challenge.cw_beadrods_k00_whole_rods_holds : PySem.Challenge.rw_beadrods_k00_whole_rods.Holds := by
  w_on; o_law; k_head;
      (case hw => w_witness2)
  k_fill
  refine PX.walk_px (l := PySem.Challenge.rw_beadrods_k00_whole_rods) (n := 63) (k := 9) (x := "script") rfl (by decide) rfl ⟨rfl, by decide, by decide⟩ (fun w h Y => by first | exact PySem.W.km_in_of Y | exact PySem.W.kIn_of Y) ?F
  case F =>
    intro w mg fa h KX G hmg tb
    refine' G00.fin_mk KX G hmg tb (by kernel_rfl) ?a_Rod ?pg_Rod ?hd_Rod ?po_Rod ?sa_Rod ?a0 ?l0 ?c0 ?k0 ?a1 ?l1 ?c1 ?k1 ?a2 ?l2 ?c2 ?k2 ?a3 ?l3 ?c3 ?k3 ?a4 ?l4 ?c4 ?k4 ?a5 ?i5 ?l5 ?c5 ?k5 ?mk_Rod ?kc_Rod ?a6 ?i6 ?l6 ?c6 ?k6 ?a7 ?l7 ?c7 ?k7 ?a8 ?l8 ?c8 ?k8 ?a9 ?l9 ?c9 ?k9 ?a10 ?l10 ?c10 ?k10 ?a11 ?l11 ?c11 ?k11 ?a12 ?l12 ?c12 ?k12 ?a13 ?l13 ?c13 ?k13 ?a14 ?l14 ?c14 ?k14 ?a15 ?l15 ?c15 ?k15 ?a16 ?l16 ?c16 ?k16 ?a17 ?l17 ?c17 ?k17 ?a18 ?l18 ?c18 ?k18 ?a19 ?l19 ?c19 ?k19 ?a20 ?l20 ?c20 ?k20 ?a21 ?l21 ?c21 ?k21 ?a22 ?l22 ?c22 ?k22 ?a23 ?l23 ?c23 ?k23 ?a24 ?l24 ?c24 ?k24 ?a25 ?l25 ?c25 ?k25 ?a26 ?l26 ?c26 ?k26 ?a27 ?l27 ?c27 ?k27 ?a28 ?l28 ?c28 ?k28 ?a29 ?l29 ?c29 ?t29 ?v29 ?p29 ?k29 ?a30 ?l30 ?c30 ?k30 ?z_abs ?z_all ?z_bool ?z_enumerate ?z_int ?z_isinstance ?z_len ?z_list ?z_max ?z_min ?z_range ?z_str ?z_sum ?z_tuple ?z_zip ?z_super ?q_DIGITS ?q_MOST_BASE ?q_MOST_BEADS ?q_MOST_DECKS ?q_MOST_STATES ?q_MOST_TEXT ?q_MOST_WORTH ?n_Rod_base ?n_Rod_decks ?n_Rod_rows ?n_Rod_worths ?z_any ?a_BadArgument ?ex_BadArgument ?ty_BadArgument ?no_BadArgument ?cl_BadArgument ?a_BadText ?ex_BadText ?ty_BadText ?no_BadText ?cl_BadText ?lC_BadArgument ?rb_BadArgument ?sa_BadArgument ?kC_BadArgument ?iC_BadArgument ?lI_BadArgument ?cI_BadArgument ?lc_BadArgument ?v2_BadArgument ?hf_BadArgument ?lx_BadArgument ?mr_BadArgument ?su_BadArgument ?sB_BadArgument ?tI_BadArgument ?lC_BadText ?rb_BadText ?sa_BadText ?kC_BadText ?iC_BadText ?lI_BadText ?cI_BadText ?lc_BadText ?v2_BadText ?hf_BadText ?lx_BadText ?mr_BadText ?su_BadText ?sB_BadText ?tI_BadText ?sP_BadArgument ?ga_BadArgument ?gg_BadArgument ?hx_BadArgument ?sP_BadText ?ga_BadText ?gg_BadText ?hx_BadText fun ns hl _ => L00.law_true ns hl
    (case a_Rod => k_is)
    (case pg_Rod => k_is)
    (case hd_Rod => k_is)
    (case po_Rod => k_is)
    (case sa_Rod => k_is)
    (case a0 => k_is)
    (case l0 => k_is)
    (case c0 => k_is)
    (case k0 => k_is)
    (case a1 => k_is)
    (case l1 => k_is)
    (case c1 => k_is)
    (case k1 => k_is)
    (case a2 => k_is)
    (case l2 => k_is)
    (case c2 => k_is)
    (case k2 => k_is)
    (case a3 => k_is)
    (case l3 => k_is)
    (case c3 => k_is)
    (case k3 => k_is)
    (case a4 => k_is)
    (case l4 => k_is)
    (case c4 => k_is)
    (case k4 => k_is)
    (case a5 => k_is)
    (case i5 => k_is)
    (case l5 => k_is)
    (case c5 => k_is)
    (case k5 => k_is)
    (case mk_Rod => k_is)
    (case kc_Rod => k_is)
    (case a6 => k_is)
    (case i6 => k_is)
    (case l6 => k_is)
    (case c6 => k_is)
    (case k6 => k_is)
    (case a7 => k_is)
    (case l7 => k_is)
    (case c7 => k_is)
    (case k7 => k_is)
    (case a8 => k_is)
    (case l8 => k_is)
    (case c8 => k_is)
    (case k8 => k_is)
    (case a9 => k_is)
    (case l9 => k_is)
    (case c9 => k_is)
    (case k9 => k_is)
    (case a10 => k_is)
    (case l10 => k_is)
    (case c10 => k_is)
    (case k10 => k_is)
    (case a11 => k_is)
    (case l11 => k_is)
    (case c11 => k_is)
    (case k11 => k_is)
    (case a12 => k_is)
    (case l12 => k_is)
    (case c12 => k_is)
    (case k12 => k_is)
    (case a13 => k_is)
    (case l13 => k_is)
    (case c13 => k_is)
    (case k13 => k_is)
    (case a14 => k_is)
    (case l14 => k_is)
    (case c14 => k_is)
    (case k14 => k_is)
    (case a15 => k_is)
    (case l15 => k_is)
    (case c15 => k_is)
    (case k15 => k_is)
    (case a16 => k_is)
    (case l16 => k_is)
    (case c16 => k_is)
    (case k16 => k_is)
    (case a17 => k_is)
    (case l17 => k_is)
    (case c17 => k_is)
    (case k17 => k_is)
    (case a18 => k_is)
    (case l18 => k_is)
    (case c18 => k_is)
    (case k18 => k_is)
    (case a19 => k_is)
    (case l19 => k_is)
    (case c19 => k_is)
    (case k19 => k_is)
    (case a20 => k_is)
    (case l20 => k_is)
    (case c20 => k_is)
    (case k20 => k_is)
    (case a21 => k_is)
    (case l21 => k_is)
    (case c21 => k_is)
    (case k21 => k_is)
    (case a22 => k_is)
    (case l22 => k_is)
    (case c22 => k_is)
    (case k22 => k_is)
    (case a23 => k_is)
    (case l23 => k_is)
    (case c23 => k_is)
    (case k23 => k_is)
    (case a24 => k_is)
    (case l24 => k_is)
    (case c24 => k_is)
    (case k24 => k_is)
    (case a25 => k_is)
    (case l25 => k_is)
    (case c25 => k_is)
    (case k25 => k_is)
    (case a26 => k_is)
    (case l26 => k_is)
    (case c26 => k_is)
    (case k26 => k_is)
    (case a27 => k_is)
    (case l27 => k_is)
    (case c27 => k_is)
    (case k27 => k_is)
    (case a28 => k_is)
    (case l28 => k_is)
    (case c28 => k_is)
    (case k28 => k_is)
    (case a29 => k_is)
    (case l29 => k_is)
    (case c29 => k_is)
    (case t29 => k_is)
    (case v29 => rfl)
    (case p29 => kernel_rfl)
    (case k29 => k_is)
    (case a30 => k_is)
    (case l30 => k_is)
    (case c30 => k_is)
    (case k30 => k_is)
    (case z_abs => k_is)
    (case z_all => k_is)
    (case z_bool => k_is)
    (case z_enumerate => k_is)
    (case z_int => k_is)
    (case z_isinstance => k_is)
    (case z_len => k_is)
    (case z_list => k_is)
    (case z_max => k_is)
    (case z_min => k_is)
    (case z_range => k_is)
    (case z_str => k_is)
    (case z_sum => k_is)
    (case z_tuple => k_is)
    (case z_zip => k_is)
    (case z_super => k_is)
    (case q_DIGITS => k_is)
    (case q_MOST_BASE => k_is)
    (case q_MOST_BEADS => k_is)
    (case q_MOST_DECKS => k_is)
    (case q_MOST_STATES => k_is)
    (case q_MOST_TEXT => k_is)
    (case q_MOST_WORTH => k_is)
    (case n_Rod_base => k_is)
    (case n_Rod_decks => k_is)
    (case n_Rod_rows => k_is)
    (case n_Rod_worths => k_is)
    (case z_any => k_is)
    (case a_BadArgument => k_is)
    (case ex_BadArgument => k_is)
    (case ty_BadArgument => k_is)
    (case no_BadArgument => k_is)
    (case cl_BadArgument => k_is)
    (case a_BadText => k_is)
    (case ex_BadText => k_is)
    (case ty_BadText => k_is)
    (case no_BadText => k_is)
    (case cl_BadText => k_is)
    (case lC_BadArgument => k_is)
    (case rb_BadArgument => kernel_rfl)
    (case sa_BadArgument => k_is)
    (case kC_BadArgument => k_is)
    (case iC_BadArgument => k_is)
    (case lI_BadArgument => k_is)
    (case cI_BadArgument => k_is)
    (case lc_BadArgument => k_is)
    (case v2_BadArgument => rfl)
    (case hf_BadArgument => kernel_rfl)
    (case lx_BadArgument => k_is)
    (case mr_BadArgument => k_is)
    (case su_BadArgument => kernel_rfl)
    (case sB_BadArgument => k_is)
    (case tI_BadArgument => k_is)
    (case lC_BadText => k_is)
    (case rb_BadText => kernel_rfl)
    (case sa_BadText => k_is)
    (case kC_BadText => k_is)
    (case iC_BadText => k_is)
    (case lI_BadText => k_is)
    (case cI_BadText => k_is)
    (case lc_BadText => k_is)
    (case v2_BadText => rfl)
    (case hf_BadText => kernel_rfl)
    (case lx_BadText => k_is)
    (case mr_BadText => k_is)
    (case su_BadText => kernel_rfl)
    (case sB_BadText => k_is)
    (case tI_BadText => k_is)
    (case sP_BadArgument => k_is)
    (case ga_BadArgument => k_is)
    (case gg_BadArgument => k_is)
    (case hx_BadArgument => k_is)
    (case sP_BadText => k_is)
    (case ga_BadText => k_is)
    (case gg_BadText => k_is)
    (case hx_BadText => k_is)
