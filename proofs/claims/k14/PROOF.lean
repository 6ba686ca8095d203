import PyProof.Rows.All
import Wide.All
import OpenK.AllK
import Wide.FinOn
import PyProof.EqAt
import PyProof.EqKinds
import PyProof.TupleCall
import HandS.ForMost
import HandS.ForExc
import HandS.Wide
import HandS.WideBits
import HandS.EndBits
import HandS.IsInst
import HandS.CallSlots
import HandS.NoneIn
import HandS.TupAny
import PySem.Challenge.RW_realsay_k14_the_whole_number_below
set_option Elab.async false
set_option linter.all false
set_option maxRecDepth 100000
set_option maxHeartbeats 4000000
namespace PD
open PySem PySem.Spec L2
open PyProof.Rows hiding St

/-! ## data -/
inductive D where
  | non | bl (b : Bool) | int (i : Int) | str (x : Str) | ty (n : String)
  | scr (ns : List Int) | tup (xs : List D) | lst (xs : List D) | dic (kvs : List (D × D)) | ins (c : Str) (fs : List (Str × D))

def kD : Key → D
  | .inl i => .int i
  | .inr x => .str x

mutual
def IsD (K : PySem.W.Frag) (mg : Str → Option Value) (H : Hp) : D → V → Prop
  | .non, v => v = .non
  | .bl b, v => v = .bl b
  | .int i, v => v = .int i
  | .str x, v => v = .str x
  | .ty n, v => v = .ty n
  | .scr ns, v => ∃ a, v = .ref a ∧ SqL K H a (ns.map V.int)
  | .tup ds, v => ∃ a xs, v = .ref a ∧ SqT K H a xs ∧ IsDs K mg H ds xs
  | .lst ds, v => ∃ a xs, v = .ref a ∧ H a = some (.lst xs) ∧ IsDs K mg H ds xs
  | .dic kvs, v => ∃ a xs, v = .ref a ∧ Rd H a (.dK xs) ∧ IsKVs K mg H kvs xs
  | .ins c fs, v => ∃ a C dx xs, v = .ref a ∧ mg c = some (.ref C) ∧ H a = some (.ins C dx xs) ∧ IsFs K mg H fs xs
def IsDs (K : PySem.W.Frag) (mg : Str → Option Value) (H : Hp) : List D → List V → Prop
  | [], xs => xs = []
  | d :: ds, xs => ∃ v vs, xs = v :: vs ∧ IsD K mg H d v ∧ IsDs K mg H ds vs
def IsKVs (K : PySem.W.Frag) (mg : Str → Option Value) (H : Hp) : List (D × D) → List (Key × V) → Prop
  | [], xs => xs = []
  | p :: ds, xs => ∃ v vs, xs = v :: vs ∧ IsKV K mg H p v ∧ IsKVs K mg H ds vs
def IsKV (K : PySem.W.Frag) (mg : Str → Option Value) (H : Hp) : D × D → Key × V → Prop
  | (k, d), p => k = kD p.1 ∧ IsD K mg H d p.2
def IsFs (K : PySem.W.Frag) (mg : Str → Option Value) (H : Hp) : List (Str × D) → List (Str × V) → Prop
  | [], xs => xs = []
  | p :: ds, xs => ∃ v vs, xs = v :: vs ∧ IsF K mg H p v ∧ IsFs K mg H ds vs
def IsF (K : PySem.W.Frag) (mg : Str → Option Value) (H : Hp) : Str × D → Str × V → Prop
  | (k, d), p => k = p.1 ∧ IsD K mg H d p.2
end

theorem Same.seqT {K : PySem.W.Frag} {H H' : Hp} {a : Addr} {xs : List V} (e : Same H H') (h : SqT K H a xs) : SqT K H' a xs := by
  rcases h with (h | ⟨o, h⟩) | h
  · exact .inl (.inl (e _ _ h))
  · exact .inl (.inr ⟨o, e _ _ h⟩)
  · exact .inr h
theorem Same.rd {H H' : Hp} {a : Addr} {u : HO} (e : Same H H') (h : Rd H a u) : Rd H' a u := by
  rcases h with h | ⟨o, h⟩
  · exact .inl (e _ _ h)
  · exact .inr ⟨o, e _ _ h⟩

section
variable {K : PySem.W.Frag} {mg : Str → Option Value} {H H' : Hp}
mutual
theorem IsD.mono (s : Same H H') : ∀ {d : D} {v : V}, IsD K mg H d v → IsD K mg H' d v
  | .non, _, h => by simpa only [IsD] using h
  | .bl _, _, h => by simpa only [IsD] using h
  | .int _, _, h => by simpa only [IsD] using h
  | .str _, _, h => by simpa only [IsD] using h
  | .ty _, _, h => by simpa only [IsD] using h
  | .tup _, _, h => by
    simp only [IsD] at h ⊢
    obtain ⟨a, xs, e, q, r⟩ := h
    exact ⟨a, xs, e, Same.seqT s q, IsDs.mono s r⟩
  | .lst _, _, h => by
    simp only [IsD] at h ⊢
    obtain ⟨a, xs, e, q, r⟩ := h
    exact ⟨a, xs, e, s _ _ q, IsDs.mono s r⟩
  | .scr _, _, h => by
    simp only [IsD] at h ⊢
    obtain ⟨a, e, q⟩ := h
    exact ⟨a, e, s.seq q⟩
  | .dic _, _, h => by
    simp only [IsD] at h ⊢
    obtain ⟨a, xs, e, q, r⟩ := h
    exact ⟨a, xs, e, Same.rd s q, IsKVs.mono s r⟩
  | .ins _ _, _, h => by
    simp only [IsD] at h ⊢
    obtain ⟨a, C, dx, xs, e, m, q, r⟩ := h
    exact ⟨a, C, dx, xs, e, m, s _ _ q, IsFs.mono s r⟩
theorem IsDs.mono (s : Same H H') : ∀ {d : List D} {v : List V}, IsDs K mg H d v → IsDs K mg H' d v
  | [], _, h => by simpa only [IsDs] using h
  | _ :: _, _, h => by
    simp only [IsDs] at h ⊢
    obtain ⟨v, vs, e, q, r⟩ := h
    exact ⟨v, vs, e, IsD.mono s q, IsDs.mono s r⟩
theorem IsKVs.mono (s : Same H H') : ∀ {d : List (D × D)} {v : List (Key × V)}, IsKVs K mg H d v → IsKVs K mg H' d v
  | [], _, h => by simpa only [IsKVs] using h
  | _ :: _, _, h => by
    simp only [IsKVs] at h ⊢
    obtain ⟨v, vs, e, q, r⟩ := h
    exact ⟨v, vs, e, IsKV.mono s q, IsKVs.mono s r⟩
theorem IsKV.mono (s : Same H H') : ∀ {d : D × D} {v : Key × V}, IsKV K mg H d v → IsKV K mg H' d v
  | (_, _), _, h => by
    simp only [IsKV] at h ⊢
    exact ⟨h.1, IsD.mono s h.2⟩
theorem IsFs.mono (s : Same H H') : ∀ {d : List (Str × D)} {v : List (Str × V)}, IsFs K mg H d v → IsFs K mg H' d v
  | [], _, h => by simpa only [IsFs] using h
  | _ :: _, _, h => by
    simp only [IsFs] at h ⊢
    obtain ⟨v, vs, e, q, r⟩ := h
    exact ⟨v, vs, e, IsF.mono s q, IsFs.mono s r⟩
theorem IsF.mono (s : Same H H') : ∀ {d : Str × D} {v : Str × V}, IsF K mg H d v → IsF K mg H' d v
  | (_, _), _, h => by
    simp only [IsF] at h ⊢
    exact ⟨h.1, IsD.mono s h.2⟩
end
end
end PD

namespace PD
open PySem PySem.Spec L2
open PyProof.Rows hiding St

/-! ## outcomes -/
structure Exn where
  cls : Str
  fs : List (Str × D)
inductive Out (α : Type) where
  | ok (a : α) | exc (x : Exn) | stuck
def Out.bind {α β : Type} (o : Out α) (k : α → Out β) : Out β := match o with
  | .ok a => k a
  | .exc x => .exc x
  | .stuck => .stuck
@[simp] theorem Out.bind_ok {α β : Type} (a : α) (k : α → Out β) : (Out.ok a).bind k = k a := rfl
@[simp] theorem Out.bind_exc {α β : Type} (x : Exn) (k : α → Out β) : (Out.exc x).bind k = .exc x := rfl
@[simp] theorem Out.bind_stuck {α β : Type} (k : α → Out β) : (Out.stuck : Out α).bind k = .stuck := rfl
theorem Out.bind_assoc {α β γ : Type} (o : Out α) (k : α → Out β) (l : β → Out γ) : (o.bind k).bind l = o.bind fun a => (k a).bind l := by
  cases o <;> rfl
/-- an outcome under a condition (never to be reckoned with: the condition is shown) -/
noncomputable def chk {α : Type} (p : Prop) (o : Out α) : Out α := @ite _ p (Classical.propDecidable p) o .stuck
theorem chk_pos {α : Type} {p : Prop} {o : Out α} (h : p) : chk p o = o := if_pos h
theorem chk_neg {α : Type} {p : Prop} {o : Out α} (h : ¬ p) : chk p o = .stuck := if_neg h
abbrev Env := List (Option D)
inductive SO where
  | nx (r : Env) | rt (d : D) | bk (r : Env) | ct (r : Env) | ex (x : Exn) | stuck

def D.mut : D → Bool
  | .lst _ => true
  | .dic _ => true
  | _ => false

/-! ## representation -/
/-- the entry of a def: all that is tracked; what of it is read as data -/
structure G where
  H0 : Hp
  F0 : Hp
section
variable (K : PySem.W.Frag) (mg : Str → Option Value)
/-- owned: a list or dict that this frame alone may change; else data -/
def IsO (H0 Hf H : Hp) : D → V → Prop
  | .lst ds, v => ∃ a xs, v = .ref a ∧ H0 a = none ∧ Hf a = none ∧ H a = some (.lst xs) ∧ IsDs K mg Hf ds xs
  | .dic kvs, v => ∃ a xs, v = .ref a ∧ H0 a = none ∧ Hf a = none ∧ H a = some (.dK xs) ∧ IsKVs K mg Hf kvs xs
  | d, v => IsD K mg Hf d v
/-- read: the outermost object stands in H, what it holds is data -/
def IsR (Hf H : Hp) : D → V → Prop
  | .lst ds, v => ∃ a xs, v = .ref a ∧ H a = some (.lst xs) ∧ IsDs K mg Hf ds xs
  | .dic kvs, v => ∃ a xs, v = .ref a ∧ Rd H a (.dK xs) ∧ IsKVs K mg Hf kvs xs
  | d, v => IsD K mg Hf d v
abbrev Own (Γ : List Bool) (i : Nat) : Prop := Γ.getD i false = true
structure Rp (g : G) (Γ : List Bool) (ρ : Env) (σ : St) (Hf H : Hp) : Prop where
  same : Same Hf H
  ent : Same g.H0 H
  ent2 : Same g.F0 Hf
  news : ∀ a o, Hf a = some o → g.F0 a = some o ∨ g.H0 a = none
  len : σ.length = ρ.length
  own : ∀ i d, Own Γ i → ρ[i]? = some (some d) → ∃ v, σ[i]? = some (some v) ∧ IsO K mg g.H0 Hf H d v
  dat : ∀ i d, ¬ Own Γ i → ρ[i]? = some (some d) → ∃ v, σ[i]? = some (some v) ∧ IsD K mg Hf d v
  sep : ∀ i j d e v, i ≠ j → Own Γ i → Own Γ j → ρ[i]? = some (some d) → ρ[j]? = some (some e) → d.mut = true → e.mut = true → σ[i]? = some (some v) → σ[j]? = some (some v) → False
inductive Md where
  | rd | fr | ow
def Res (g : G) (Γ : List Bool) (ρ : Env) (σ : St) (Hf H : Hp) (m : Md) (d : D) (v : V) : Prop := match m with
  | .rd => IsR K mg Hf H d v
  | .fr => IsD K mg Hf d v
  | .ow => IsO K mg g.H0 Hf H d v ∧ ∀ i e, Own Γ i → ρ[i]? = some (some e) → e.mut = true → d.mut = true → σ[i]? = some (some v) → False
def IsX (x : Exn) (c : Value) (dd : Option Addr) (H : Hp) : Prop :=
  (∃ C, c = .ref C ∧ mg x.cls = some (.ref C)) ∧ (x.fs = [] ∨ ∃ d xs, dd = some d ∧ H d = some (.xd xs) ∧ IsFs K mg H x.fs xs)
def Le (Γ' Γ : List Bool) : Prop := ∀ i, Own Γ' i → Own Γ i
/-- an outcome of an expression, told -/
def tG (g : G) (E : WX) (Γ : List Bool) (ρ : Env) (σ : St) (Hf H : Hp) {α : Type} (P : α → Hp → Hp → Prop) : Out α → Prop
  | .ok a => ∀ Hf' H', Same Hf Hf' → Same H H' → Rp K mg g Γ ρ σ Hf' H' → P a Hf' H'
  | .exc x => ∀ c dd Hf' H', Same Hf Hf' → Same H H' → Rp K mg g Γ ρ σ Hf' H' → IsX K mg x c dd H' → E c dd σ H'
  | .stuck => False
/-- what a call hands back -/
def RetRes (H0 : Hp) (ro : Bool) (Hf H : Hp) (d : D) (v : V) : Prop := if ro = true then IsO K mg H0 Hf H d v else IsD K mg Hf d v
def sR (g : G) (E : WX) (Γ Γl : List Bool) (ro : Bool) (Dn : Ends) : SO → Prop
  | .nx ρ => ∀ σ Hf H, Rp K mg g Γ ρ σ Hf H → Dn.nx σ H
  | .bk ρ => ∀ σ Hf H, Rp K mg g Γl ρ σ Hf H → Dn.bk σ H
  | .ct ρ => ∀ σ Hf H, Rp K mg g Γl ρ σ Hf H → Dn.ct σ H
  | .rt d => ∀ v Hf H, Same Hf H → Same g.H0 H → Same g.F0 Hf → (∀ a o, Hf a = some o → g.F0 a = some o ∨ g.H0 a = none) → RetRes K mg g.H0 ro Hf H d v → Dn.rt v H
  | .ex x => ∀ c dd σ H, Same g.H0 H → IsX K mg x c dd H → E c dd σ H
  | .stuck => False
/-- a def's promise by its meaning -/
def spD (ro : Bool) (F : List D → Out D) : Sp := fun vs H Q E => ∃ ds Hf, Same Hf H ∧ IsDs K mg Hf ds vs ∧ match F ds with
  | .ok d => ∀ v Hf' H', Same Hf Hf' → Same Hf' H' → Same H H' → (∀ a o, Hf' a = some o → Hf a = some o ∨ H a = none) → RetRes K mg H ro Hf' H' d v → Q v H'
  | .exc x => ∀ c dd H', Same H H' → IsX K mg x c dd H' → E c dd H'
  | .stuck => False
end

section
variable {K : PySem.W.Frag} {mg : Str → Option Value}
theorem Le.refl (Γ : List Bool) : Le Γ Γ := fun _ h => h
theorem Le.trans {a b c : List Bool} (h : Le a b) (k : Le b c) : Le a c := fun i z => k i (h i z)
theorem Le.set (Γ : List Bool) (i : Nat) : Le (Γ.set i false) Γ := fun j h => by
  unfold Own at *
  rw [List.getD_eq_getElem?_getD, List.getElem?_set] at h
  by_cases e : i = j
  · subst e
    rw [if_pos rfl] at h
    by_cases l : i < Γ.length
    · rw [if_pos l] at h; simp at h
    · rw [if_neg l] at h; simp at h
  · rw [if_neg e] at h
    rw [List.getD_eq_getElem?_getD]; exact h

/-! ### scalars and modes -/
theorem IsO.of_dat {H0 Hf H : Hp} {d : D} {v : V} (n : d.mut = false) (h : IsD K mg Hf d v) : IsO K mg H0 Hf H d v := by
  cases d <;> first | exact h | cases n
theorem IsR.of_dat {Hf H : Hp} {d : D} {v : V} (s : Same Hf H) (h : IsD K mg Hf d v) : IsR K mg Hf H d v := by
  cases d <;> first | exact h | (simp only [IsD] at h; obtain ⟨a, xs, e, q, r⟩ := h; first | exact ⟨a, xs, e, s _ _ q, r⟩ | exact ⟨a, xs, e, Same.rd s q, r⟩)
theorem IsR.of_own {H0 Hf H : Hp} {d : D} {v : V} (h : IsO K mg H0 Hf H d v) : IsR K mg Hf H d v := by
  cases d <;> first | exact h | (obtain ⟨a, xs, e, _, _, q, r⟩ := h; first | exact ⟨a, xs, e, q, r⟩ | exact ⟨a, xs, e, .inl q, r⟩)
theorem IsR.mono {Hf Hf' H H' : Hp} {d : D} {v : V} (s1 : Same Hf Hf') (s2 : Same H H') (h : IsR K mg Hf H d v) : IsR K mg Hf' H' d v := by
  cases d <;> first
    | exact IsD.mono s1 h
    | (obtain ⟨a, xs, e, q, r⟩ := h; first | exact ⟨a, xs, e, s2 _ _ q, IsDs.mono s1 r⟩ | exact ⟨a, xs, e, Same.rd s2 q, IsKVs.mono s1 r⟩)
/-- the address of what is owned -/
theorem IsO.addr {H0 Hf H : Hp} {d : D} {v : V} (m : d.mut = true) (h : IsO K mg H0 Hf H d v) : ∃ a o, v = .ref a ∧ H0 a = none ∧ Hf a = none ∧ H a = some o := by
  cases d with
  | lst ds => obtain ⟨a, xs, e, z0, zf, q, r⟩ := h; exact ⟨a, _, e, z0, zf, q⟩
  | dic ds => obtain ⟨a, xs, e, z0, zf, q, r⟩ := h; exact ⟨a, _, e, z0, zf, q⟩
  | _ => cases m
theorem Res.dat {g : G} {Γ : List Bool} {ρ : Env} {σ : St} {Hf H : Hp} {m : Md} {d : D} {v : V} (s : Same Hf H) (n : d.mut = false) (h : IsD K mg Hf d v) : Res K mg g Γ ρ σ Hf H m d v := by
  cases m with
  | rd => exact IsR.of_dat s h
  | fr => exact h
  | ow => exact ⟨IsO.of_dat n h, fun i e _ _ _ q => by rw [n] at q; cases q⟩
theorem Res.rd {g : G} {Γ : List Bool} {ρ : Env} {σ : St} {Hf H : Hp} {m : Md} {d : D} {v : V} (s : Same Hf H) (h : Res K mg g Γ ρ σ Hf H m d v) : IsR K mg Hf H d v := by
  cases m with
  | rd => exact h
  | fr => exact IsR.of_dat s h
  | ow => exact IsR.of_own h.1

/-! ### freezing -/
/-- what the addresses in p hold becomes data -/
theorem frz_same {Hf H : Hp} (p : Addr → Prop) [DecidablePred p] (s : Same Hf H) : Same Hf (fun a => if p a then H a else Hf a) := fun a o e => by
  by_cases h : p a
  · show (if p a then H a else Hf a) = some o
    rw [if_pos h]; exact s _ _ e
  · show (if p a then H a else Hf a) = some o
    rw [if_neg h]; exact e
theorem frz_same2 {Hf H : Hp} (p : Addr → Prop) [DecidablePred p] (s : Same Hf H) : Same (fun a => if p a then H a else Hf a) H := fun a o e => by
  have e' : (if p a then H a else Hf a) = some o := e
  by_cases h : p a
  · rw [if_pos h] at e'; exact e'
  · rw [if_neg h] at e'; exact s _ _ e'
theorem IsD.of_own {H0 Hf Hf' H : Hp} {d : D} {v : V} (s : Same Hf Hf') (at_ : ∀ a, v = .ref a → d.mut = true → Hf' a = H a) (h : IsO K mg H0 Hf H d v) : IsD K mg Hf' d v := by
  cases d with
  | lst ds =>
    obtain ⟨a, xs, e, z0, zf, q, r⟩ := h
    simp only [IsD]
    exact ⟨a, xs, e, (at_ a e rfl).trans q, IsDs.mono s r⟩
  | dic ds =>
    obtain ⟨a, xs, e, z0, zf, q, r⟩ := h
    simp only [IsD]
    exact ⟨a, xs, e, .inl ((at_ a e rfl).trans q), IsKVs.mono s r⟩
  | _ => exact IsD.mono s h
theorem IsO.keep {H0 Hf Hf' H : Hp} {d : D} {v : V} (s : Same Hf Hf') (at_ : ∀ a, v = .ref a → d.mut = true → Hf' a = none) (h : IsO K mg H0 Hf H d v) : IsO K mg H0 Hf' H d v := by
  cases d with
  | lst ds =>
    obtain ⟨a, xs, e, z0, zf, q, r⟩ := h
    exact ⟨a, xs, e, z0, at_ a e rfl, q, IsDs.mono s r⟩
  | dic ds =>
    obtain ⟨a, xs, e, z0, zf, q, r⟩ := h
    exact ⟨a, xs, e, z0, at_ a e rfl, q, IsKVs.mono s r⟩
  | _ => exact IsD.mono s h
open Classical in
theorem Rp.frz {g : G} {Γ Γ' : List Bool} {ρ : Env} {σ : St} {Hf H : Hp} (R : Rp K mg g Γ ρ σ Hf H) (le : Le Γ' Γ) : ∃ Hf', Same Hf Hf' ∧ Rp K mg g Γ' ρ σ Hf' H ∧ ∀ a o, Hf' a = some o → Hf a = none →
    ∃ i d, Own Γ i ∧ ¬ Own Γ' i ∧ ρ[i]? = some (some d) ∧ d.mut = true ∧ σ[i]? = some (some (.ref a)) := by
  let p : Addr → Prop := fun a => ∃ i d, Own Γ i ∧ ¬ Own Γ' i ∧ ρ[i]? = some (some d) ∧ d.mut = true ∧ σ[i]? = some (some (.ref a))
  have s1 : Same Hf (fun a => if p a then H a else Hf a) := frz_same p R.same
  refine ⟨fun a => if p a then H a else Hf a, s1, ⟨frz_same2 p R.same, R.ent, R.ent2.trans s1, fun a o e => ?_, R.len, fun i d o e => ?_, fun i d o e => ?_, fun i j d e v n o1 o2 => R.sep i j d e v n (le i o1) (le j o2)⟩, fun a o e n => ?_⟩
  · have e' : (if p a then H a else Hf a) = some o := e
    by_cases h : p a
    · obtain ⟨i, d, o1, o2, e1, m, e2⟩ := h
      obtain ⟨v, e3, io⟩ := R.own i d o1 e1
      rw [e2] at e3
      obtain rfl : V.ref a = v := Option.some.inj (Option.some.inj e3)
      obtain ⟨b, ob, e4, z0, _⟩ := io.addr m
      obtain rfl : a = b := V.ref.inj e4
      exact .inr z0
    · rw [if_neg h] at e'
      exact R.news a o e'
  · obtain ⟨v, e1, io⟩ := R.own i d (le i o) e
    refine ⟨v, e1, io.keep s1 fun a ea m => ?_⟩
    obtain ⟨b, ob, e4, z0, zf, _⟩ := io.addr m
    rw [ea] at e4
    obtain rfl : a = b := V.ref.inj e4
    have np : ¬ p a := fun ⟨j, e', o1, o2, e2, m2, e3⟩ => by
      by_cases ij : i = j
      · subst ij; exact o2 o
      · exact R.sep i j d e' (.ref a) ij (le i o) o1 e e2 m m2 (ea ▸ e1) e3
    show (if p a then H a else Hf a) = none
    rw [if_neg np]; exact zf
  · by_cases oΓ : Own Γ i
    · obtain ⟨v, e1, io⟩ := R.own i d oΓ e
      refine ⟨v, e1, IsD.of_own s1 (fun a ea m => ?_) io⟩
      show (if p a then H a else Hf a) = H a
      exact if_pos ⟨i, d, oΓ, o, e, m, ea ▸ e1⟩
    · obtain ⟨v, e1, id⟩ := R.dat i d oΓ e
      exact ⟨v, e1, id.mono s1⟩
  · have e' : (if p a then H a else Hf a) = some o := e
    by_cases h : p a
    · exact h
    · rw [if_neg h, n] at e'; cases e'
end
end PD

namespace PD
open PySem PySem.Spec L2
open PyProof.Rows hiding St

section
variable {K : PySem.W.Frag} {mg : Str → Option Value} {g : G} {E : WX} {Γ Γ1 Γ2 : List Bool} {ρ : Env} {σ : St} {Hf H Hf' H' : Hp}
theorem tG.mono {α : Type} {P : α → Hp → Hp → Prop} {o : Out α} (s1 : Same Hf Hf') (s2 : Same H H') (h : tG K mg g E Γ ρ σ Hf H P o) : tG K mg g E Γ ρ σ Hf' H' P o := by
  cases o with
  | ok a => exact fun F' H' a b R => h F' H' (s1.trans a) (s2.trans b) R
  | exc x => exact fun c dd F' H' a b R q => h c dd F' H' (s1.trans a) (s2.trans b) R q
  | stuck => exact h
theorem tG.imp {α : Type} {P P' : α → Hp → Hp → Prop} {o : Out α} (h : tG K mg g E Γ ρ σ Hf H P o) (w : ∀ a Hf' H', Same Hf Hf' → Same H H' → Rp K mg g Γ ρ σ Hf' H' → P a Hf' H' → P' a Hf' H') : tG K mg g E Γ ρ σ Hf H P' o := by
  cases o with
  | ok a => exact fun F' H' a b R => w _ F' H' a b R (h F' H' a b R)
  | exc x => exact h
  | stuck => exact h
theorem tG.bind {α β : Type} {P1 : α → Hp → Hp → Prop} {P2 : β → Hp → Hp → Prop} {o : Out α} {k : α → Out β} (le : Le Γ2 Γ1) (h : tG K mg g E Γ2 ρ σ Hf H P2 (o.bind k))
    (hk : ∀ a Hf' H', Same Hf Hf' → Same H H' → Rp K mg g Γ1 ρ σ Hf' H' → tG K mg g E Γ2 ρ σ Hf' H' P2 (k a) → P1 a Hf' H') : tG K mg g E Γ1 ρ σ Hf H P1 o := by
  cases o with
  | ok a => exact fun F' H' s1 s2 R => hk a F' H' s1 s2 R (tG.mono s1 s2 h)
  | exc x =>
    intro c dd F' H' s1 s2 R q
    obtain ⟨F'', s3, R', _⟩ := R.frz le
    exact h c dd F'' H' (s1.trans s3) s2 R' q
  | stuck => exact h
end

/-! ## judgements -/
def PV (X : Cx) (g : G) (Γ : List Bool) (ρ : Env) (σ : St) (m : Md) (Q : VK) : D → Hp → Hp → Prop := fun d Hf H => ∀ v, Res X.K X.mg g Γ ρ σ Hf H m d v → Q v H
structure PX (X : Cx) (g : G) (E : WX) (Γ : List Bool) (e : Expr) (Γ' : List Bool) (m : Md) (f : Env → Out D) : Prop where
  le : Le Γ' Γ
  pe : PE X e (fun σ H Q => ∃ ρ Hf, Rp X.K X.mg g Γ ρ σ Hf H ∧ tG X.K X.mg g E Γ' ρ σ Hf H (PV X g Γ' ρ σ m Q) (f ρ))
structure PTx (X : Cx) (g : G) (E : WX) (Γ : List Bool) (e : Expr) (Γ' : List Bool) (f : Env → Out Bool) : Prop where
  le : Le Γ' Γ
  pe : PT X e (fun σ H Q => ∃ ρ Hf, Rp X.K X.mg g Γ ρ σ Hf H ∧ tG X.K X.mg g E Γ' ρ σ Hf H (fun b _ H' => Q b H') (f ρ))
structure PWx (X : Cx) (g : G) (E : WX) (Γ : List Bool) (e : Expr) (Γ' : List Bool) (f : Env → Out Bool) : Prop where
  le : Le Γ' Γ
  pe : PW X e (fun σ H Q => ∃ ρ Hf, Rp X.K X.mg g Γ ρ σ Hf H ∧ tG X.K X.mg g E Γ' ρ σ Hf H (fun b _ H' => Q b H') (f ρ))
structure PAx (X : Cx) (g : G) (E : WX) (Γ : List Bool) (e : List Expr) (Γ' : List Bool) (f : Env → Out (List D)) : Prop where
  le : Le Γ' Γ
  pe : PA X e (fun σ H Q => ∃ ρ Hf, Rp X.K X.mg g Γ ρ σ Hf H ∧ tG X.K X.mg g E Γ' ρ σ Hf H (fun ds Hf' H' => ∀ vs, IsDs X.K X.mg Hf' ds vs → Q vs H') (f ρ))

theorem _root_.L2.PE.imp {X : Cx} {e : Expr} {t t' : TE} (h : PE X e t) (w : ∀ σ H Q, t' σ H Q → t σ H Q) : PE X e t' :=
  ⟨fun pins s σ H Q I q => h.run pins s σ H Q I (w σ H Q q)⟩
theorem _root_.L2.PT.imp {X : Cx} {e : Expr} {t t' : TT} (h : PT X e t) (w : ∀ σ H Q, t' σ H Q → t σ H Q) : PT X e t' :=
  ⟨fun pins s σ H Q I q => h.run pins s σ H Q I (w σ H Q q)⟩
theorem _root_.L2.PW.imp {X : Cx} {e : Expr} {t t' : TT} (h : PW X e t) (w : ∀ σ H Q, t' σ H Q → t σ H Q) : PW X e t' :=
  ⟨fun wh pins s σ H Q I q => h.run wh pins s σ H Q I (w σ H Q q)⟩
theorem _root_.L2.PA.imp {X : Cx} {e : List Expr} {t t' : TA} (h : PA X e t) (w : ∀ σ H Q, t' σ H Q → t σ H Q) : PA X e t' :=
  ⟨fun p pins s σ H Q I q => h.run p pins s σ H Q I (w σ H Q q)⟩

section
variable {X : Cx} {g : G} {E : WX} {Γ Γ1 Γ2 Γ3 : List Bool} {m : Md} {pos : Pos}

/-! ### meanings -/
def eC (d : D) : Env → Out D := fun _ => .ok d
def eV (i : Nat) : Env → Out D := fun ρ => match ρ[i]? with
  | some (some d) => .ok d
  | _ => .stuck
def e2 (F : D → D → Out D) (a b : Env → Out D) : Env → Out D := fun ρ => (a ρ).bind fun x => (b ρ).bind fun y => F x y
def e1 (F : D → Out D) (a : Env → Out D) : Env → Out D := fun ρ => (a ρ).bind F
def aN : Env → Out (List D) := fun _ => .ok []
def aC (a : Env → Out D) (r : Env → Out (List D)) : Env → Out (List D) := fun ρ => (a ρ).bind fun x => (r ρ).bind fun xs => .ok (x :: xs)
def eA (F : List D → Out D) (a : Env → Out (List D)) : Env → Out D := fun ρ => (a ρ).bind F

/-! ### modes -/
open Classical in
/-- a temporary becomes data -/
theorem Rp.cool {K : PySem.W.Frag} {mg : Str → Option Value} {ρ : Env} {σ : St} {Hf H : Hp} (R : Rp K mg g Γ ρ σ Hf H) {d : D} {v : V} (io : IsO K mg g.H0 Hf H d v)
    (ap : ∀ i e, Own Γ i → ρ[i]? = some (some e) → e.mut = true → d.mut = true → σ[i]? = some (some v) → False) : ∃ Hf', Same Hf Hf' ∧ Rp K mg g Γ ρ σ Hf' H ∧ IsD K mg Hf' d v := by
  by_cases md : d.mut = true
  · obtain ⟨a, o, rfl, z0, zf, hH⟩ := io.addr md
    have s1 : Same Hf (fun b => if b = a then H b else Hf b) := frz_same (fun b => b = a) R.same
    refine ⟨fun b => if b = a then H b else Hf b, s1, ⟨frz_same2 (fun b => b = a) R.same, R.ent, R.ent2.trans s1, fun b o e => ?_, R.len, fun i d' o e => ?_, fun i d' o e => ?_, R.sep⟩, IsD.of_own s1 (fun b eb _ => ?_) io⟩
    · have e' : (if b = a then H b else Hf b) = some o := e
      by_cases h : b = a
      · subst h; exact .inr z0
      · rw [if_neg h] at e'; exact R.news b o e'
    · obtain ⟨v, e1, io'⟩ := R.own i d' o e
      refine ⟨v, e1, io'.keep s1 fun b eb m => ?_⟩
      subst eb
      have hb : b ≠ a := fun z => ap i d' o e m md (z ▸ e1)
      obtain ⟨c, oc, e4, _, zf', _⟩ := io'.addr m
      obtain rfl : b = c := V.ref.inj e4
      show (if b = a then H b else Hf b) = none
      rw [if_neg hb]; exact zf'
    · obtain ⟨v, e1, q⟩ := R.dat i d' o e
      exact ⟨v, e1, q.mono s1⟩
    · obtain rfl : a = b := V.ref.inj eb
      exact if_pos rfl
  · refine ⟨Hf, Same.refl _, R, ?_⟩
    cases d <;> first | exact io | exact absurd rfl md
theorem PX.fr {e : Expr} {f : Env → Out D} (h : PX X g E Γ e Γ1 .ow f) : PX X g E Γ e Γ1 .fr f := by
  refine ⟨h.le, h.pe.imp fun σ H Q ⟨ρ, Hf, R, q⟩ => ⟨ρ, Hf, R, ?_⟩⟩
  cases hf : f ρ with
  | ok d =>
    rw [hf] at q
    intro F1 H1 s1 s2 R1 v hv
    obtain ⟨io, ap⟩ := hv
    obtain ⟨F2, s3, R2, id⟩ := R1.cool io ap
    exact q F2 H1 (s1.trans s3) s2 R2 v id
  | exc x => rw [hf] at q; exact q
  | stuck => rw [hf] at q; exact q
theorem PX.rd {e : Expr} {f : Env → Out D} (h : PX X g E Γ e Γ1 m f) : PX X g E Γ e Γ1 .rd f := by
  refine ⟨h.le, h.pe.imp fun σ H Q ⟨ρ, Hf, R, q⟩ => ⟨ρ, Hf, R, tG.imp q fun d F1 H1 s1 s2 R1 k v hv => k v (Res.rd R1.same hv)⟩⟩

/-! ### names, constants -/
theorem PX.atom {e : Expr} {d : D} {v0 : V} (h : PE X e (tC v0)) (n : d.mut = false) (q : ∀ F v, v = v0 → IsD X.K X.mg F d v) : PX X g E Γ e Γ m (eC d) := by
  refine ⟨Le.refl _, h.imp fun σ H Q ⟨ρ, Hf, R, k⟩ => ?_⟩
  exact k Hf H (Same.refl _) (Same.refl _) R v0 (Res.dat R.same n (q Hf v0 rfl))
theorem px_int {i : Int} {j pos} : PX X g E Γ (.Constant (.int i) j pos) Γ m (eC (.int i)) := .atom pe_int rfl fun F v e => by simpa only [IsD] using e
theorem px_bl {b : Bool} {j pos} : PX X g E Γ (.Constant (.bool b) j pos) Γ m (eC (.bl b)) := .atom pe_bl rfl fun F v e => by simpa only [IsD] using e
theorem px_non {j pos} : PX X g E Γ (.Constant .none j pos) Γ m (eC .non) := .atom pe_non rfl fun F v e => by simpa only [IsD] using e
theorem px_str {x : Str} {j pos} : PX X g E Γ (.Constant (.str x) j pos) Γ m (eC (.str x)) := .atom pe_str rfl fun F v e => by simpa only [IsD] using e
theorem eV_ok {i : Nat} {ρ : Env} {d : D} (h : eV i ρ = .ok d) : ρ[i]? = some (some d) := by
  unfold eV at h
  split at h
  · cases h; assumption
  · cases h
theorem eV_nx {i : Nat} {ρ : Env} {x : Exn} (h : eV i ρ = .exc x) : False := by
  unfold eV at h
  split at h <;> cases h
/-- a name, read -/
theorem px_rd {x : Str} {i : Nat} (h : PE X (.Name x pos) (tVar i)) : PX X g E Γ (.Name x pos) Γ .rd (eV i) := by
  refine ⟨Le.refl _, h.imp fun σ H Q ⟨ρ, Hf, R, k⟩ => ?_⟩
  cases he : eV i ρ with
  | ok d =>
    rw [he] at k
    have e := eV_ok he
    by_cases o : Own Γ i
    · obtain ⟨v, e1, io⟩ := R.own i d o e
      exact ⟨v, e1, k Hf H (Same.refl _) (Same.refl _) R v (IsR.of_own io)⟩
    · obtain ⟨v, e1, io⟩ := R.dat i d o e
      exact ⟨v, e1, k Hf H (Same.refl _) (Same.refl _) R v (IsR.of_dat R.same io)⟩
  | exc x => exact (eV_nx he).elim
  | stuck => rw [he] at k; exact k.elim
/-- a name, as data: what it owned is data from here on -/
theorem px_fr {x : Str} {i : Nat} (h : PE X (.Name x pos) (tVar i)) : PX X g E Γ (.Name x pos) (Γ.set i false) .fr (eV i) := by
  refine ⟨Le.set Γ i, h.imp fun σ H Q ⟨ρ, Hf, R, k⟩ => ?_⟩
  cases he : eV i ρ with
  | ok d =>
    rw [he] at k
    have e := eV_ok he
    obtain ⟨F', s1, R', _⟩ := R.frz (Le.set Γ i)
    have no : ¬ Own (Γ.set i false) i := fun z => by
      unfold Own at z
      rw [List.getD_eq_getElem?_getD, List.getElem?_set] at z
      by_cases l : i < Γ.length
      · simp [l] at z
      · simp [l] at z
    obtain ⟨v, e1, q⟩ := R'.dat i d no e
    exact ⟨v, e1, k F' H s1 (Same.refl _) R' v q⟩
  | exc x => exact (eV_nx he).elim
  | stuck => rw [he] at k; exact k.elim
/-- .. where nothing is owned there -/
theorem px_fr' {x : Str} {i : Nat} (h : PE X (.Name x pos) (tVar i)) (no : Γ.getD i false = false) : PX X g E Γ (.Name x pos) Γ .fr (eV i) := by
  refine ⟨Le.refl _, h.imp fun σ H Q ⟨ρ, Hf, R, k⟩ => ?_⟩
  cases he : eV i ρ with
  | ok d =>
    rw [he] at k
    have e := eV_ok he
    obtain ⟨v, e1, q⟩ := R.dat i d (fun z => by unfold Own at z; rw [no] at z; cases z) e
    exact ⟨v, e1, k Hf H (Same.refl _) (Same.refl _) R v q⟩
  | exc x => exact (eV_nx he).elim
  | stuck => rw [he] at k; exact k.elim

/-! ### operators by their meaning -/
/-- f, on two read things, means F -/
def OpD (X : Cx) (f : Value → Value → Sem Value) (m : Md) (F : D → D → Out D) : Prop := ∃ r, OpR X f r ∧
  ∀ g E Γ ρ σ Hf H x y v u Q, Rp X.K X.mg g Γ ρ σ Hf H → IsR X.K X.mg Hf H x v → IsR X.K X.mg Hf H y u → tG X.K X.mg g E Γ ρ σ Hf H (PV X g Γ ρ σ m Q) (F x y) → r v u H Q
def UnD (X : Cx) (f : Value → Sem Value) (m : Md) (F : D → Out D) : Prop := ∃ r, UnR X f r ∧
  ∀ g E Γ ρ σ Hf H x v Q, Rp X.K X.mg g Γ ρ σ Hf H → IsR X.K X.mg Hf H x v → tG X.K X.mg g E Γ ρ σ Hf H (PV X g Γ ρ σ m Q) (F x) → r v H Q
variable {a b : Expr} {fa fb : Env → Out D}
theorem px_bin {op : Operator} {F : D → D → Out D} (ho : OpD X (binaryOp op) m F) (ha : PX X g E Γ a Γ1 .rd fa) (hb : PX X g E Γ1 b Γ2 .rd fb) : PX X g E Γ (.BinOp a op b pos) Γ2 m (e2 F fa fb) := by
  obtain ⟨r, hr, w⟩ := ho
  refine ⟨hb.le.trans ha.le, (pe_op hr ha.pe hb.pe).imp fun σ H Q ⟨ρ, Hf, R, k⟩ => ⟨ρ, Hf, R, ?_⟩⟩
  refine tG.bind hb.le k fun x F1 H1 s1 s2 R1 k1 v hv => ⟨ρ, F1, R1, ?_⟩
  refine tG.bind (Le.refl _) k1 fun y F2 H2 s3 s4 R2 k2 u hu => ?_
  exact w g E Γ2 ρ σ F2 H2 x y v u Q R2 (IsR.mono s3 s4 hv) hu k2
theorem px_cmp {op : CmpOp} {F : D → D → Out D} (ho : OpD X (compareOp op) m F) (ha : PX X g E Γ a Γ1 .rd fa) (hb : PX X g E Γ1 b Γ2 .rd fb) (hm : behindInMarks op b = false) : PX X g E Γ (.Compare a [op] [b] pos) Γ2 m (e2 F fa fb) := by
  obtain ⟨r, hr, w⟩ := ho
  refine ⟨hb.le.trans ha.le, (pe_cmpR hr ha.pe hb.pe hm).imp fun σ H Q ⟨ρ, Hf, R, k⟩ => ⟨ρ, Hf, R, ?_⟩⟩
  refine tG.bind hb.le k fun x F1 H1 s1 s2 R1 k1 v hv => ⟨ρ, F1, R1, ?_⟩
  refine tG.bind (Le.refl _) k1 fun y F2 H2 s3 s4 R2 k2 u hu => ?_
  exact w g E Γ2 ρ σ F2 H2 x y v u Q R2 (IsR.mono s3 s4 hv) hu k2
theorem px_un {op : UnaryOp} {F : D → Out D} (ho : UnD X (unaryOp op) m F) (ha : PX X g E Γ a Γ1 .rd fa) : PX X g E Γ (.UnaryOp op a pos) Γ1 m (e1 F fa) := by
  obtain ⟨r, hr, w⟩ := ho
  refine ⟨ha.le, (pe_un hr ha.pe).imp fun σ H Q ⟨ρ, Hf, R, k⟩ => ⟨ρ, Hf, R, ?_⟩⟩
  refine tG.bind (Le.refl _) k fun x F1 H1 s1 s2 R1 k1 v hv => ?_
  exact w g E Γ1 ρ σ F1 H1 x v Q R1 hv k1

/-! ### tests -/
def tOf (f : Env → Out D) : Env → Out Bool := fun ρ => (f ρ).bind fun d => match d with
  | .bl b => .ok b
  | _ => .stuck
theorem pt_of {e : Expr} {t : TE} {f : Env → Out D} (hp : PT X e (tTest t)) (w : ∀ σ H Q, (∃ ρ Hf, Rp X.K X.mg g Γ ρ σ Hf H ∧ tG X.K X.mg g E Γ1 ρ σ Hf H (PV X g Γ1 ρ σ .rd Q) (f ρ)) → t σ H Q) (le : Le Γ1 Γ) : PTx X g E Γ e Γ1 (tOf f) := by
  refine ⟨le, hp.imp fun σ H Q ⟨ρ, Hf, R, k⟩ => w σ H _ ⟨ρ, Hf, R, ?_⟩⟩
  refine tG.bind (Le.refl _) k fun x F1 H1 s1 s2 R1 k1 v hv => ?_
  cases x with
  | bl b => exact ⟨b, hv, k1 F1 H1 (Same.refl _) (Same.refl _) R1⟩
  | _ => exact k1.elim
theorem ptx_val {e : Expr} {f : Env → Out D} (h : PX X g E Γ e Γ1 .rd f) (he : ∀ whole, isTrue e X.env whole = (do let v ← whole; standAt e.pos; holding [v] (truthy v)) := by intro _; rfl) : PTx X g E Γ e Γ1 (tOf f) :=
  pt_of (pt_val h.pe he) (fun _ _ _ z => z) h.le
theorem ptx_cmp {op : CmpOp} {F : D → D → Out D} (ho : OpD X (compareOp op) .rd F) (ha : PX X g E Γ a Γ1 .rd fa) (hb : PX X g E Γ1 b Γ2 .rd fb) (hm : behindInMarks op b = false) : PTx X g E Γ (.Compare a [op] [b] pos) Γ2 (tOf (e2 F fa fb)) := by
  obtain ⟨r, hr, w⟩ := ho
  refine pt_of (pt_cmpR hr ha.pe hb.pe hm) (fun σ H Q ⟨ρ, Hf, R, k⟩ => ⟨ρ, Hf, R, ?_⟩) (hb.le.trans ha.le)
  refine tG.bind hb.le k fun x F1 H1 s1 s2 R1 k1 v hv => ⟨ρ, F1, R1, ?_⟩
  refine tG.bind (Le.refl _) k1 fun y F2 H2 s3 s4 R2 k2 u hu => ?_
  exact w g E Γ2 ρ σ F2 H2 x y v u Q R2 (IsR.mono s3 s4 hv) hu k2
def bAnd (s t : Env → Out Bool) : Env → Out Bool := fun ρ => (s ρ).bind fun b => if b = true then t ρ else .ok false
def bOr (s t : Env → Out Bool) : Env → Out Bool := fun ρ => (s ρ).bind fun b => if b = true then .ok true else t ρ
def bNot (s : Env → Out Bool) : Env → Out Bool := fun ρ => (s ρ).bind fun b => .ok (!b)
variable {fs ft : Env → Out Bool} {rest : List Expr}
theorem pwx_and1 (ha : PTx X g E Γ a Γ1 fs) : PWx X g E Γ (.BoolOp .And [a] pos) Γ1 fs := ⟨ha.le, pw_and1 ha.pe⟩
theorem pwx_or1 (ha : PTx X g E Γ a Γ1 fs) : PWx X g E Γ (.BoolOp .Or [a] pos) Γ1 fs := ⟨ha.le, pw_or1 ha.pe⟩
theorem PWx.pt {e : Expr} (h : PWx X g E Γ e Γ1 fs) : PTx X g E Γ e Γ1 fs := ⟨h.le, h.pe.pt⟩
/-- .. only what stays owned on both ways stays owned -/
theorem pwx_and (ha : PTx X g E Γ a Γ1 fs) (hb : PWx X g E Γ1 (.BoolOp .And (b :: rest) pos) Γ2 ft) : PWx X g E Γ (.BoolOp .And (a :: b :: rest) pos) Γ2 (bAnd fs ft) := by
  refine ⟨hb.le.trans ha.le, (pw_and ha.pe hb.pe).imp fun σ H Q ⟨ρ, Hf, R, k⟩ => ⟨ρ, Hf, R, ?_⟩⟩
  refine tG.bind hb.le k fun x F1 H1 s1 s2 R1 k1 => ?_
  cases x with
  | true => exact ⟨ρ, F1, R1, k1⟩
  | false =>
    obtain ⟨F2, s3, R2, _⟩ := R1.frz hb.le
    exact k1 F2 H1 s3 (Same.refl _) R2
theorem pwx_or (ha : PTx X g E Γ a Γ1 fs) (hb : PWx X g E Γ1 (.BoolOp .Or (b :: rest) pos) Γ2 ft) : PWx X g E Γ (.BoolOp .Or (a :: b :: rest) pos) Γ2 (bOr fs ft) := by
  refine ⟨hb.le.trans ha.le, (pw_or ha.pe hb.pe).imp fun σ H Q ⟨ρ, Hf, R, k⟩ => ⟨ρ, Hf, R, ?_⟩⟩
  refine tG.bind hb.le k fun x F1 H1 s1 s2 R1 k1 => ?_
  cases x with
  | false => exact ⟨ρ, F1, R1, k1⟩
  | true =>
    obtain ⟨F2, s3, R2, _⟩ := R1.frz hb.le
    exact k1 F2 H1 s3 (Same.refl _) R2
theorem ptx_not (ha : PTx X g E Γ a Γ1 fs) : PTx X g E Γ (.UnaryOp .Not a pos) Γ1 (bNot fs) := by
  refine ⟨ha.le, (pt_not ha.pe).imp fun σ H Q ⟨ρ, Hf, R, k⟩ => ⟨ρ, Hf, R, ?_⟩⟩
  exact tG.bind (Le.refl _) k fun x F1 H1 s1 s2 R1 k1 => k1 F1 H1 (Same.refl _) (Same.refl _) R1
/-- .. as values -/
def vAnd (a b : Env → Out D) : Env → Out D := fun ρ => (a ρ).bind fun x => match x with
  | .bl c => if c = true then b ρ else .ok (.bl false)
  | _ => .stuck
def vOr (a b : Env → Out D) : Env → Out D := fun ρ => (a ρ).bind fun x => match x with
  | .bl c => if c = true then .ok (.bl true) else b ρ
  | _ => .stuck
theorem px_one {op} (h : PX X g E Γ a Γ1 m fa) : PX X g E Γ (.BoolOp op [a] pos) Γ1 m fa := ⟨h.le, pe_one h.pe⟩
theorem px_and (ha : PX X g E Γ a Γ1 .rd fa) (hb : PX X g E Γ1 (.BoolOp .And (b :: rest) pos) Γ2 m fb) : PX X g E Γ (.BoolOp .And (a :: b :: rest) pos) Γ2 m (vAnd fa fb) := by
  refine ⟨hb.le.trans ha.le, (pe_and ha.pe hb.pe).imp fun σ H Q ⟨ρ, Hf, R, k⟩ => ⟨ρ, Hf, R, ?_⟩⟩
  refine tG.bind hb.le k fun x F1 H1 s1 s2 R1 k1 v hv => ?_
  cases x with
  | bl c =>
    refine ⟨c, hv, ?_⟩
    cases c with
    | true => exact ⟨ρ, F1, R1, k1⟩
    | false =>
      obtain ⟨F2, s3, R2, _⟩ := R1.frz hb.le
      exact k1 F2 H1 s3 (Same.refl _) R2 (.bl false) (Res.dat R2.same rfl (by simp only [IsD]))
  | _ => exact k1.elim
theorem px_or (ha : PX X g E Γ a Γ1 .rd fa) (hb : PX X g E Γ1 (.BoolOp .Or (b :: rest) pos) Γ2 m fb) : PX X g E Γ (.BoolOp .Or (a :: b :: rest) pos) Γ2 m (vOr fa fb) := by
  refine ⟨hb.le.trans ha.le, (pe_or ha.pe hb.pe).imp fun σ H Q ⟨ρ, Hf, R, k⟩ => ⟨ρ, Hf, R, ?_⟩⟩
  refine tG.bind hb.le k fun x F1 H1 s1 s2 R1 k1 v hv => ?_
  cases x with
  | bl c =>
    refine ⟨c, hv, ?_⟩
    cases c with
    | false => exact ⟨ρ, F1, R1, k1⟩
    | true =>
      obtain ⟨F2, s3, R2, _⟩ := R1.frz hb.le
      exact k1 F2 H1 s3 (Same.refl _) R2 (.bl true) (Res.dat R2.same rfl (by simp only [IsD]))
  | _ => exact k1.elim
def vNot (a : Env → Out D) : Env → Out D := fun ρ => (a ρ).bind fun x => match x with
  | .bl c => .ok (.bl (!c))
  | _ => .stuck
theorem px_not (ha : PX X g E Γ a Γ1 .rd fa) : PX X g E Γ (.UnaryOp .Not a pos) Γ1 m (vNot fa) := by
  refine ⟨ha.le, (pe_not ha.pe).imp fun σ H Q ⟨ρ, Hf, R, k⟩ => ⟨ρ, Hf, R, ?_⟩⟩
  refine tG.bind (Le.refl _) k fun x F1 H1 s1 s2 R1 k1 v hv => ?_
  cases x with
  | bl c => exact ⟨c, hv, k1 F1 H1 (Same.refl _) (Same.refl _) R1 (.bl (!c)) (Res.dat R1.same rfl (by simp only [IsD]))⟩
  | _ => exact k1.elim
def eIf (t : Env → Out Bool) (a b : Env → Out D) : Env → Out D := fun ρ => (t ρ).bind fun c => if c = true then a ρ else b ρ
theorem px_if {c : Expr} (hc : PTx X g E Γ c Γ1 ft) (ha : PX X g E Γ1 a Γ1 m fa) (hb : PX X g E Γ1 b Γ1 m fb) : PX X g E Γ (.IfExp c a b pos) Γ1 m (eIf ft fa fb) := by
  refine ⟨hc.le, (pe_ifExp hc.pe ha.pe hb.pe).imp fun σ H Q ⟨ρ, Hf, R, k⟩ => ⟨ρ, Hf, R, ?_⟩⟩
  refine tG.bind (Le.refl _) k fun x F1 H1 s1 s2 R1 k1 => ?_
  cases x with
  | true => exact ⟨ρ, F1, R1, k1⟩
  | false => exact ⟨ρ, F1, R1, k1⟩

/-! ### arguments, displays -/
variable {es : List Expr} {fr : Env → Out (List D)}
theorem pax_nil : PAx X g E Γ [] Γ aN := by
  refine ⟨Le.refl _, pa_nil.imp fun σ H Q ⟨ρ, Hf, R, k⟩ => ?_⟩
  exact k Hf H (Same.refl _) (Same.refl _) R [] (by simp only [IsDs])
theorem pax_cons (ha : PX X g E Γ a Γ1 .fr fa) (hr : PAx X g E Γ1 es Γ2 fr) (hs : starEach (a :: es) X.env = (false, eval a X.env) :: starEach es X.env := by rfl) : PAx X g E Γ (a :: es) Γ2 (aC fa fr) := by
  refine ⟨hr.le.trans ha.le, (pa_cons ha.pe hr.pe hs).imp fun σ H Q ⟨ρ, Hf, R, k⟩ => ⟨ρ, Hf, R, ?_⟩⟩
  refine tG.bind hr.le k fun x F1 H1 s1 s2 R1 k1 v hv => ⟨ρ, F1, R1, ?_⟩
  refine tG.bind (Le.refl _) k1 fun ys F2 H2 s3 s4 R2 k2 us hu => ?_
  refine k2 F2 H2 (Same.refl _) (Same.refl _) R2 (v :: us) ?_
  simp only [IsDs]
  exact ⟨v, us, rfl, IsD.mono s3 hv, hu⟩
theorem IsDs.len {K : PySem.W.Frag} {mg : Str → Option Value} {H : Hp} : ∀ {ds : List D} {vs : List V}, IsDs K mg H ds vs → vs.length = ds.length
  | [], vs, h => by simp only [IsDs] at h; rw [h]; rfl
  | d :: ds, vs, h => by
    simp only [IsDs] at h
    obtain ⟨v, us, e, _, r⟩ := h
    rw [e, List.length_cons, List.length_cons, IsDs.len r]
noncomputable def mkTup (ds : List D) : Out D := chk (ds.length ≤ sizeLine) (.ok (.tup ds))
noncomputable def mkLst (ds : List D) : Out D := chk (ds.length ≤ sizeLine) (.ok (.lst ds))
/-- a new object, that is data -/
theorem Rp.new {K : PySem.W.Frag} {mg : Str → Option Value} {ρ : Env} {σ : St} {Hf H : Hp} (R : Rp K mg g Γ ρ σ Hf H) {p : Addr} (o : HO) (n : H p = none) : Same Hf (upd Hf p o) ∧ Same H (upd H p o) ∧ Rp K mg g Γ ρ σ (upd Hf p o) (upd H p o) := by
  have nf : Hf p = none := R.same.free n
  have n0 : g.H0 p = none := R.ent.free n
  have s1 : Same Hf (upd Hf p o) := fun b x e => by rw [upd_ne (ne_of_none e nf)]; exact e
  have s2 : Same H (upd H p o) := fun b x e => by rw [upd_ne (ne_of_none e n)]; exact e
  refine ⟨s1, s2, ⟨fun b x e => ?_, R.ent.trans s2, R.ent2.trans s1, fun b x e => ?_, R.len, fun i d ow e => ?_, fun i d ow e => ?_, R.sep⟩⟩
  · by_cases h : b = p
    · subst h; rw [upd_same] at e ⊢; exact e
    · rw [upd_ne h] at e ⊢; exact R.same _ _ e
  · by_cases h : b = p
    · subst h; exact .inr n0
    · rw [upd_ne h] at e; exact R.news _ _ e
  · obtain ⟨v, e1, io⟩ := R.own i d ow e
    refine ⟨v, e1, ?_⟩
    cases d with
    | lst ds =>
      obtain ⟨a, xs, e, z0, zf, q, r⟩ := io
      exact ⟨a, xs, e, z0, by rw [upd_ne (ne_of_none q n)]; exact zf, s2 _ _ q, IsDs.mono s1 r⟩
    | dic ds =>
      obtain ⟨a, xs, e, z0, zf, q, r⟩ := io
      exact ⟨a, xs, e, z0, by rw [upd_ne (ne_of_none q n)]; exact zf, s2 _ _ q, IsKVs.mono s1 r⟩
    | _ => exact IsD.mono s1 io
  · obtain ⟨v, e1, q⟩ := R.dat i d ow e
    exact ⟨v, e1, q.mono s1⟩
/-- a new object that is owned -/
theorem Rp.newO {K : PySem.W.Frag} {mg : Str → Option Value} {ρ : Env} {σ : St} {Hf H : Hp} (R : Rp K mg g Γ ρ σ Hf H) {p : Addr} (o : HO) (n : H p = none) : Same H (upd H p o) ∧ Rp K mg g Γ ρ σ Hf (upd H p o) ∧ g.H0 p = none ∧ Hf p = none ∧
    ∀ i e, Own Γ i → ρ[i]? = some (some e) → e.mut = true → σ[i]? = some (some (.ref p)) → False := by
  have nf : Hf p = none := R.same.free n
  have n0 : g.H0 p = none := R.ent.free n
  have s2 : Same H (upd H p o) := fun b x e => by rw [upd_ne (ne_of_none e n)]; exact e
  refine ⟨s2, ⟨R.same.trans s2, R.ent.trans s2, R.ent2, R.news, R.len, fun i d ow e => ?_, R.dat, R.sep⟩, n0, nf, fun i e ow e1 m e2 => ?_⟩
  · obtain ⟨v, e1, io⟩ := R.own i d ow e
    refine ⟨v, e1, ?_⟩
    cases d with
    | lst ds =>
      obtain ⟨a, xs, e, z0, zf, q, r⟩ := io
      exact ⟨a, xs, e, z0, zf, s2 _ _ q, r⟩
    | dic ds =>
      obtain ⟨a, xs, e, z0, zf, q, r⟩ := io
      exact ⟨a, xs, e, z0, zf, s2 _ _ q, r⟩
    | _ => exact io
  · obtain ⟨v, e3, io⟩ := R.own i e ow e1
    obtain ⟨a, oo, e4, _, _, q⟩ := io.addr m
    rw [e2] at e3
    obtain rfl : V.ref p = v := Option.some.inj (Option.some.inj e3)
    obtain rfl : p = a := V.ref.inj e4
    rw [n] at q; cases q
theorem px_tup {k : Nat} (h : PAx X g E Γ es Γ1 fr) : PX X g E Γ (.Tuple es k pos) Γ1 m (eA mkTup fr) := by
  refine ⟨h.le, (pe_tup h.pe).imp fun σ H Q ⟨ρ, Hf, R, q⟩ => ⟨ρ, Hf, R, ?_⟩⟩
  refine tG.bind (Le.refl _) q fun ds F1 H1 s1 s2 R1 k1 vs hv => ?_
  unfold mkTup at k1
  by_cases z : ds.length ≤ sizeLine
  · rw [chk_pos z] at k1
    refine ⟨by rw [hv.len]; exact z, fun p n => ?_⟩
    obtain ⟨t1, t2, R2⟩ := R1.new (.tup vs) n
    refine k1 _ _ t1 t2 R2 _ (Res.dat R2.same rfl ?_)
    simp only [IsD]
    exact ⟨p, vs, rfl, .inl (.inl upd_same), IsDs.mono t1 hv⟩
  · rw [chk_neg z] at k1; exact k1.elim
theorem px_lst (h : PAx X g E Γ es Γ1 fr) : PX X g E Γ (.List es pos) Γ1 .ow (eA mkLst fr) := by
  refine ⟨h.le, (pe_lst h.pe).imp fun σ H Q ⟨ρ, Hf, R, q⟩ => ⟨ρ, Hf, R, ?_⟩⟩
  refine tG.bind (Le.refl _) q fun ds F1 H1 s1 s2 R1 k1 vs hv => ?_
  unfold mkLst at k1
  by_cases z : ds.length ≤ sizeLine
  · rw [chk_pos z] at k1
    refine ⟨by rw [hv.len]; exact z, fun p n => ?_⟩
    obtain ⟨t2, R2, n0, nf, ap⟩ := R1.newO (.lst vs) n
    exact k1 _ _ (Same.refl _) t2 R2 (.ref p) ⟨⟨p, vs, rfl, n0, nf, upd_same, hv⟩, fun i e ow e1 m _ e2 => ap i e ow e1 m e2⟩
  · rw [chk_neg z] at k1; exact k1.elim
end
end PD

namespace PD
open PySem PySem.Spec L2
open PyProof.Rows hiding St

/-! ## statements -/
structure PSx (X : Cx) (g : G) (E : WX) (ro : Bool) (Γl : List Bool) (Γ : List Bool) (st : Stmt) (Γ' : List Bool) (f : Env → SO) : Prop where
  ps : PS X st (fun Dn σ H => ∃ ρ Hf, Rp X.K X.mg g Γ ρ σ Hf H ∧ sR X.K X.mg g E Γ' Γl ro Dn (f ρ))
structure PSsx (X : Cx) (g : G) (E : WX) (ro : Bool) (Γl : List Bool) (Γ : List Bool) (st : List Stmt) (Γ' : List Bool) (f : Env → SO) : Prop where
  ps : PSs X st (fun Dn σ H => ∃ ρ Hf, Rp X.K X.mg g Γ ρ σ Hf H ∧ sR X.K X.mg g E Γ' Γl ro Dn (f ρ))
theorem _root_.L2.PS.imp {X : Cx} {e : Stmt} {t t' : TS} (h : PS X e t) (w : ∀ D σ H, t' D σ H → t D σ H) : PS X e t' :=
  ⟨fun pins s σ H D I q => h.run pins s σ H D I (w D σ H q)⟩
theorem _root_.L2.PSs.imp {X : Cx} {e : List Stmt} {t t' : TS} (h : PSs X e t) (w : ∀ D σ H, t' D σ H → t D σ H) : PSs X e t' :=
  ⟨fun pins s σ H D I q => h.run pins s σ H D I (w D σ H q)⟩
theorem _root_.L2.PG.imp {X : Cx} {e : Expr} {t t' : TG} (h : PG X e t) (w : ∀ v σ H Q, t' v σ H Q → t v σ H Q) : PG X e t' :=
  ⟨fun pins s σ H v u Q I r q => h.run pins s σ H v u Q I r (w v σ H Q q)⟩
theorem _root_.L2.PGs.imp {X : Cx} {e : List Expr} {t t' : TGs} (h : PGs X e t) (w : ∀ v σ H Q, t' v σ H Q → t v σ H Q) : PGs X e t' :=
  ⟨fun pins s σ H v u Q I r q => h.run pins s σ H v u Q I r (w v σ H Q q)⟩

/-! ### meanings -/
def sNx : Env → SO := fun ρ => .nx ρ
def sBk : Env → SO := fun ρ => .bk ρ
def sCt : Env → SO := fun ρ => .ct ρ
def SO.andThen (o : SO) (k : Env → SO) : SO := match o with
  | .nx r => k r
  | o => o
def sSeq (f k : Env → SO) : Env → SO := fun ρ => (f ρ).andThen k
def oS {α : Type} (o : Out α) (k : α → SO) : SO := match o with
  | .ok a => k a
  | .exc x => .ex x
  | .stuck => .stuck
@[simp] theorem oS_ok {α : Type} (a : α) (k : α → SO) : oS (.ok a) k = k a := rfl
@[simp] theorem oS_exc {α : Type} (x : Exn) (k : α → SO) : oS (.exc x) k = .ex x := rfl
@[simp] theorem oS_stuck {α : Type} (k : α → SO) : oS (.stuck : Out α) k = .stuck := rfl
@[simp] theorem andThen_nx (r : Env) (k : Env → SO) : (SO.nx r).andThen k = k r := rfl
@[simp] theorem andThen_rt (d : D) (k : Env → SO) : (SO.rt d).andThen k = .rt d := rfl
@[simp] theorem andThen_bk (r : Env) (k : Env → SO) : (SO.bk r).andThen k = .bk r := rfl
@[simp] theorem andThen_ct (r : Env) (k : Env → SO) : (SO.ct r).andThen k = .ct r := rfl
@[simp] theorem andThen_ex (x : Exn) (k : Env → SO) : (SO.ex x).andThen k = .ex x := rfl
@[simp] theorem andThen_stuck (k : Env → SO) : SO.stuck.andThen k = .stuck := rfl
def sSet (i : Nat) (f : Env → Out D) : Env → SO := fun ρ => oS (f ρ) fun d => .nx (ρ.set i (some d))
def sIf (t : Env → Out Bool) (a b : Env → SO) : Env → SO := fun ρ => oS (t ρ) fun c => if c = true then a ρ else b ρ
def sRet (f : Env → Out D) : Env → SO := fun ρ => oS (f ρ) .rt
def sRetN : Env → SO := fun _ => .rt .non
def sExpr (f : Env → Out D) : Env → SO := fun ρ => oS (f ρ) fun _ => .nx ρ
/-- a target: what it stores -/
def gN (i : Nat) : D → Env → Out Env := fun d ρ => .ok (ρ.set i (some d))
def gT (gs : List (D → Env → Out Env)) : D → Env → Out Env := fun d ρ => match d with
  | .tup ds => if ds.length = gs.length then (gs.zip ds).foldl (fun o p => o.bind (p.1 p.2)) (.ok ρ) else .stuck
  | .lst ds => if ds.length = gs.length then (gs.zip ds).foldl (fun o p => o.bind (p.1 p.2)) (.ok ρ) else .stuck
  | _ => .stuck
def sAsg (G : D → Env → Out Env) (f : Env → Out D) : Env → SO := fun ρ => oS (f ρ) fun d => oS (G d ρ) .nx
/-- behind a loop's turn -/
def SO.turn (o : SO) (k : Env → SO) : SO := match o with
  | .nx r => k r
  | .ct r => k r
  | .bk r => .nx r
  | o => o
@[simp] theorem turn_nx (r : Env) (k : Env → SO) : (SO.nx r).turn k = k r := rfl
@[simp] theorem turn_ct (r : Env) (k : Env → SO) : (SO.ct r).turn k = k r := rfl
@[simp] theorem turn_bk (r : Env) (k : Env → SO) : (SO.bk r).turn k = .nx r := rfl
@[simp] theorem turn_rt (d : D) (k : Env → SO) : (SO.rt d).turn k = .rt d := rfl
@[simp] theorem turn_ex (x : Exn) (k : Env → SO) : (SO.ex x).turn k = .ex x := rfl
@[simp] theorem turn_stuck (k : Env → SO) : SO.stuck.turn k = .stuck := rfl
/-- a loop over items -/
def forL (G : D → Env → Out Env) (b : Env → SO) : List D → Env → SO
  | [], ρ => .nx ρ
  | d :: ds, ρ => oS (G d ρ) fun ρ1 => (b ρ1).turn fun r => forL G b ds r
def sFor (G : D → Env → Out Env) (it : Env → Out (List D)) (b : Env → SO) : Env → SO := fun ρ => oS (it ρ) fun ds => forL G b ds ρ
def whileN (t : Env → Out Bool) (b : Env → SO) : Nat → Env → SO
  | 0, _ => .stuck
  | n + 1, ρ => oS (t ρ) fun c => if c = true then (b ρ).turn fun r => whileN t b n r else .nx ρ
open Classical in
noncomputable def sWhile (t : Env → Out Bool) (b : Env → SO) : Env → SO := fun ρ => if h : ∃ n, whileN t b n ρ ≠ .stuck then whileN t b (Classical.choose h) ρ else .stuck
theorem whileN_more {t : Env → Out Bool} {b : Env → SO} : ∀ {n : Nat} {ρ : Env}, whileN t b n ρ ≠ .stuck → ∀ m, n ≤ m → whileN t b m ρ = whileN t b n ρ
  | 0, ρ, h, _, _ => absurd rfl h
  | n + 1, ρ, h, 0, l => absurd l (by omega)
  | n + 1, ρ, h, m + 1, l => by
    unfold whileN at h ⊢
    cases ht : t ρ with
    | ok c =>
      rw [ht] at h
      simp only [oS_ok] at h ⊢
      cases c with
      | true =>
        simp only [if_true] at h ⊢
        cases hb : b ρ with
        | nx r => rw [hb] at h; exact whileN_more h m (by omega)
        | ct r => rw [hb] at h; exact whileN_more h m (by omega)
        | _ => rfl
      | false => rfl
    | exc x => rfl
    | stuck => rfl
theorem sWhile_eq {t : Env → Out Bool} {b : Env → SO} {n : Nat} {ρ : Env} (h : whileN t b n ρ ≠ .stuck) : sWhile t b ρ = whileN t b n ρ := by
  have hx : ∃ n, whileN t b n ρ ≠ .stuck := ⟨n, h⟩
  have hc := Classical.choose_spec hx
  unfold sWhile
  rw [dif_pos hx]
  rcases Nat.le_total (Classical.choose hx) n with l | l
  · exact (whileN_more hc n l).symm
  · exact whileN_more h _ l
theorem sWhile_some {t : Env → Out Bool} {b : Env → SO} {ρ : Env} (h : sWhile t b ρ ≠ .stuck) : ∃ n, whileN t b n ρ = sWhile t b ρ := by
  unfold sWhile at h ⊢
  by_cases hx : ∃ n, whileN t b n ρ ≠ .stuck
  · rw [dif_pos hx]; exact ⟨_, rfl⟩
  · rw [dif_neg hx] at h; exact absurd rfl h

section
variable {X : Cx} {g : G} {E : WX} {ro : Bool} {Γl Γ Γ1 Γ2 Γ3 : List Bool} {m : Md} {pos : Pos}

/-! ### small ones -/
theorem sR.imp {Dn Dn' : Ends} {o : SO} (h : sR X.K X.mg g E Γ1 Γl ro Dn o) (w : ∀ ρ σ Hf H, o = .nx ρ → Rp X.K X.mg g Γ1 ρ σ Hf H → Dn.nx σ H → Dn'.nx σ H) (e1 : Dn'.rt = Dn.rt) (e2 : Dn'.bk = Dn.bk) (e3 : Dn'.ct = Dn.ct) : sR X.K X.mg g E Γ1 Γl ro Dn' o := by
  cases o with
  | nx ρ => exact fun σ Hf H R => w ρ σ Hf H rfl R (h σ Hf H R)
  | rt d => unfold sR at h ⊢; rw [e1]; exact h
  | bk ρ => unfold sR at h ⊢; rw [e2]; exact h
  | ct ρ => unfold sR at h ⊢; rw [e3]; exact h
  | ex x => exact h
  | stuck => exact h
theorem pssx_nil : PSsx X g E ro Γl Γ [] Γ sNx := ⟨pss_nil.imp fun D σ H ⟨ρ, Hf, R, q⟩ => q σ Hf H R⟩
theorem psx_pass : PSx X g E ro Γl Γ (.Pass pos) Γ sNx := ⟨ps_pass.imp fun D σ H ⟨ρ, Hf, R, q⟩ => q σ Hf H R⟩
theorem psx_break : PSx X g E ro Γl Γl (.Break pos) Γ sBk := ⟨ps_break.imp fun D σ H ⟨ρ, Hf, R, q⟩ => q σ Hf H R⟩
theorem psx_cont : PSx X g E ro Γl Γl (.Continue pos) Γ sCt := ⟨ps_continue.imp fun D σ H ⟨ρ, Hf, R, q⟩ => q σ Hf H R⟩
theorem psx_doc {x j pos'} : PSx X g E ro Γl Γ (.Expr (.Constant (.str x) j pos) pos') Γ sNx := ⟨ps_doc.imp fun D σ H ⟨ρ, Hf, R, q⟩ => q σ Hf H R⟩
theorem pssx_one {st : Stmt} {f : Env → SO} (h : PSx X g E ro Γl Γ st Γ1 f) : PSsx X g E ro Γl Γ [st] Γ1 f := ⟨pss_one h.ps⟩
theorem pssx_cons {st : Stmt} {r : List Stmt} {f k : Env → SO} (h : PSx X g E ro Γl Γ st Γ1 f) (hr : PSsx X g E ro Γl Γ1 r Γ2 k) : PSsx X g E ro Γl Γ (st :: r) Γ2 (sSeq f k) := by
  refine ⟨(pss_cons h.ps hr.ps).imp fun D σ H ⟨ρ, Hf, R, q⟩ => ⟨ρ, Hf, R, ?_⟩⟩
  unfold sSeq at q
  cases hf : f ρ with
  | nx r => rw [hf] at q; exact fun σ' Hf' H' R' => ⟨r, Hf', R', q⟩
  | rt d => rw [hf] at q; exact q
  | bk r => rw [hf] at q; exact q
  | ct r => rw [hf] at q; exact q
  | ex x => rw [hf] at q; exact q
  | stuck => rw [hf] at q; exact q
/-- less is owned behind it -/
theorem sR.less {Dn : Ends} {o : SO} (le : Le Γ2 Γ1) (h : sR X.K X.mg g E Γ2 Γl ro Dn o) : sR X.K X.mg g E Γ1 Γl ro Dn o := by
  cases o with
  | nx ρ =>
    intro σ Hf H R
    obtain ⟨F', s1, R', _⟩ := R.frz le
    exact h σ F' H R'
  | _ => exact h
theorem PSsx.less {st : List Stmt} {f : Env → SO} (h : PSsx X g E ro Γl Γ st Γ1 f) (le : Le Γ2 Γ1) : PSsx X g E ro Γl Γ st Γ2 f :=
  ⟨h.ps.imp fun D σ H ⟨ρ, Hf, R, q⟩ => ⟨ρ, Hf, R, q.less le⟩⟩
theorem PSx.less {st : Stmt} {f : Env → SO} (h : PSx X g E ro Γl Γ st Γ1 f) (le : Le Γ2 Γ1) : PSx X g E ro Γl Γ st Γ2 f :=
  ⟨h.ps.imp fun D σ H ⟨ρ, Hf, R, q⟩ => ⟨ρ, Hf, R, q.less le⟩⟩
/-- less is owned ahead of it -/
theorem PSx.pre {st : Stmt} {f : Env → SO} (h : PSx X g E ro Γl Γ st Γ1 f) (le : Le Γ Γ2) : PSx X g E ro Γl Γ2 st Γ1 f :=
  ⟨h.ps.imp fun D σ H ⟨ρ, Hf, R, q⟩ => by
    obtain ⟨F', s1, R', _⟩ := R.frz le
    exact ⟨ρ, F', R', q⟩⟩
/-- nothing comes behind it: any flags -/
theorem sR.any {Dn : Ends} {o : SO} (n : ∀ ρ, o ≠ .nx ρ) (h : sR X.K X.mg g E Γ2 Γl ro Dn o) : sR X.K X.mg g E Γ1 Γl ro Dn o := by
  cases o with
  | nx ρ => exact absurd rfl (n ρ)
  | _ => exact h
theorem tG.toS {Dn : Ends} {Γ1 : List Bool} {ρ : Env} {σ : St} {Hf H : Hp} {α : Type} {P : α → Hp → Hp → Prop} {o : Out α} {k : α → SO} (h : sR X.K X.mg g E Γ2 Γl ro Dn (oS o k))
    (hk : ∀ a Hf' H', Same Hf Hf' → Same H H' → Rp X.K X.mg g Γ1 ρ σ Hf' H' → sR X.K X.mg g E Γ2 Γl ro Dn (k a) → P a Hf' H') : tG X.K X.mg g E Γ1 ρ σ Hf H P o := by
  cases o with
  | ok a => exact fun F1 H1 s1 s2 R1 => hk a F1 H1 s1 s2 R1 h
  | exc x => exact fun c dd F1 H1 s1 s2 R1 q => h c dd σ H1 R1.ent q
  | stuck => exact h
theorem psx_expr {e : Expr} {f : Env → Out D} (he : PX X g E Γ e Γ1 .rd f) (hs : swapsWith e none pos.line X.env = pure false := by rfl) : PSx X g E ro Γl Γ (.Expr e pos) Γ1 (sExpr f) := by
  refine ⟨(ps_expr he.pe hs).imp fun D σ H ⟨ρ, Hf, R, q⟩ => ⟨ρ, Hf, R, tG.toS q fun d F1 H1 s1 s2 R1 k v hv => k σ F1 H1 R1⟩⟩
theorem psx_ret {e : Expr} {f : Env → Out D} (he : PX X g E Γ e Γ1 .fr f) : PSx X g E false Γl Γ (.Return (some e) pos) Γ2 (sRet f) := by
  refine ⟨(ps_ret he.pe).imp fun D σ H ⟨ρ, Hf, R, q⟩ => ⟨ρ, Hf, R, tG.toS q fun d F1 H1 s1 s2 R1 k v hv => ?_⟩⟩
  exact k v F1 H1 R1.same R1.ent R1.ent2 R1.news (by unfold RetRes; rw [if_neg Bool.false_ne_true]; exact hv)
theorem psx_retO {e : Expr} {f : Env → Out D} (he : PX X g E Γ e Γ1 .ow f) : PSx X g E true Γl Γ (.Return (some e) pos) Γ2 (sRet f) := by
  refine ⟨(ps_ret he.pe).imp fun D σ H ⟨ρ, Hf, R, q⟩ => ⟨ρ, Hf, R, tG.toS q fun d F1 H1 s1 s2 R1 k v hv => ?_⟩⟩
  exact k v F1 H1 R1.same R1.ent R1.ent2 R1.news (by unfold RetRes; rw [if_pos rfl]; exact hv.1)
/-- return x, x owned -/
theorem psx_retV {x : Str} {i : Nat} {p : Pos} (h : PE X (.Name x p) (tVar i)) (o : Γ.getD i false = true) : PSx X g E true Γl Γ (.Return (some (.Name x p)) pos) Γ2 (sRet (eV i)) := by
  refine ⟨(ps_ret h).imp fun D σ H ⟨ρ, Hf, R, q⟩ => ?_⟩
  unfold sRet at q
  cases he : eV i ρ with
  | ok d =>
    rw [he] at q
    obtain ⟨v, e1, io⟩ := R.own i d o (eV_ok he)
    exact ⟨v, e1, q v Hf H R.same R.ent R.ent2 R.news (by unfold RetRes; rw [if_pos rfl]; exact io)⟩
  | exc x => exact (eV_nx he).elim
  | stuck => rw [he] at q; exact q.elim
theorem psx_retN : PSx X g E ro Γl Γ (.Return none pos) Γ2 sRetN := by
  refine ⟨ps_retN.imp fun D σ H ⟨ρ, Hf, R, q⟩ => ?_⟩
  refine q .non Hf H R.same R.ent R.ent2 R.news ?_
  unfold RetRes
  cases ro <;> simp [IsO, IsD]
theorem psx_if {c : Expr} {a b : List Stmt} {ft : Env → Out Bool} {fa fb : Env → SO} (hc : PTx X g E Γ c Γ1 ft) (ha : PSsx X g E ro Γl Γ1 a Γ2 fa) (hb : PSsx X g E ro Γl Γ1 b Γ2 fb) : PSx X g E ro Γl Γ (.If c a b pos) Γ2 (sIf ft fa fb) := by
  refine ⟨(ps_if hc.pe ha.ps hb.ps).imp fun D σ H ⟨ρ, Hf, R, q⟩ => ⟨ρ, Hf, R, tG.toS q fun d F1 H1 s1 s2 R1 k => ?_⟩⟩
  cases d with
  | true => exact ⟨ρ, F1, R1, k⟩
  | false => exact ⟨ρ, F1, R1, k⟩

/-! ### stores -/
theorem getD_set {Γ : List Bool} {i j : Nat} {b : Bool} : (Γ.set i b).getD j false = if i = j ∧ i < Γ.length then b else Γ.getD j false := by
  rw [List.getD_eq_getElem?_getD, List.getElem?_set, List.getD_eq_getElem?_getD]
  by_cases e : i = j
  · subst e
    by_cases l : i < Γ.length
    · simp [l]
    · simp [l]
  · simp [e]
theorem set_get {α : Type} {l : List (Option α)} {i j : Nat} {x y : α} (h : (l.set i (some x))[j]? = some (some y)) : (i = j ∧ i < l.length ∧ x = y) ∨ (i ≠ j ∧ l[j]? = some (some y)) := by
  rw [List.getElem?_set] at h
  by_cases e : i = j
  · rw [if_pos e] at h
    by_cases l' : i < l.length
    · rw [if_pos l'] at h; exact .inl ⟨e, l', Option.some.inj (Option.some.inj h)⟩
    · rw [if_neg l'] at h; cases h
  · rw [if_neg e] at h; exact .inr ⟨e, h⟩
theorem Rp.setF {K : PySem.W.Frag} {mg : Str → Option Value} {ρ : Env} {σ : St} {Hf H : Hp} (R : Rp K mg g Γ ρ σ Hf H) {i : Nat} {d : D} {v : V} (h : IsD K mg Hf d v) : Rp K mg g (Γ.set i false) (ρ.set i (some d)) (σ.set i (some v)) Hf H := by
  have ne : ∀ {j}, Own (Γ.set i false) j → i ≠ j ∨ ¬ i < Γ.length := fun {j} o => by
    unfold Own at o; rw [getD_set] at o
    by_cases z : i = j ∧ i < Γ.length
    · rw [if_pos z] at o; cases o
    · by_cases e : i = j
      · exact .inr fun l => z ⟨e, l⟩
      · exact .inl e
  have ow : ∀ {j}, Own (Γ.set i false) j → i ≠ j ∧ Own Γ j := fun {j} o => by
    have o' := Le.set Γ i j o
    refine ⟨fun e => ?_, o'⟩
    rcases ne o with z | z
    · exact z e
    · subst e
      unfold Own at o'
      rw [List.getD_eq_getElem?_getD, List.getElem?_eq_none (by omega)] at o'
      simp at o'
  have sg : ∀ {j}, i ≠ j → (σ.set i (some v))[j]? = σ[j]? := fun {j} e => by rw [List.getElem?_set]; simp [e]
  refine ⟨R.same, R.ent, R.ent2, R.news, by simp [R.len], fun j d' o e => ?_, fun j d' o e => ?_, fun j k d' e v n o1 o2 e1 e2 m1 m2 s1 s2 => ?_⟩
  · obtain ⟨nij, oΓ⟩ := ow o
    rcases set_get e with ⟨e', _⟩ | ⟨_, e'⟩
    · exact absurd e' nij
    · rw [sg nij]; exact R.own j d' oΓ e'
  · rcases set_get e with ⟨rfl, l, rfl⟩ | ⟨nij, e'⟩
    · exact ⟨v, by rw [List.getElem?_set_self (by rw [R.len]; exact l)], h⟩
    · rw [sg nij]
      refine R.dat j d' (fun z => o ?_) e'
      unfold Own; rw [getD_set, if_neg (fun q => nij q.1)]; exact z
  · obtain ⟨n1, p1⟩ := ow o1
    obtain ⟨n2, p2⟩ := ow o2
    rw [sg n1] at s1; rw [sg n2] at s2
    rcases set_get e1 with ⟨z, _⟩ | ⟨_, e1'⟩
    · exact n1 z
    · rcases set_get e2 with ⟨z, _⟩ | ⟨_, e2'⟩
      · exact n2 z
      · exact R.sep j k d' e _ n p1 p2 e1' e2' m1 m2 s1 s2
theorem Rp.setO {K : PySem.W.Frag} {mg : Str → Option Value} {ρ : Env} {σ : St} {Hf H : Hp} (R : Rp K mg g Γ ρ σ Hf H) {i : Nat} {d : D} {v : V} (hi : i < Γ.length) (h : IsO K mg g.H0 Hf H d v)
    (ap : ∀ i e, Own Γ i → ρ[i]? = some (some e) → e.mut = true → d.mut = true → σ[i]? = some (some v) → False) : Rp K mg g (Γ.set i true) (ρ.set i (some d)) (σ.set i (some v)) Hf H := by
  have sg : ∀ {j}, i ≠ j → (σ.set i (some v))[j]? = σ[j]? := fun {j} e => by rw [List.getElem?_set]; simp [e]
  have ow : ∀ {j}, i ≠ j → (Own (Γ.set i true) j ↔ Own Γ j) := fun {j} e => by unfold Own; rw [getD_set, if_neg fun q => e q.1]
  have oi : Own (Γ.set i true) i := by unfold Own; rw [getD_set, if_pos ⟨rfl, hi⟩]
  refine ⟨R.same, R.ent, R.ent2, R.news, by simp [R.len], fun j d' o e => ?_, fun j d' o e => ?_, fun j k d' e v' n o1 o2 e1 e2 m1 m2 s1 s2 => ?_⟩
  · rcases set_get e with ⟨rfl, l, rfl⟩ | ⟨nij, e'⟩
    · exact ⟨v, by rw [List.getElem?_set_self (by rw [R.len]; exact l)], h⟩
    · rw [sg nij]; exact R.own j d' ((ow nij).mp o) e'
  · rcases set_get e with ⟨rfl, l, rfl⟩ | ⟨nij, e'⟩
    · exact absurd oi o
    · rw [sg nij]; exact R.dat j d' (fun z => o ((ow nij).mpr z)) e'
  · rcases set_get e1 with ⟨rfl, l1, rfl⟩ | ⟨n1, e1'⟩
    · rcases set_get e2 with ⟨rfl, _⟩ | ⟨n2, e2'⟩
      · exact n rfl
      · rw [sg n2] at s2
        rw [List.getElem?_set_self (by rw [R.len]; exact l1)] at s1
        obtain rfl : v = v' := Option.some.inj (Option.some.inj s1)
        exact ap k e ((ow n2).mp o2) e2' m2 m1 s2
    · rw [sg n1] at s1
      rcases set_get e2 with ⟨rfl, l2, rfl⟩ | ⟨n2, e2'⟩
      · rw [List.getElem?_set_self (by rw [R.len]; exact l2)] at s2
        obtain rfl : v = v' := Option.some.inj (Option.some.inj s2)
        exact ap j d' ((ow n1).mp o1) e1' m1 m2 s1
      · rw [sg n2] at s2
        exact R.sep j k d' e v' n ((ow n1).mp o1) ((ow n2).mp o2) e1' e2' m1 m2 s1 s2
/-- x = e, data -/
theorem psx_set {i : Nat} {x : Str} {e : Expr} {p : Pos} {f : Env → Out D} (hN : X.N.Nodup) (hi : X.N[i]? = some x) (hx : Loc X.env.scope x) (he : PX X g E Γ e Γ1 .fr f) (hf : X.fn x = true ∨ X.env.scope.names.lookup x = some .local := by first | exact .inl rfl | exact .inr rfl | assumption) (hs : swapsWith e (some (.Name x p)) pos.line X.env = pure false := by rfl) :
    PSx X g E ro Γl Γ (.Assign [.Name x p] e pos) (Γ1.set i false) (sSet i f) := by
  refine ⟨(ps_set hN hi hx he.pe hs hf).imp fun D σ H ⟨ρ, Hf, R, q⟩ => ⟨ρ, Hf, R, tG.toS q fun d F1 H1 s1 s2 R1 k v hv => ?_⟩⟩
  exact k _ F1 H1 (R1.setF hv)
/-- x = e, owned -/
theorem psx_setO {i : Nat} {x : Str} {e : Expr} {p : Pos} {f : Env → Out D} (hN : X.N.Nodup) (hi : X.N[i]? = some x) (hx : Loc X.env.scope x) (he : PX X g E Γ e Γ1 .ow f) (hl : i < Γ1.length) (hf : X.fn x = true ∨ X.env.scope.names.lookup x = some .local := by first | exact .inl rfl | exact .inr rfl | assumption) (hs : swapsWith e (some (.Name x p)) pos.line X.env = pure false := by rfl) :
    PSx X g E ro Γl Γ (.Assign [.Name x p] e pos) (Γ1.set i true) (sSet i f) := by
  refine ⟨(ps_set hN hi hx he.pe hs hf).imp fun D σ H ⟨ρ, Hf, R, q⟩ => ⟨ρ, Hf, R, tG.toS q fun d F1 H1 s1 s2 R1 k v hv => ?_⟩⟩
  exact k _ F1 H1 (R1.setO hl hv.1 hv.2)

/-! ### targets -/
structure PGx (X : Cx) (g : G) (Γ : List Bool) (tg : Expr) (Γ' : List Bool) (F : D → Env → Out Env) : Prop where
  pg : PG X tg (fun v σ H Q => ∃ d ρ Hf, Rp X.K X.mg g Γ ρ σ Hf H ∧ IsD X.K X.mg Hf d v ∧ ∃ ρ', F d ρ = .ok ρ' ∧ ∀ σ', Rp X.K X.mg g Γ' ρ' σ' Hf H → Q σ' H)
structure PGsx (X : Cx) (g : G) (Γ : List Bool) (tg : List Expr) (Γ' : List Bool) (Fs : List (D → Env → Out Env)) : Prop where
  pg : PGs X tg (fun vs σ H Q => ∃ ds ρ Hf, Rp X.K X.mg g Γ ρ σ Hf H ∧ IsDs X.K X.mg Hf ds vs ∧ ds.length = Fs.length ∧ ∃ ρ', (Fs.zip ds).foldl (fun o p => o.bind (p.1 p.2)) (Out.ok ρ) = .ok ρ' ∧ ∀ σ', Rp X.K X.mg g Γ' ρ' σ' Hf H → Q σ' H)
theorem foldl_bad {l : List ((D → Env → Out Env) × D)} {o : Out Env} (h : ∀ r, o ≠ .ok r) : ∀ r, l.foldl (fun o p => o.bind (p.1 p.2)) o ≠ .ok r := by
  induction l generalizing o with
  | nil => exact h
  | cons p l ih =>
    intro r
    rw [List.foldl_cons]
    refine ih (fun r' => ?_) r
    cases o with
    | ok a => exact absurd rfl (h a)
    | exc x => intro z; cases z
    | stuck => intro z; cases z
theorem pgx_name {i : Nat} {x : Str} (hN : X.N.Nodup) (hi : X.N[i]? = some x) (hx : Loc X.env.scope x) (hf : X.fn x = true ∨ X.env.scope.names.lookup x = some .local := by first | exact .inl rfl | exact .inr rfl | assumption) : PGx X g Γ (.Name x pos) (Γ.set i false) (gN i) :=
  ⟨(pg_name hN hi hx hf).imp fun v σ H Q ⟨d, ρ, Hf, R, h, ρ', e, q⟩ => by
    cases e
    exact q _ (R.setF h)⟩
theorem pgsx_nil : PGsx X g Γ [] Γ [] := ⟨pgs_nil.imp fun vs σ H Q ⟨ds, ρ, Hf, R, h, l, ρ', e, q⟩ => by
  cases ds with
  | nil =>
    simp only [IsDs] at h
    cases e
    exact ⟨h, q σ R⟩
  | cons d ds => cases l⟩
theorem pgsx_cons {t : Expr} {ts : List Expr} {F : D → Env → Out Env} {Fs : List (D → Env → Out Env)} (h1 : PGx X g Γ t Γ1 F) (h2 : PGsx X g Γ1 ts Γ2 Fs)
    (hs : (assignEach (t :: ts) X.env).map (·.2) = assign t X.env :: (assignEach ts X.env).map (·.2) := by rfl) : PGsx X g Γ (t :: ts) Γ2 (F :: Fs) :=
  ⟨(pgs_cons h1.pg h2.pg hs).imp fun vs σ H Q ⟨ds, ρ, Hf, R, h, l, ρ', e, q⟩ => by
    cases ds with
    | nil => cases l
    | cons d ds =>
      simp only [IsDs] at h
      obtain ⟨v, us, ev, hv, hr⟩ := h
      subst ev
      rw [List.zip_cons_cons, List.foldl_cons] at e
      cases hF : F d ρ with
      | ok ρ1 =>
        simp only [Out.bind_ok, hF] at e
        exact ⟨v, us, rfl, d, ρ, Hf, R, hv, ρ1, hF, fun σ1 R1 => ⟨ds, ρ1, Hf, R1, hr, by simpa using l, ρ', e, q⟩⟩
      | exc x => simp only [Out.bind_ok, hF] at e; exact absurd e (foldl_bad (fun r z => by cases z) ρ')
      | stuck => simp only [Out.bind_ok, hF] at e; exact absurd e (foldl_bad (fun r z => by cases z) ρ')⟩
theorem _root_.L2.PG.or {e : Expr} {t t' : TG} (h : PG X e t) (h' : PG X e t') : PG X e (fun v σ H Q => t v σ H Q ∨ t' v σ H Q) :=
  ⟨fun pins s σ H v u Q I r q => q.elim (h.run pins s σ H v u Q I r) (h'.run pins s σ H v u Q I r)⟩
theorem pgx_tup {ts : List Expr} {k : Nat} {Fs : List (D → Env → Out Env)} (hc : X.calm = true) (h : PGsx X g Γ ts Γ1 Fs) (hn : (assignEach ts X.env).length = Fs.length := by rfl) (hst : (assignEach ts X.env).findIdx? (·.1) = none := by rfl) :
    PGx X g Γ (.Tuple ts k pos) Γ1 (gT Fs) :=
  ⟨((pg_tup hc h.pg hn hst).or (pg_unl hc h.pg hn hst)).imp fun v σ H Q ⟨d, ρ, Hf, R, h, ρ', e, q⟩ => by
    cases d with
    | tup ds =>
      simp only [IsD] at h
      obtain ⟨a, xs, ev, hq, hr⟩ := h
      unfold gT at e
      simp only at e
      by_cases l : ds.length = Fs.length
      · rw [if_pos l] at e
        exact .inl ⟨a, xs, ev, Same.seqT R.same hq, by rw [hr.len, l], ds, ρ, Hf, R, hr, l, ρ', e, q⟩
      · rw [if_neg l] at e; cases e
    | lst ds =>
      simp only [IsD] at h
      obtain ⟨a, xs, ev, hq, hr⟩ := h
      unfold gT at e
      simp only at e
      by_cases l : ds.length = Fs.length
      · rw [if_pos l] at e
        exact .inr ⟨a, xs, ev, .of (R.same _ _ hq), by rw [hr.len, l], ds, ρ, Hf, R, hr, l, ρ', e, q⟩
      · rw [if_neg l] at e; cases e
    | _ => cases e⟩
theorem psx_asg {tg e : Expr} {F : D → Env → Out Env} {f : Env → Out D} (he : PX X g E Γ e Γ1 .fr f) (hg : PGx X g Γ1 tg Γ2 F) (nx : ∀ d ρ x, F d ρ ≠ .exc x) (hs : swapsWithSole [tg] e pos.line X.env = pure false := by rfl) (hw : swappedStores [tg] e X.env = pure none := by rfl)
    (h1 : (assignEach [tg] X.env).map (·.2) = [assign tg X.env] := by rfl) : PSx X g E ro Γl Γ (.Assign [tg] e pos) Γ2 (sAsg F f) := by
  refine ⟨(ps_asg he.pe hg.pg hs hw h1).imp fun D σ H ⟨ρ, Hf, R, q⟩ => ⟨ρ, Hf, R, tG.toS q fun d F1 H1 s1 s2 R1 k v hv => ?_⟩⟩
  cases hF : F d ρ with
  | ok ρ' => rw [hF] at k; exact ⟨d, ρ, F1, R1, hv, ρ', hF, fun σ' R' => k σ' F1 H1 R'⟩
  | exc x => exact absurd hF (nx d ρ x)
  | stuck => rw [hF] at k; exact k.elim
theorem gN_nx {i : Nat} : ∀ d ρ x, gN i d ρ ≠ .exc x := fun d ρ x z => by cases z
theorem gT_nx {Fs : List (D → Env → Out Env)} (h : ∀ F ∈ Fs, ∀ d ρ x, F d ρ ≠ .exc x) : ∀ d ρ x, gT Fs d ρ ≠ .exc x := by
  have key : ∀ (l : List ((D → Env → Out Env) × D)) (o : Out Env), (∀ x, o ≠ .exc x) → (∀ p ∈ l, ∀ d ρ x, p.1 d ρ ≠ .exc x) → ∀ x, l.foldl (fun o p => o.bind (p.1 p.2)) o ≠ .exc x := by
    intro l
    induction l with
    | nil => intro o h _; exact h
    | cons p l ih =>
      intro o ho hl
      rw [List.foldl_cons]
      refine ih _ (fun x => ?_) fun q hq => hl q (List.mem_cons_of_mem _ hq)
      cases o with
      | ok a => exact hl p List.mem_cons_self p.2 a x
      | exc y => exact absurd rfl (ho y)
      | stuck => intro z; cases z
  intro d ρ x
  unfold gT
  cases d with
  | tup ds =>
    simp only
    by_cases l : ds.length = Fs.length
    · rw [if_pos l]
      refine key _ _ (fun x z => by cases z) (fun p hp => ?_) x
      exact h p.1 (List.of_mem_zip hp).1
    · rw [if_neg l]; intro z; cases z
  | lst ds =>
    simp only
    by_cases l : ds.length = Fs.length
    · rw [if_pos l]
      refine key _ _ (fun x z => by cases z) (fun p hp => ?_) x
      exact h p.1 (List.of_mem_zip hp).1
    · rw [if_neg l]; intro z; cases z
  | _ => intro z; cases z
end
end PD

namespace PD
open PySem PySem.Spec L2
open PyProof.Rows hiding St

theorem _root_.L2.PI.imp {X : Cx} {tg e : Expr} {t t' : TI} (h : PI X tg e t) (w : ∀ σ H Q, t' σ H Q → t σ H Q) : PI X tg e t' :=
  ⟨fun pins s σ H R I q => h.run pins s σ H R I (w σ H R q)⟩

/-! ## what is walked -/
def Walks (K : PySem.W.Frag) (mg : Str → Option Value) (H0 : Hp) (J : It) (F1 : Hp) (ds : List D) : Prop :=
  ∀ (g : G) Γ ρ σ Hf H, g.H0 = H0 → Same F1 Hf → Rp K mg g Γ ρ σ Hf H → ∀ i,
    (∀ d, ds[i]? = some d → J.go i H ∧ ∀ x H', J.yld i H x H' → ∃ Hf', Same Hf Hf' ∧ Same H H' ∧ Rp K mg g Γ ρ σ Hf' H' ∧ IsD K mg Hf' d x) ∧ (ds.length ≤ i → J.stop i H)
structure PIx (X : Cx) (g : G) (E : WX) (Γ : List Bool) (tg iter : Expr) (Γ' : List Bool) (f : Env → Out (List D)) : Prop where
  le : Le Γ' Γ
  pi : PI X tg iter (fun σ H R => ∃ ρ Hf, Rp X.K X.mg g Γ ρ σ Hf H ∧ tG X.K X.mg g E Γ' ρ σ Hf H (fun ds Hf' H' => ∀ J, Walks X.K X.mg g.H0 J Hf' ds → R J H') (f ρ))
def iSeq (f : Env → Out D) : Env → Out (List D) := fun ρ => (f ρ).bind fun d => match d with
  | .lst ds => .ok ds
  | .tup ds => .ok ds
  | .scr ns => .ok (ns.map .int)
  | _ => .stuck
noncomputable def rng1 : List D → Out (List D)
  | [.int j] => chk (-(2 ^ 62) ≤ j ∧ j < 2 ^ 62) (.ok ((List.range j.toNat).map fun (n : Nat) => .int n))
  | _ => .stuck
noncomputable def rng2 : List D → Out (List D)
  | [.int i, .int j] => chk ((-(2 ^ 62) ≤ i ∧ i < 2 ^ 62) ∧ -(2 ^ 62) ≤ j ∧ j < 2 ^ 62) (.ok ((List.range (j - i).toNat).map fun (n : Nat) => .int (i + n)))
  | _ => .stuck
noncomputable def iRange1 (f : Env → Out (List D)) : Env → Out (List D) := fun ρ => (f ρ).bind rng1
noncomputable def iRange2 (f : Env → Out (List D)) : Env → Out (List D) := fun ρ => (f ρ).bind rng2

section
variable {X : Cx} {tg : Expr}
/-- a list or a tuple -/
theorem pi_any {l : Expr} {tl : TE} (hl : PE X l tl) : PI X tg l (fun σ H R => tl σ H fun x H1 => ∃ a, x = .ref a ∧ (((∃ xs, SqL X.K H1 a xs) ∧ R (Itl X.K a) H1) ∨ ((∃ xs, SqT X.K H1 a xs) ∧ R (Itt X.K a) H1))) := by
  refine ⟨fun pins s σ H R I h => ?_⟩
  refine thn (hl.run pins s σ H _ I h) fun v s1 ⟨x, H1, I1, r1, q1⟩ => ?_
  obtain ⟨a, e, q⟩ := q1
  subst e
  cases r1
  rcases q with ⟨⟨xs, hq⟩, q⟩ | ⟨⟨xs, hq⟩, q⟩
  · obtain ⟨its, rv, p, hz⟩ := I1.list hq
    refine wpAny_pyIter_list p.isList ?_
    refine ⟨s1.heap.objs.size, [s1.heap.objs.size], _, _, H1, rfl, I1.kept (t' := s1.toks) fun b o e => Heap.get?_push_of_some _ e, turn_list a _, ⟨_, Heap.get?_push_size _ rfl, rfl, rfl⟩, fun b hb => ?_, q⟩
    have e : b = s1.heap.objs.size := by simpa using hb
    subst e
    exact I1.fpOk (Nat.le_refl _) (I1.hok.fresh (Nat.le_refl _))
  · obtain ⟨its, rv, p, hz⟩ := I1.tuple hq
    refine wpAny_pyIter_tuple (show s1.heap.IsTuple a its.toArray from p) ?_
    refine ⟨s1.heap.objs.size, [s1.heap.objs.size], _, _, H1, rfl, I1.kept (t' := s1.toks) fun b o e => Heap.get?_push_of_some _ e, turn_tuple a _, ⟨_, Heap.get?_push_size _ rfl, rfl, rfl⟩, fun b hb => ?_, q⟩
    have e : b = s1.heap.objs.size := by simpa using hb
    subst e
    exact I1.fpOk (Nat.le_refl _) (I1.hok.fresh (Nat.le_refl _))
end
theorem IsDs.at {K : PySem.W.Frag} {mg : Str → Option Value} {H : Hp} : ∀ {ds : List D} {vs : List V} {i : Nat} {d : D}, IsDs K mg H ds vs → ds[i]? = some d → ∃ v, vs[i]? = some v ∧ IsD K mg H d v
  | [], _, i, d, _, e => by simp at e
  | d :: ds, vs, 0, d', h, e => by
    simp only [IsDs] at h
    obtain ⟨v, us, rfl, q, r⟩ := h
    simp at e; subst e
    exact ⟨v, rfl, q⟩
  | d :: ds, vs, i + 1, d', h, e => by
    simp only [IsDs] at h
    obtain ⟨v, us, rfl, q, r⟩ := h
    have := IsDs.at (i := i) r (by simpa using e)
    simpa using this

section
variable {X : Cx} {g : G} {E : WX} {ro : Bool} {Γl Γ Γ1 Γ2 Γ3 : List Bool} {m : Md} {pos : Pos} {tg : Expr}
theorem walks_lst {K : PySem.W.Frag} {mg : Str → Option Value} {H0 F1 : Hp} {a : Addr} {xs : List V} {ds : List D} (h : SqL K F1 a xs) (r : IsDs K mg F1 ds xs) : Walks K mg H0 (Itl K a) F1 ds := by
  intro g Γ ρ σ Hf H e0 s R i
  have hq : SqL K H a xs := R.same.seq (s.seq h)
  refine ⟨fun d e => ?_, fun l => ⟨xs, hq, by rw [r.len]; exact l⟩⟩
  obtain ⟨v, ev, q⟩ := IsDs.at r e
  refine ⟨⟨xs, v, hq, ev⟩, fun x H' y => ?_⟩
  obtain ⟨rfl, y⟩ := y
  have := y xs hq
  rw [ev] at this
  cases this
  exact ⟨Hf, Same.refl _, Same.refl _, R, q.mono s⟩
theorem walks_tup {K : PySem.W.Frag} {mg : Str → Option Value} {H0 F1 : Hp} {a : Addr} {xs : List V} {ds : List D} (h : SqT K F1 a xs) (r : IsDs K mg F1 ds xs) : Walks K mg H0 (Itt K a) F1 ds := by
  intro g Γ ρ σ Hf H e0 s R i
  have hq : SqT K H a xs := Same.seqT R.same (Same.seqT s h)
  refine ⟨fun d e => ?_, fun l => ⟨xs, hq, by rw [r.len]; exact l⟩⟩
  obtain ⟨v, ev, q⟩ := IsDs.at r e
  refine ⟨⟨xs, v, hq, ev⟩, fun x H' y => ?_⟩
  obtain ⟨rfl, y⟩ := y
  have := y xs hq
  rw [ev] at this
  cases this
  exact ⟨Hf, Same.refl _, Same.refl _, R, q.mono s⟩
theorem walks_rng {K : PySem.W.Frag} {mg : Str → Option Value} {H0 F1 : Hp} {lo : Int} {n : Nat} : Walks K mg H0 (Itr lo n) F1 ((List.range n).map fun (k : Nat) => .int (lo + k)) := by
  intro g Γ ρ σ Hf H e0 s R i
  refine ⟨fun d e => ?_, fun l => show n ≤ i by simpa using l⟩
  rw [List.getElem?_map] at e
  by_cases l : i < n
  · rw [List.getElem?_range l] at e
    cases e
    refine ⟨l, fun x H' y => ?_⟩
    obtain ⟨rfl, rfl⟩ := y
    exact ⟨Hf, Same.refl _, Same.refl _, R, by simp only [IsD]⟩
  · rw [List.getElem?_eq_none (by simpa using l)] at e
    cases e
theorem IsDs.ints {K : PySem.W.Frag} {mg : Str → Option Value} {H : Hp} : ∀ ns : List Int, IsDs K mg H (ns.map .int) (ns.map V.int)
  | [] => by simp only [List.map_nil, IsDs]
  | n :: ns => by
    simp only [List.map_cons, IsDs, IsD]
    exact ⟨_, _, rfl, rfl, IsDs.ints ns⟩
theorem pix_seq {e : Expr} {f : Env → Out D} (h : PX X g E Γ e Γ1 .fr f) : PIx X g E Γ tg e Γ1 (iSeq f) := by
  refine ⟨h.le, (pi_any h.pe).imp fun σ H Q ⟨ρ, Hf, R, q⟩ => ⟨ρ, Hf, R, ?_⟩⟩
  refine tG.bind (Le.refl _) q fun d F1 H1 s1 s2 R1 k v hv => ?_
  cases d with
  | lst ds =>
    simp only [Res, IsD] at hv
    obtain ⟨a, xs, rfl, q1, q2⟩ := hv
    exact ⟨a, rfl, .inl ⟨⟨xs, R1.same.seq (.of q1)⟩, k F1 H1 (Same.refl _) (Same.refl _) R1 _ (walks_lst (.of q1) q2)⟩⟩
  | scr ns =>
    simp only [Res, IsD] at hv
    obtain ⟨a, rfl, q1⟩ := hv
    exact ⟨a, rfl, .inl ⟨⟨_, R1.same.seq q1⟩, k F1 H1 (Same.refl _) (Same.refl _) R1 _ (walks_lst q1 (IsDs.ints _))⟩⟩
  | tup ds =>
    simp only [Res, IsD] at hv
    obtain ⟨a, xs, rfl, q1, q2⟩ := hv
    exact ⟨a, rfl, .inr ⟨⟨xs, Same.seqT R1.same q1⟩, k F1 H1 (Same.refl _) (Same.refl _) R1 _ (walks_tup q1 q2)⟩⟩
  | _ => exact k.elim
theorem IsDs.one {K : PySem.W.Frag} {mg : Str → Option Value} {H : Hp} {d : D} {vs : List V} (h : IsDs K mg H [d] vs) : ∃ v, vs = [v] ∧ IsD K mg H d v := by
  simp only [IsDs] at h
  obtain ⟨v, us, e, q, rfl⟩ := h
  exact ⟨v, e, q⟩
theorem IsDs.two {K : PySem.W.Frag} {mg : Str → Option Value} {H : Hp} {d e : D} {vs : List V} (h : IsDs K mg H [d, e] vs) : ∃ v u, vs = [v, u] ∧ IsD K mg H d v ∧ IsD K mg H e u := by
  simp only [IsDs] at h
  obtain ⟨v, us, e1, q, u, us', e2, q2, rfl⟩ := h
  exact ⟨v, u, by rw [e1, e2], q, q2⟩
theorem pix_range1 {a : Expr} {p : Pos} {f : Env → Out (List D)} (hg : Gl X "range") (hm : X.mg "range" = none) (h : PAx X g E Γ [a] Γ1 f) (hs : starEach [a] X.env = [(false, eval a X.env)] := by rfl) :
    PIx X g E Γ tg (.Call (.Name "range" p) [a] [] pos) Γ1 (iRange1 f) := by
  refine ⟨h.le, (pi_range1 hg hm h.pe hs).imp fun σ H Q ⟨ρ, Hf, R, q⟩ => ⟨ρ, Hf, R, ?_⟩⟩
  refine tG.bind (Le.refl _) q fun ds F1 H1 s1 s2 R1 k vs hv => ?_
  unfold rng1 at k
  split at k
  · rename_i j
    obtain ⟨v, rfl, q1⟩ := hv.one
    simp only [IsD] at q1
    subst q1
    by_cases z : -(2 ^ 62) ≤ j ∧ j < 2 ^ 62
    · rw [chk_pos z] at k
      refine ⟨j, rfl, z.1, z.2, k F1 H1 (Same.refl _) (Same.refl _) R1 _ ?_⟩
      have := walks_rng (K := X.K) (mg := X.mg) (H0 := g.H0) (F1 := F1) (lo := 0) (n := j.toNat)
      simpa using this
    · rw [chk_neg z] at k; exact k.elim
  · exact k.elim
theorem pix_range2 {a b : Expr} {p : Pos} {f : Env → Out (List D)} (hg : Gl X "range") (hm : X.mg "range" = none) (h : PAx X g E Γ [a, b] Γ1 f) (hs : starEach [a, b] X.env = [(false, eval a X.env), (false, eval b X.env)] := by rfl) (hs2 : starEach [b] X.env = [(false, eval b X.env)] := by rfl) :
    PIx X g E Γ tg (.Call (.Name "range" p) [a, b] [] pos) Γ1 (iRange2 f) := by
  refine ⟨h.le, (pi_range2 hg hm h.pe hs hs2).imp fun σ H Q ⟨ρ, Hf, R, q⟩ => ⟨ρ, Hf, R, ?_⟩⟩
  refine tG.bind (Le.refl _) q fun ds F1 H1 s1 s2 R1 k vs hv => ?_
  unfold rng2 at k
  split at k
  · rename_i i j
    obtain ⟨v, u, rfl, q1, q2⟩ := hv.two
    simp only [IsD] at q1 q2
    subst q1; subst q2
    by_cases z : (-(2 ^ 62) ≤ i ∧ i < 2 ^ 62) ∧ -(2 ^ 62) ≤ j ∧ j < 2 ^ 62
    · rw [chk_pos z] at k
      exact ⟨i, j, rfl, ⟨z.1.1, z.1.2, z.2.1, z.2.2⟩, k F1 H1 (Same.refl _) (Same.refl _) R1 _ walks_rng⟩
    · rw [chk_neg z] at k; exact k.elim
  · exact k.elim

/-! ## loops -/
theorem Rp.ofG {K : PySem.W.Frag} {mg : Str → Option Value} {ρ : Env} {σ : St} {F1 Hf H : Hp} (s : Same g.F0 F1) (n : ∀ a o, F1 a = some o → g.F0 a = some o ∨ g.H0 a = none) (R : Rp K mg ⟨g.H0, F1⟩ Γ ρ σ Hf H) : Rp K mg g Γ ρ σ Hf H :=
  ⟨R.same, R.ent, s.trans R.ent2, fun a o e => (R.news a o e).elim (fun z => n a o z) .inr, R.len, R.own, R.dat, R.sep⟩
theorem Rp.toG {K : PySem.W.Frag} {mg : Str → Option Value} {ρ : Env} {σ : St} {F1 Hf H : Hp} (s : Same F1 Hf) (s0 : Same g.F0 F1) (R : Rp K mg g Γ ρ σ Hf H) : Rp K mg ⟨g.H0, F1⟩ Γ ρ σ Hf H :=
  ⟨R.same, R.ent, s, fun a o e => (R.news a o e).elim (fun z => .inl (s0 a o z)) .inr, R.len, R.own, R.dat, R.sep⟩
theorem sR.toG {F1 : Hp} {Dn : Ends} {o : SO} (s : Same g.F0 F1) (n : ∀ a o, F1 a = some o → g.F0 a = some o ∨ g.H0 a = none) (h : sR X.K X.mg g E Γ Γl ro Dn o) : sR X.K X.mg ⟨g.H0, F1⟩ E Γ Γl ro Dn o := by
  cases o with
  | nx ρ => exact fun σ Hf H R => h σ Hf H (R.ofG s n)
  | bk ρ => exact fun σ Hf H R => h σ Hf H (R.ofG s n)
  | ct ρ => exact fun σ Hf H R => h σ Hf H (R.ofG s n)
  | rt d => exact fun v Hf H s1 s2 s3 nw r => h v Hf H s1 s2 (s.trans s3) (fun a o e => (nw a o e).elim (fun z => n a o z) .inr) r
  | ex x => exact h
  | stuck => exact h
/-- what the loop's end is asked for -/
theorem psx_for {iter : Expr} {body : List Stmt} {G : D → Env → Out Env} {it : Env → Out (List D)} {fb : Env → SO} (hp : PassesOwn (model X.prog X.w) X.A X.env X.xe) (hc : X.calm = true) (hi : PIx X g E Γ tg iter Γ1 it)
    (hg : ∀ F1, PGx X ⟨g.H0, F1⟩ Γ1 tg Γ2 G) (nx : ∀ d ρ x, G d ρ ≠ .exc x) (hb : ∀ F1, PSsx X ⟨g.H0, F1⟩ E ro Γ1 Γ2 body Γ1 fb) (hs : ∀ x, foldedSetIterable iter X.env x = pure x := by intro _; rfl) :
    PSx X g E ro Γl Γ (.For tg iter body [] pos) Γ1 (sFor G it fb) := by
  refine ⟨⟨fun pins s σ H Dn I ⟨ρ, Hf, R, q⟩ => ?_⟩⟩
  -- the frozen part at the loop's start is told by the iterator
  let hbody : ∀ F1, PSs X body (fun Dn σ H => ∃ ρ Hf, Rp X.K X.mg ⟨g.H0, F1⟩ Γ2 ρ σ Hf H ∧ sR X.K X.mg ⟨g.H0, F1⟩ E Γ1 Γ1 ro Dn (fb ρ)) := fun F1 => (hb F1).ps
  let hgt : ∀ F1, PG X tg (fun v σ H Q => ∃ d ρ Hf, Rp X.K X.mg ⟨g.H0, F1⟩ Γ1 ρ σ Hf H ∧ IsD X.K X.mg Hf d v ∧ ∃ ρ', G d ρ = .ok ρ' ∧ ∀ σ', Rp X.K X.mg ⟨g.H0, F1⟩ Γ2 ρ' σ' Hf H → Q σ' H) := fun F1 => (hg F1).pg
  have HB : PSs X body (fun Dn σ H => ∃ F1 ρ Hf, Rp X.K X.mg ⟨g.H0, F1⟩ Γ2 ρ σ Hf H ∧ sR X.K X.mg ⟨g.H0, F1⟩ E Γ1 Γ1 ro Dn (fb ρ)) := ⟨fun pins s σ H D I ⟨F1, z⟩ => (hbody F1).run pins s σ H D I z⟩
  have HG : PG X tg (fun v σ H Q => ∃ F1 d ρ Hf, Rp X.K X.mg ⟨g.H0, F1⟩ Γ1 ρ σ Hf H ∧ IsD X.K X.mg Hf d v ∧ ∃ ρ', G d ρ = .ok ρ' ∧ ∀ σ', Rp X.K X.mg ⟨g.H0, F1⟩ Γ2 ρ' σ' Hf H → Q σ' H) := ⟨fun pins s σ H v u Q I r ⟨F1, z⟩ => (hgt F1).run pins s σ H v u Q I r z⟩
  refine (ps_for hp hc hi.pi HG HB hs).run pins s σ H Dn I ⟨ρ, Hf, R, ?_⟩
  refine tG.toS q fun ds F1 H1 s1 s2 R1 k J wk => ?_
  have sF : Same g.F0 F1 := R1.ent2
  have nF := R1.news
  refine ⟨fun i n σ H => n = ds.length - i ∧ i ≤ ds.length ∧ ∃ ρ Hf, Rp X.K X.mg ⟨g.H0, F1⟩ Γ1 ρ σ Hf H ∧ sR X.K X.mg g E Γ1 Γl ro Dn (forL G fb (ds.drop i) ρ), ⟨ds.length, by simp, Nat.zero_le _, ρ, F1, R1.toG (Same.refl _) sF, k⟩, ?_⟩
  rintro i n σ2 H2 ⟨rfl, hi', ρ2, Hf2, R2, k2⟩
  by_cases hlt : i < ds.length
  · have ed : ds[i]? = some ds[i] := by simp [hlt]
    have hd : ds.drop i = ds[i] :: ds.drop (i + 1) := List.drop_eq_getElem_cons hlt
    obtain ⟨go, yl⟩ := (wk ⟨g.H0, F1⟩ Γ1 ρ2 σ2 Hf2 H2 rfl R2.ent2 R2 i).1 _ ed
    refine .inr ⟨go, fun σ3 H3 => ∃ ρ Hf, Rp X.K X.mg ⟨g.H0, F1⟩ Γ1 ρ σ3 Hf H3 ∧ sR X.K X.mg g E Γ1 Γl ro Dn (forL G fb (ds.drop (i + 1)) ρ), fun σ3 H3 ⟨ρ3, Hf3, R3, k3⟩ => ⟨ds.length - (i + 1), by omega, rfl, hlt, ρ3, Hf3, R3, k3⟩, fun x H' y => ?_⟩
    obtain ⟨Hf3, s3, s4, R3, hx⟩ := yl x H' y
    rw [hd] at k2
    unfold forL at k2
    cases hG : G ds[i] ρ2 with
    | ok ρ3 =>
      rw [hG] at k2
      refine ⟨F1, ds[i], ρ2, Hf3, R3, hx, ρ3, hG, fun σ' R4 => ⟨F1, ρ3, Hf3, R4, ?_⟩⟩
      simp only [oS_ok] at k2
      cases hf : fb ρ3 with
      | nx r => rw [hf] at k2; exact fun σ5 Hf5 H5 R5 => ⟨r, Hf5, R5, k2⟩
      | ct r => rw [hf] at k2; exact fun σ5 Hf5 H5 R5 => ⟨r, Hf5, R5, k2⟩
      | bk r => rw [hf] at k2; exact fun σ5 Hf5 H5 R5 => k2 σ5 Hf5 H5 (R5.ofG sF nF)
      | rt d => rw [hf] at k2; exact fun v Hf H s1 s2 s3 nw r => k2 v Hf H s1 s2 (sF.trans s3) (fun a o e => (nw a o e).elim (fun z => nF a o z) .inr) r
      | ex x => rw [hf] at k2; exact k2
      | stuck => rw [hf] at k2; exact k2
    | exc x => exact absurd hG (nx _ _ x)
    | stuck => rw [hG] at k2; exact k2.elim
  · have e : i = ds.length := by omega
    subst e
    refine .inl ⟨(wk ⟨g.H0, F1⟩ Γ1 ρ2 σ2 Hf2 H2 rfl R2.ent2 R2 _).2 (Nat.le_refl _), ?_⟩
    rw [List.drop_length] at k2
    exact k2 σ2 Hf2 H2 (R2.ofG sF nF)
theorem psx_while {c : Expr} {body : List Stmt} {ft : Env → Out Bool} {fb : Env → SO} (hp : PassesOwn (model X.prog X.w) X.A X.env X.xe) (hc : PTx X g E Γ c Γ ft) (hb : PSsx X g E ro Γ Γ body Γ fb) : PSx X g E ro Γl Γ (.While c body [] pos) Γ (sWhile ft fb) := by
  refine ⟨(ps_while hp hc.pe hb.ps).imp fun Dn σ H ⟨ρ, Hf, R, q⟩ => ?_⟩
  by_cases st : sWhile ft fb ρ = .stuck
  · rw [st] at q; exact q.elim
  obtain ⟨n0, e0⟩ := sWhile_some st
  rw [← e0] at q
  refine ⟨fun n σ H => ∃ ρ Hf, Rp X.K X.mg g Γ ρ σ Hf H ∧ sR X.K X.mg g E Γ Γl ro Dn (whileN ft fb n ρ), ⟨n0, ρ, Hf, R, q⟩, ?_⟩
  rintro n σ1 H1 ⟨ρ1, Hf1, R1, k1⟩
  refine ⟨ρ1, Hf1, R1, ?_⟩
  cases n with
  | zero => exact k1.elim
  | succ n =>
    unfold whileN at k1
    refine tG.toS k1 fun b F2 H2 s1 s2 R2 k2 => ?_
    cases b with
    | true =>
      rw [if_pos rfl] at k2 ⊢
      refine ⟨fun σ3 H3 => ∃ ρ Hf, Rp X.K X.mg g Γ ρ σ3 Hf H3 ∧ sR X.K X.mg g E Γ Γl ro Dn (whileN ft fb n ρ), fun σ3 H3 z => ⟨n, Nat.lt_succ_self _, z⟩, ρ1, F2, R2, ?_⟩
      cases hf : fb ρ1 with
      | nx r => rw [hf] at k2; exact fun σ5 Hf5 H5 R5 => ⟨r, Hf5, R5, k2⟩
      | ct r => rw [hf] at k2; exact fun σ5 Hf5 H5 R5 => ⟨r, Hf5, R5, k2⟩
      | bk r => rw [hf] at k2; exact fun σ5 Hf5 H5 R5 => k2 σ5 Hf5 H5 R5
      | rt d => rw [hf] at k2; exact k2
      | ex x => rw [hf] at k2; exact k2
      | stuck => rw [hf] at k2; exact k2
    | false =>
      rw [if_neg Bool.false_ne_true] at k2 ⊢
      exact k2 σ1 F2 H2 R2
end

/-! ## defs -/
structure FnT (K : PySem.W.Frag) (mg : Str → Option Value) (x : Str) (st : Stmt) : Prop where
  ex : ∃ f fd, mg x = some (.ref f) ∧ Fun K x x st f fd
structure FnA (P : Program) (w : World) (K : PySem.W.Frag) (mg : Str → Option Value) (base : Heap) (k : Nat) (x : Str) (ps : List Str) (ro : Bool) (F : List D → Out D) : Prop where
  ex : ∃ f fd, mg x = some (.ref f) ∧ PySem.W.keepIn K (.ref f) = true ∧ Binds K fd ps [] ∧ FnOk P w K mg base (L2.CX P w) k f fd ps (spD K mg ro F) ∧ ∃ oc od osl, K.lookup f = some ⟨oc, od, .func fd, osl⟩
theorem FnA.mono {P : Program} {w : World} {K : PySem.W.Frag} {mg : Str → Option Value} {base : Heap} {j k : Nat} {x : Str} {ps : List Str} {ro : Bool} {F : List D → Out D} (h : FnA P w K mg base j x ps ro F) (l : j ≤ k) : FnA P w K mg base k x ps ro F := by
  obtain ⟨f, fd, e1, e2, e3, e4, e5⟩ := h.ex
  exact ⟨f, fd, e1, e2, e3, e4.mono l, e5⟩
/-- the meaning of a def by its body's: n slots, k parameters -/
def SO.res (o : SO) : Out D := match o with
  | .rt d => .ok d
  | .nx _ => .ok .non
  | .ex x => .exc x
  | _ => .stuck
@[simp] theorem res_rt (d : D) : (SO.rt d).res = .ok d := rfl
@[simp] theorem res_nx (r : Env) : (SO.nx r).res = .ok .non := rfl
@[simp] theorem res_ex (x : Exn) : (SO.ex x).res = .exc x := rfl
def fnM (n k : Nat) (b : Env → SO) : List D → Out D := fun ds => if ds.length = k then (b (ds.map some ++ List.replicate (n - k) none)).res else .stuck
def cxD (P : Program) (w : World) (K : PySem.W.Frag) (mg : Str → Option Value) (base : Heap) (N : List Str) (x : Str) (st : Stmt) (f : Addr) (cdv : Value) (A : Around) (outer : List PySem.Env) (s : Shared) (H : Hp) (E : XK) : Cx :=
  cxOf (L2.CX P w) P w K mg base N x (defScope st) f cdv A outer s H E
section
variable {P : Program} {w : World} {K : PySem.W.Frag} {mg : Str → Option Value} {base : Heap}
theorem IsDs.map {H : Hp} : ∀ {ds : List D} {vs : List V} {i : Nat} {d : D}, IsDs K mg H ds vs → (ds.map some)[i]? = some (some d) → ∃ v, (vs.map some)[i]? = some (some v) ∧ IsD K mg H d v := fun {ds vs i d} h e => by
  rw [List.getElem?_map] at e
  cases q : ds[i]? with
  | none => rw [q] at e; cases e
  | some d' =>
    rw [q] at e
    cases e
    obtain ⟨v, ev, r⟩ := h.at q
    exact ⟨v, by rw [List.getElem?_map, ev]; rfl, r⟩
theorem fnA_mk {x : Str} {st : Stmt} {N ps : List Str} {k : Nat} {ro : Bool} {Γl Γ' Γ0 : List Bool} {b : Env → SO} (T : FnT K mg x st) (S : FnScope N ps (defScope st)) (hl : ps.length ≤ N.length) (h0 : ∀ i, ¬ Own Γ0 i)
    (hbind : ∀ (kV doc pm : Value) (an : Option Addr) (cdv ct : Value) (us : List Value), us.length = ps.length → bindArgs (PySem.W.fnOf x x (defArgs st) (defBody st) (defScope st) .none kV doc pm an cdv ct) ⟨us, []⟩ = pure (ps.zip us))
    (body : ∀ (f : Addr) (cdv : Value) (A : Around) (outer : List PySem.Env) (s : Shared) (H : Hp) (E : XK) (Hf : Hp), Room k (A.deeper (envOfC x (defScope st) s.heap.objs.size f cdv)) →
      PSsx (cxD P w K mg base N x st f cdv A outer s H E) ⟨H, Hf⟩ (fun c d _ H => E c d H) ro Γl Γ0 (defBody st) Γ' b) : FnA P w K mg base (k + 1) x ps ro (fnM N.length ps.length b) := by
  obtain ⟨f, fd, hm, F⟩ := T.ex
  refine ⟨f, fd, hm, F.kp, F.binds hbind, F.okX S (fun vs H Q E h => ?_) fun cdv A outer s H vs Q E hr h => ?_, let ⟨oc, od, _, _, _, _, _, _, osl, _, l, _⟩ := F.ex; ⟨oc, od, osl, l⟩⟩
  · obtain ⟨ds, Hf, s1, hv, q⟩ := h
    rw [hv.len]
    unfold fnM at q
    by_cases l : ds.length = ps.length
    · exact l
    · rw [if_neg l] at q; exact q.elim
  · obtain ⟨ds, Hf, s1, hv, q⟩ := h
    refine ⟨_, (body f cdv A outer s H E Hf hr).ps, ?_⟩
    unfold fnM at q
    by_cases l : ds.length = ps.length
    · rw [if_pos l] at q
      have lv : vs.length = ps.length := hv.len.trans l
      refine ⟨ds.map some ++ List.replicate (N.length - ps.length) none, Hf, ⟨s1, Same.refl _, Same.refl _, fun a o e => .inl e, ?_, fun i d o _ => (h0 i o).elim, fun i d o e => ?_, fun i j d e v n o => (h0 i o).elim⟩, ?_⟩
      · unfold L2.start
        simp [lv, l]
      · unfold L2.start
        by_cases li : i < ds.length
        · rw [List.getElem?_append_left (by simpa using li)] at e
          obtain ⟨v, ev, r⟩ := IsDs.map hv e
          refine ⟨v, ?_, r⟩
          rw [List.getElem?_append_left (by simpa [hv.len] using li)]
          exact ev
        · rw [List.getElem?_append_right (by simpa using li), List.getElem?_replicate] at e
          split at e <;> simp at e
      · show sR K mg ⟨H, Hf⟩ _ Γ' Γl ro _ (b _)
        cases hb : b (ds.map some ++ List.replicate (N.length - ps.length) none) with
        | nx r =>
          rw [hb] at q
          intro σ1 Hf1 H1 R1
          refine q .non Hf1 H1 R1.ent2 R1.same R1.ent R1.news ?_
          unfold RetRes
          cases ro <;> simp [IsO, IsD]
        | rt d => rw [hb] at q; exact fun v Hf1 H1 s1 s2 s3 nw r => q v Hf1 H1 s3 s1 s2 nw r
        | ex x => rw [hb] at q; exact fun c dd σ1 H1 s2 ix => q c dd H1 s2 ix
        | bk r => rw [hb] at q; exact q.elim
        | ct r => rw [hb] at q; exact q.elim
        | stuck => rw [hb] at q; exact q.elim
    · rw [if_neg l] at q; exact q.elim
/-- a def that is never to be called -/
theorem fnA_stuck {x : Str} {st : Stmt} {ps : List Str} {k : Nat} {ro : Bool} (T : FnT K mg x st)
    (hbind : ∀ (kV doc pm : Value) (an : Option Addr) (cdv ct : Value) (us : List Value), us.length = ps.length → bindArgs (PySem.W.fnOf x x (defArgs st) (defBody st) (defScope st) .none kV doc pm an cdv ct) ⟨us, []⟩ = pure (ps.zip us)) :
    FnA P w K mg base k x ps ro (fun _ => .stuck) := by
  obtain ⟨f, fd, hm, F⟩ := T.ex
  exact ⟨f, fd, hm, F.kp, F.binds hbind, ⟨fun vs H Q E ⟨_, _, _, _, z⟩ => z.elim, fun A outer s H args us vs Q E _ _ _ _ ⟨_, _, _, _, z⟩ => z.elim⟩, let ⟨oc, od, _, _, _, _, _, _, osl, _, l, _⟩ := F.ex; ⟨oc, od, osl, l⟩⟩
end

/-! ## calls -/
section
variable {X : Cx} {g : G} {E : WX} {ro : Bool} {Γl Γ Γ1 Γ2 Γ3 : List Bool} {m : Md} {pos p : Pos} {x : Str} {e : Expr} {es : List Expr} {k : Nat} {ps : List Str} {F : List D → Out D} {fa : Env → Out (List D)}
/-- behind a callee -/
theorem Rp.back {K : PySem.W.Frag} {mg : Str → Option Value} {ρ : Env} {σ : St} {F1 H1 Hf' H' : Hp} (R : Rp K mg g Γ ρ σ F1 H1) (s1 : Same F1 Hf') (s2 : Same Hf' H') (s3 : Same H1 H') (nw : ∀ a o, Hf' a = some o → F1 a = some o ∨ H1 a = none) : Rp K mg g Γ ρ σ Hf' H' := by
  refine ⟨s2, R.ent.trans s3, R.ent2.trans s1, fun a o e => ?_, R.len, fun i d o e => ?_, fun i d o e => ?_, R.sep⟩
  · rcases nw a o e with z | z
    · exact R.news a o z
    · exact .inr (R.ent.free z)
  · obtain ⟨v, e1, io⟩ := R.own i d o e
    refine ⟨v, e1, ?_⟩
    have nn : ∀ a oo, F1 a = none → H1 a = some oo → Hf' a = none := fun a oo zf q => by
      cases z : Hf' a with
      | none => rfl
      | some o' =>
        rcases nw a o' z with y | y
        · rw [zf] at y; cases y
        · rw [q] at y; cases y
    cases d with
    | lst ds =>
      obtain ⟨a, xs, e, z0, zf, q, r⟩ := io
      exact ⟨a, xs, e, z0, nn a _ zf q, s3 _ _ q, IsDs.mono s1 r⟩
    | dic ds =>
      obtain ⟨a, xs, e, z0, zf, q, r⟩ := io
      exact ⟨a, xs, e, z0, nn a _ zf q, s3 _ _ q, IsKVs.mono s1 r⟩
    | _ => exact IsD.mono s1 io
  · obtain ⟨v, e1, q⟩ := R.dat i d o e
    exact ⟨v, e1, q.mono s1⟩
/-- a callee's promise is what a caller's wish wants -/
theorem call_sp {ρ : Env} {σ : St} {F1 H1 : Hp} {ds : List D} {vs : List V} {Q : VK} (R : Rp X.K X.mg g Γ ρ σ F1 H1) (hv : IsDs X.K X.mg F1 ds vs) (k : tG X.K X.mg g E Γ ρ σ F1 H1 (PV X g Γ ρ σ (if ro = true then .ow else .fr) Q) (F ds)) : spD X.K X.mg ro F vs H1 Q (WE E σ) := by
  refine ⟨ds, F1, R.same, hv, ?_⟩
  cases hF : F ds with
  | ok d =>
    rw [hF] at k
    intro v Hf' H' s1 s2 s3 nw rr
    refine k Hf' H' s1 s3 (R.back s1 s2 s3 nw) v ?_
    cases ro with
    | true =>
      unfold RetRes at rr
      rw [if_pos rfl] at rr
      refine ⟨?_, fun i e o e1 m1 m2 e2 => ?_⟩
      · cases d with
        | lst ds => obtain ⟨a, xs, e, z0, zf, q, r⟩ := rr; exact ⟨a, xs, e, R.ent.free z0, zf, q, r⟩
        | dic ds => obtain ⟨a, xs, e, z0, zf, q, r⟩ := rr; exact ⟨a, xs, e, R.ent.free z0, zf, q, r⟩
        | _ => exact rr
      · obtain ⟨a, oo, rfl, z0, _, _⟩ := rr.addr m2
        obtain ⟨v', e3, io⟩ := R.own i e o e1
        obtain ⟨b, ob, e4, _, _, q⟩ := io.addr m1
        rw [e2] at e3
        obtain rfl : V.ref a = v' := Option.some.inj (Option.some.inj e3)
        obtain rfl : a = b := V.ref.inj e4
        rw [z0] at q; cases q
    | false =>
      unfold RetRes at rr
      rw [if_neg Bool.false_ne_true] at rr
      exact rr
  | exc x =>
    rw [hF] at k
    intro c dd H' s3 ix
    exact k c dd F1 H' (Same.refl _) s3 ⟨R.same.trans s3, R.ent.trans s3, R.ent2, R.news, R.len, fun i d o e => by
      obtain ⟨v, e1, io⟩ := R.own i d o e
      refine ⟨v, e1, ?_⟩
      cases d with
      | lst ds => obtain ⟨a, xs, e, z0, zf, q, r⟩ := io; exact ⟨a, xs, e, z0, zf, s3 _ _ q, r⟩
      | dic ds => obtain ⟨a, xs, e, z0, zf, q, r⟩ := io; exact ⟨a, xs, e, z0, zf, s3 _ _ q, r⟩
      | _ => exact io, R.dat, R.sep⟩ ix
  | stuck => rw [hF] at k; exact k
theorem px_call (C : FnA X.prog X.w X.K X.mg X.base k x ps ro F) (hr : Room k X.A) (hg : Gl X x) (tk : Takes X E) (ha : PAx X g E Γ (e :: es) Γ1 fa) (hdb : (x == ("__debug__" : Str)) = false := by decide)
    (he : starEach (e :: es) X.env = (false, eval e X.env) :: starEach es X.env := by rfl) (hpl : (backTo pos (starEach es X.env)).any (·.1) = false := by rfl) : PX X g E Γ (.Call (.Name x p) (e :: es) [] pos) Γ1 (if ro = true then .ow else .fr) (eA F fa) := by
  obtain ⟨f, fd, e1, e2, e3, e4, _⟩ := C.ex
  refine ⟨ha.le, (pe_callS e4 hr hg e1 e2 e3 (fun σ => passAt tk σ) ha.pe hdb he hpl).imp fun σ H Q ⟨ρ, Hf, R, q⟩ => ⟨ρ, Hf, R, ?_⟩⟩
  exact tG.bind (Le.refl _) q fun ds F1 H1 s1 s2 R1 k1 vs hv => call_sp R1 hv k1
end
end PD

namespace PD
open PySem PySem.Spec L2
open PyProof.Rows hiding St

/-! ## operators -/
section
variable {X : Cx} {m : Md}
theorem OpD.mode {f : Value → Value → Sem Value} {F : D → D → Out D} (h : OpD X f .ow F) : OpD X f .fr F := by
  obtain ⟨r, hr, w⟩ := h
  refine ⟨r, hr, fun g E Γ ρ σ Hf H x y v u Q R hx hy k => w g E Γ ρ σ Hf H x y v u Q R hx hy ?_⟩
  cases hF : F x y with
  | ok d =>
    rw [hF] at k
    intro F1 H1 s1 s2 R1 v hv
    obtain ⟨F2, s3, R2, id⟩ := R1.cool hv.1 hv.2
    exact k F2 H1 (s1.trans s3) s2 R2 v id
  | exc x => rw [hF] at k; exact k
  | stuck => rw [hF] at k; exact k
def Out.or {α : Type} (a b : Out α) : Out α := match a with
  | .stuck => b
  | o => o
@[simp] theorem Out.or_ok {α : Type} (a : α) (b : Out α) : (Out.ok a).or b = .ok a := rfl
@[simp] theorem Out.or_stuck {α : Type} (b : Out α) : (Out.stuck : Out α).or b = b := rfl
def dOr (F F' : D → D → Out D) : D → D → Out D := fun x y => (F x y).or (F' x y)
theorem OpD.or {f : Value → Value → Sem Value} {F F' : D → D → Out D} (h : OpD X f m F) (h' : OpD X f m F') : OpD X f m (dOr F F') := by
  obtain ⟨r, hr, w⟩ := h
  obtain ⟨r', hr', w'⟩ := h'
  refine ⟨_, hr.or hr', fun g E Γ ρ σ Hf H x y v u Q R hx hy k => ?_⟩
  unfold dOr at k
  cases hF : F x y with
  | ok d => rw [hF] at k; exact .inl (w g E Γ ρ σ Hf H x y v u Q R hx hy (by rw [hF]; exact k))
  | exc e => rw [hF] at k; exact .inl (w g E Γ ρ σ Hf H x y v u Q R hx hy (by rw [hF]; exact k))
  | stuck => rw [hF] at k; exact .inr (w' g E Γ ρ σ Hf H x y v u Q R hx hy k)
/-- two ints -/
noncomputable def dI (C : Int → Int → Prop) (h : Int → Int → D) : D → D → Out D
  | .int i, .int j => chk (C i j) (.ok (h i j))
  | _, _ => .stuck
def dI0 (h : Int → Int → D) : D → D → Out D
  | .int i, .int j => .ok (h i j)
  | _, _ => .stuck
theorem opd_int {f : Value → Value → Sem Value} {C : Int → Int → Prop} {h : Int → Int → Int} (ho : OpR X f (rI C fun i j => .int (h i j))) : OpD X f m (dI C fun i j => .int (h i j)) := by
  refine ⟨_, ho, fun g E Γ ρ σ Hf H x y v u Q R hx hy k => ?_⟩
  unfold dI at k
  split at k
  · rename_i i j
    simp only [IsR, IsD] at hx hy
    by_cases c : C i j
    · rw [chk_pos c] at k
      exact ⟨i, j, hx, hy, c, k Hf H (Same.refl _) (Same.refl _) R _ (Res.dat R.same rfl (by simp only [IsD]))⟩
    · rw [chk_neg c] at k; exact k.elim
  · exact k.elim
theorem opd_int0 {f : Value → Value → Sem Value} {h : Int → Int → Int} (ho : OpR X f (rI0 fun i j => .int (h i j))) : OpD X f m (dI0 fun i j => .int (h i j)) := by
  refine ⟨_, ho, fun g E Γ ρ σ Hf H x y v u Q R hx hy k => ?_⟩
  unfold dI0 at k
  split at k
  · rename_i i j
    simp only [IsR, IsD] at hx hy
    exact ⟨i, j, hx, hy, k Hf H (Same.refl _) (Same.refl _) R _ (Res.dat R.same rfl (by simp only [IsD]))⟩
  · exact k.elim
theorem opd_cmp {f : Value → Value → Sem Value} {h : Int → Int → Bool} (ho : OpR X f (rI0 fun i j => .bl (h i j))) : OpD X f m (dI0 fun i j => .bl (h i j)) := by
  refine ⟨_, ho, fun g E Γ ρ σ Hf H x y v u Q R hx hy k => ?_⟩
  unfold dI0 at k
  split at k
  · rename_i i j
    simp only [IsR, IsD] at hx hy
    exact ⟨i, j, hx, hy, k Hf H (Same.refl _) (Same.refl _) R _ (Res.dat R.same rfl (by simp only [IsD]))⟩
  · exact k.elim
def dAddI : D → D → Out D := dI0 fun i j => .int (i + j)
def dSub : D → D → Out D := dI0 fun i j => .int (i - j)
noncomputable def dMulI : D → D → Out D := dI CMulX fun i j => .int (i * j)
noncomputable def dDiv : D → D → Out D := dI CDivW fun i j => .int (i / j)
noncomputable def dMod : D → D → Out D := dI (fun _ j => 0 < j) fun i j => .int (i % j)
noncomputable def dPow : D → D → Out D := dI CPow fun i j => .int (i ^ j.toNat)
def dLtI : D → D → Out D := dI0 fun i j => .bl (decide (i < j))
def dLeI : D → D → Out D := dI0 fun i j => .bl (decide (i ≤ j))
def dGtI : D → D → Out D := dI0 fun i j => .bl (decide (j < i))
def dGeI : D → D → Out D := dI0 fun i j => .bl (decide (j ≤ i))
theorem od_addI : OpD X (binaryOp .Add) m dAddI := opd_int0 op_add
theorem od_sub : OpD X (binaryOp .Sub) m dSub := opd_int0 op_sub
theorem od_mulI : OpD X (binaryOp .Mult) m dMulI := opd_int op_mulX
theorem od_div : OpD X (binaryOp .FloorDiv) m dDiv := opd_int op_fdivW
theorem od_mod : OpD X (binaryOp .Mod) m dMod := opd_int op_mod
theorem od_pow : OpD X (binaryOp .Pow) m dPow := opd_int op_pow
theorem od_ltI : OpD X (compareOp .Lt) m dLtI := opd_cmp op_lt
theorem od_leI : OpD X (compareOp .LtE) m dLeI := opd_cmp op_le
theorem od_gtI : OpD X (compareOp .Gt) m dGtI := opd_cmp op_gt
theorem od_geI : OpD X (compareOp .GtE) m dGeI := opd_cmp op_ge
def dAdd : D → D → Out D := dAddI
noncomputable def dMul : D → D → Out D := dMulI
def dLt : D → D → Out D := dLtI
def dLe : D → D → Out D := dLeI
def dGt : D → D → Out D := dGtI
def dGe : D → D → Out D := dGeI
theorem od_add {k : Nat} (_ : Room k X.A) : OpD X (binaryOp .Add) m dAdd := od_addI
theorem od_mul {k : Nat} (_ : Room k X.A) : OpD X (binaryOp .Mult) m dMul := od_mulI
theorem od_lt {k : Nat} (_ : Room k X.A) : OpD X (compareOp .Lt) m dLt := od_ltI
theorem od_le {k : Nat} (_ : Room k X.A) : OpD X (compareOp .LtE) m dLe := od_leI
theorem od_gt {k : Nat} (_ : Room k X.A) : OpD X (compareOp .Gt) m dGt := od_gtI
theorem od_ge {k : Nat} (_ : Room k X.A) : OpD X (compareOp .GtE) m dGe := od_geI
def dNeg : D → Out D
  | .int i => .ok (.int (-i))
  | _ => .stuck
theorem ud_neg : UnD X (unaryOp .USub) m dNeg := by
  refine ⟨_, un_neg, fun g E Γ ρ σ Hf H x v Q R hx k => ?_⟩
  unfold dNeg at k
  split at k
  · rename_i i
    simp only [IsR, IsD] at hx
    exact ⟨i, hx, k Hf H (Same.refl _) (Same.refl _) R _ (Res.dat R.same rfl (by simp only [IsD]))⟩
  · exact k.elim

/-! ### == -/
mutual
def toPy : D → PyData
  | .non => .none
  | .bl b => .bool b
  | .int i => .int i
  | .str x => .str x
  | .ty _ => .dict []
  | .scr ns => .list (ns.map .int)
  | .tup ds => .tuple (toPys ds)
  | .lst ds => .list (toPys ds)
  | .dic _ => .dict []
  | .ins _ _ => .dict []
def toPys : List D → List PyData
  | [] => []
  | d :: ds => toPy d :: toPys ds
end
section
variable {K : PySem.W.Frag} {mg : Str → Option Value} {H : Hp}
theorem dp_ints : ∀ ns : List Int, DpAll K H (ns.map V.int) (ns.map .int)
  | [] => .nil
  | n :: ns => .cons (.int n) (dp_ints ns)
mutual
theorem dp_of : ∀ {d : D} {v : V}, IsD K mg H d v → (toPy d).canLay0 = true → Dp K H v (toPy d)
  | .non, _, h, _ => by simp only [IsD] at h; subst h; unfold toPy; exact .non
  | .bl b, _, h, _ => by simp only [IsD] at h; subst h; unfold toPy; exact .bl b
  | .int b, _, h, _ => by simp only [IsD] at h; subst h; unfold toPy; exact .int b
  | .str b, _, h, _ => by simp only [IsD] at h; subst h; unfold toPy; exact .str b
  | .ty _, _, _, z => by unfold toPy at z; simp [PyData.canLay0] at z
  | .scr ns, _, h, _ => by
    simp only [IsD] at h
    obtain ⟨a, rfl, q⟩ := h
    unfold toPy
    exact .lst q (dp_ints ns)
  | .tup ds, _, h, z => by
    simp only [IsD] at h
    obtain ⟨a, xs, rfl, q, r⟩ := h
    unfold toPy at z ⊢
    exact .tup q (dp_ofs r (by simpa [PyData.canLay0] using z))
  | .lst ds, _, h, z => by
    simp only [IsD] at h
    obtain ⟨a, xs, rfl, q, r⟩ := h
    unfold toPy at z ⊢
    exact .lst (.of q) (dp_ofs r (by simpa [PyData.canLay0] using z))
  | .dic _, _, _, z => by unfold toPy at z; simp [PyData.canLay0] at z
  | .ins _ _, _, _, z => by unfold toPy at z; simp [PyData.canLay0] at z
theorem dp_ofs : ∀ {d : List D} {v : List V}, IsDs K mg H d v → PyData.canLayAll0 (toPys d) = true → DpAll K H v (toPys d)
  | [], _, h, _ => by simp only [IsDs] at h; subst h; unfold toPys; exact .nil
  | d :: ds, _, h, z => by
    simp only [IsDs] at h
    obtain ⟨v, vs, rfl, q, r⟩ := h
    unfold toPys at z ⊢
    have z' : (toPy d).canLay0 = true ∧ PyData.canLayAll0 (toPys ds) = true := by simpa [PyData.canLayAll0] using z
    exact .cons (dp_of q z'.1) (dp_ofs r z'.2)
end
theorem dp_read {Hf : Hp} {d : D} {v : V} (s : Same Hf H) (h : IsR K mg Hf H d v) (z : (toPy d).canLay0 = true) : Dp K H v (toPy d) := by
  cases d with
  | lst ds =>
    obtain ⟨a, xs, rfl, q, r⟩ := h
    unfold toPy at z ⊢
    exact .lst (.of q) (dp_ofs (IsDs.mono s r) (by simpa [PyData.canLay0] using z))
  | dic ds => unfold toPy at z; simp [PyData.canLay0] at z
  | _ => exact dp_of (mg := mg) (IsD.mono s h) z
end
noncomputable def dEq : D → D → Out D := fun x y => chk (SeqAt.shaped (toPy x) = true ∧ SeqAt.shaped (toPy y) = true) (.ok (.bl (PyData.eqv (toPy x) (toPy y))))
noncomputable def dNe : D → D → Out D := fun x y => chk (SeqAt.shaped (toPy x) = true ∧ SeqAt.shaped (toPy y) = true) (.ok (.bl (!PyData.eqv (toPy x) (toPy y))))
theorem od_eq {k : Nat} (hr : Room k X.A) : OpD X (compareOp .Eq) m dEq := by
  refine ⟨_, op_eqD hr.units, fun g E Γ ρ σ Hf H x y v u Q R hx hy k => ?_⟩
  unfold dEq at k
  by_cases c : SeqAt.shaped (toPy x) = true ∧ SeqAt.shaped (toPy y) = true
  · rw [chk_pos c] at k
    exact ⟨toPy x, toPy y, dp_read R.same hx (SeqAt.canLay_of_shaped c.1), dp_read R.same hy (SeqAt.canLay_of_shaped c.2), c.1, c.2, k Hf H (Same.refl _) (Same.refl _) R _ (Res.dat R.same rfl (by simp only [IsD]))⟩
  · rw [chk_neg c] at k; exact k.elim
theorem od_ne {k : Nat} (hr : Room k X.A) : OpD X (compareOp .NotEq) m dNe := by
  refine ⟨_, op_neD hr.units, fun g E Γ ρ σ Hf H x y v u Q R hx hy k => ?_⟩
  unfold dNe at k
  by_cases c : SeqAt.shaped (toPy x) = true ∧ SeqAt.shaped (toPy y) = true
  · rw [chk_pos c] at k
    exact ⟨toPy x, toPy y, dp_read R.same hx (SeqAt.canLay_of_shaped c.1), dp_read R.same hy (SeqAt.canLay_of_shaped c.2), c.1, c.2, k Hf H (Same.refl _) (Same.refl _) R _ (Res.dat R.same rfl (by simp only [IsD]))⟩
  · rw [chk_neg c] at k; exact k.elim

/-! ### a subscript -/
noncomputable def dIx : D → D → Out D
  | .lst ds, .int i => match atI ds i with
    | some d => .ok d
    | none => .stuck
  | .tup ds, .int i => match atI ds i with
    | some d => .ok d
    | none => .stuck
  | .scr ns, .int i => match atI ns i with
    | some n => .ok (.int n)
    | none => .stuck
  | .str z, .int i => chk (z.length ≤ sizeLine) (match atI z.cps.toList i with
    | some c => .ok (.str ⟨#[c]⟩)
    | none => .stuck)
  | _, _ => .stuck
theorem IsDs.atI {K : PySem.W.Frag} {mg : Str → Option Value} {H : Hp} {ds : List D} {vs : List V} {i : Int} {d : D} (h : IsDs K mg H ds vs) (e : atI ds i = some d) : ∃ v, atI vs i = some v ∧ IsD K mg H d v := by
  unfold L2.atI at e ⊢
  rw [h.len]
  cases q : ixN ds.length i with
  | none => rw [q] at e; cases e
  | some j =>
    rw [q] at e
    exact h.at e
theorem px_ix {g : G} {E : WX} {Γ Γ1 Γ2 : List Bool} {pos : Pos} {a b : Expr} {fa fb : Env → Out D} (ha : PX X g E Γ a Γ1 .rd fa) (hb : PX X g E Γ1 b Γ2 .rd fb) (hs : PlainIx b) : PX X g E Γ (.Subscript a b pos) Γ2 .fr (e2 dIx fa fb) := by
  refine ⟨hb.le.trans ha.le, (pe_ix ix_seq ha.pe hb.pe hs).imp fun σ H Q ⟨ρ, Hf, R, k⟩ => ⟨ρ, Hf, R, ?_⟩⟩
  refine tG.bind hb.le k fun x F1 H1 s1 s2 R1 k1 v hv => ⟨ρ, F1, R1, ?_⟩
  refine tG.bind (Le.refl _) k1 fun y F2 H2 s3 s4 R2 k2 u hu => ?_
  have hv := IsR.mono s3 s4 hv
  unfold dIx at k2
  split at k2
  · rename_i ds i _
    obtain ⟨p, xs, rfl, q, r⟩ := hv
    cases hu
    cases e : atI ds i with
    | none => rw [e] at k2; exact k2.elim
    | some d =>
      rw [e] at k2
      obtain ⟨z, ez, hz⟩ := r.atI e
      exact .inl ⟨p, xs, i, z, rfl, rfl, .of q, ez, k2 F2 H2 (Same.refl _) (Same.refl _) R2 z hz⟩
  · rename_i ds i _
    simp only [IsR, IsD] at hv
    obtain ⟨p, xs, rfl, q, r⟩ := hv
    cases hu
    cases e : atI ds i with
    | none => rw [e] at k2; exact k2.elim
    | some d =>
      rw [e] at k2
      obtain ⟨z, ez, hz⟩ := r.atI e
      exact .inr (.inl ⟨p, xs, i, z, rfl, rfl, Same.seqT R2.same q, ez, k2 F2 H2 (Same.refl _) (Same.refl _) R2 z hz⟩)
  · rename_i ns i _
    simp only [IsR, IsD] at hv
    obtain ⟨p, rfl, q⟩ := hv
    cases hu
    cases e : atI ns i with
    | none => rw [e] at k2; exact k2.elim
    | some n =>
      rw [e] at k2
      have ez : atI (ns.map V.int) i = some (V.int n) := by
        unfold L2.atI at e ⊢
        rw [List.length_map]
        cases q : ixN ns.length i with
        | none => rw [q] at e; cases e
        | some j =>
          rw [q] at e
          show (ns.map V.int)[j]? = _
          rw [List.getElem?_map, show ns[j]? = some n from e]; rfl
      exact .inl ⟨p, _, i, _, rfl, rfl, R2.same.seq q, ez, k2 F2 H2 (Same.refl _) (Same.refl _) R2 _ (show IsD _ _ _ _ _ by simp only [IsD])⟩
  · rename_i z i _
    simp only [IsR, IsD] at hv
    cases hu
    by_cases l : z.length ≤ sizeLine
    · rw [chk_pos l] at k2
      cases e : atI z.cps.toList i with
      | none => rw [e] at k2; exact k2.elim
      | some c =>
        rw [e] at k2
        exact .inr (.inr ⟨z, i, c, hv, rfl, l, e, k2 F2 H2 (Same.refl _) (Same.refl _) R2 _ (show IsD _ _ _ _ _ by simp only [IsD])⟩)
    · rw [chk_neg l] at k2; exact k2.elim
  · exact k2.elim
end

/-! ## built-in calls: the arguments read -/
section
variable {K : PySem.W.Frag} {mg : Str → Option Value}
def IsRs (K : PySem.W.Frag) (mg : Str → Option Value) (Hf H : Hp) : List D → List V → Prop
  | [], xs => xs = []
  | d :: ds, xs => ∃ v vs, xs = v :: vs ∧ IsR K mg Hf H d v ∧ IsRs K mg Hf H ds vs
end
structure PBx (X : Cx) (g : G) (E : WX) (Γ : List Bool) (e : List Expr) (Γ' : List Bool) (f : Env → Out (List D)) : Prop where
  le : Le Γ' Γ
  pe : PA X e (fun σ H Q => ∃ ρ Hf, Rp X.K X.mg g Γ ρ σ Hf H ∧ tG X.K X.mg g E Γ' ρ σ Hf H (fun ds Hf' H' => ∀ vs, IsRs X.K X.mg Hf' H' ds vs → Q vs H') (f ρ))
/-- the built-in u, called on read things, means F -/
def CaD (X : Cx) (u : Value) (m : Md) (F : List D → Out D) : Prop := ∃ r, CallR X u r ∧
  ∀ g E Γ ρ σ Hf H ds vs Q, Rp X.K X.mg g Γ ρ σ Hf H → IsRs X.K X.mg Hf H ds vs → tG X.K X.mg g E Γ ρ σ Hf H (PV X g Γ ρ σ m Q) (F ds) → r vs H Q
section
variable {X : Cx} {g : G} {E : WX} {Γ Γ1 Γ2 : List Bool} {m : Md} {pos p : Pos} {a : Expr} {es : List Expr} {fa : Env → Out D} {fr : Env → Out (List D)} {x : Str} {id T : String} {F : List D → Out D}
theorem pbx_nil : PBx X g E Γ [] Γ aN := by
  refine ⟨Le.refl _, pa_nil.imp fun σ H Q ⟨ρ, Hf, R, k⟩ => ?_⟩
  exact k Hf H (Same.refl _) (Same.refl _) R [] rfl
theorem pbx_cons (ha : PX X g E Γ a Γ1 .rd fa) (hr : PBx X g E Γ1 es Γ2 fr) (hs : starEach (a :: es) X.env = (false, eval a X.env) :: starEach es X.env := by rfl) : PBx X g E Γ (a :: es) Γ2 (aC fa fr) := by
  refine ⟨hr.le.trans ha.le, (pa_cons ha.pe hr.pe hs).imp fun σ H Q ⟨ρ, Hf, R, k⟩ => ⟨ρ, Hf, R, ?_⟩⟩
  refine tG.bind hr.le k fun x F1 H1 s1 s2 R1 k1 v hv => ⟨ρ, F1, R1, ?_⟩
  refine tG.bind (Le.refl _) k1 fun ys F2 H2 s3 s4 R2 k2 us hu => ?_
  exact k2 F2 H2 (Same.refl _) (Same.refl _) R2 (v :: us) ⟨v, us, rfl, IsR.mono s3 s4 hv, hu⟩
theorem px_callB (hc : CaD X (.builtin id) m F) (hg : Gl X x) (hm : X.mg x = none) (hv : bootBuiltins x = some (.builtin id)) (ha : PBx X g E Γ (a :: es) Γ1 fr) (hn : x ≠ "__name__" := by decide) (hdb : (x == ("__debug__" : Str)) = false := by decide)
    (he : starEach (a :: es) X.env = (false, eval a X.env) :: starEach es X.env := by rfl) (hpl : (backTo pos (starEach es X.env)).any (·.1) = false := by rfl) : PX X g E Γ (.Call (.Name x p) (a :: es) [] pos) Γ1 m (eA F fr) := by
  obtain ⟨r, hr, w⟩ := hc
  refine ⟨ha.le, (pe_callB hr hg hm hv ha.pe hn hdb he hpl).imp fun σ H Q ⟨ρ, Hf, R, k⟩ => ⟨ρ, Hf, R, ?_⟩⟩
  exact tG.bind (Le.refl _) k fun ds F1 H1 s1 s2 R1 k1 vs hv => w g E Γ1 ρ σ F1 H1 ds vs Q R1 hv k1
theorem px_callT (hc : CaD X (.type T) m F) (hg : Gl X x) (hm : X.mg x = none) (hv : bootBuiltins x = some (.type T)) (ha : PBx X g E Γ (a :: es) Γ1 fr) (hn : x ≠ "__name__" := by decide) (hdb : (x == ("__debug__" : Str)) = false := by decide)
    (he : starEach (a :: es) X.env = (false, eval a X.env) :: starEach es X.env := by rfl) (hpl : (backTo pos (starEach es X.env)).any (·.1) = false := by rfl) : PX X g E Γ (.Call (.Name x p) (a :: es) [] pos) Γ1 m (eA F fr) := by
  obtain ⟨r, hr, w⟩ := hc
  refine ⟨ha.le, (pe_callTy hr hg hm hv ha.pe hn hdb he hpl).imp fun σ H Q ⟨ρ, Hf, R, k⟩ => ⟨ρ, Hf, R, ?_⟩⟩
  exact tG.bind (Le.refl _) k fun ds F1 H1 s1 s2 R1 k1 vs hv => w g E Γ1 ρ σ F1 H1 ds vs Q R1 hv k1
theorem IsRs.one {K : PySem.W.Frag} {mg : Str → Option Value} {Hf H : Hp} {d : D} {vs : List V} (h : IsRs K mg Hf H [d] vs) : ∃ v, vs = [v] ∧ IsR K mg Hf H d v := by
  obtain ⟨v, us, e, q, rfl⟩ := h
  exact ⟨v, e, q⟩
theorem IsRs.two {K : PySem.W.Frag} {mg : Str → Option Value} {Hf H : Hp} {d e : D} {vs : List V} (h : IsRs K mg Hf H [d, e] vs) : ∃ v u, vs = [v, u] ∧ IsR K mg Hf H d v ∧ IsR K mg Hf H e u := by
  obtain ⟨v, us, e1, q, u, us', e2, q2, rfl⟩ := h
  exact ⟨v, u, by rw [e1, e2], q, q2⟩
/-- a built-in type as a value -/
theorem px_type (hg : Gl X x) (hm : X.mg x = none) (hv : bootBuiltins x = some (.type T)) (hn : x ≠ "__name__" := by decide) (hd : (x == ("__debug__" : Str)) = false := by decide) : PX X g E Γ (.Name x pos) Γ m (eC (.ty T)) :=
  .atom (pe_bltn (v := .ty T) hg hm hv rfl hn hd) rfl fun F v e => by simpa only [IsD] using e
noncomputable def cLen : List D → Out D
  | [.lst ds] => .ok (.int ds.length)
  | [.tup ds] => .ok (.int ds.length)
  | [.scr ns] => .ok (.int ns.length)
  | [.str z] => chk (z.length ≤ sizeLine) (.ok (.int z.length))
  | _ => .stuck
theorem CallR.or {u : Value} {r r' : List V → Hp → VK → Prop} (h : CallR X u r) (h' : CallR X u r') : CallR X u (fun x H Q => r x H Q ∨ r' x H Q) := by
  intro pins s σ H xs us Q I rx q
  rcases q with q | q
  · exact h pins s σ H xs us Q I rx q
  · exact h' pins s σ H xs us Q I rx q
theorem call_len_str' : CallR X (.builtin "len") (fun xs H Q => ∃ z : Str, xs = [.str z] ∧ z.length ≤ sizeLine ∧ Q (.int z.length) H) := by
  intro pins s σ H xs us Q I r h
  obtain ⟨z, rfl, l, q⟩ := h
  exact call_len pins s σ H _ us Q I r ⟨.str z, z.length, rfl, ⟨l, rfl⟩, q⟩
theorem ca_len : CaD X (.builtin "len") m cLen := by
  refine ⟨_, call_len_seq.or call_len_str', fun g E Γ ρ σ Hf H ds vs Q R h k => ?_⟩
  unfold cLen at k
  split at k
  · rename_i ds
    obtain ⟨v, rfl, p, xs, rfl, q, r⟩ := h.one
    rw [← r.len] at k
    exact .inl ⟨p, xs, rfl, .inl (.of q), k Hf H (Same.refl _) (Same.refl _) R _ (Res.dat R.same rfl (by simp only [IsD]))⟩
  · rename_i ds
    obtain ⟨v, rfl, z⟩ := h.one
    simp only [IsR, IsD] at z
    obtain ⟨p, xs, rfl, q, r⟩ := z
    rw [← r.len] at k
    exact .inl ⟨p, xs, rfl, .inr (Same.seqT R.same q), k Hf H (Same.refl _) (Same.refl _) R _ (Res.dat R.same rfl (by simp only [IsD]))⟩
  · rename_i ns
    obtain ⟨v, rfl, z⟩ := h.one
    simp only [IsR, IsD] at z
    obtain ⟨p, rfl, q⟩ := z
    refine .inl ⟨p, _, rfl, .inl (R.same.seq q), ?_⟩
    rw [List.length_map]
    exact k Hf H (Same.refl _) (Same.refl _) R _ (Res.dat R.same rfl (by simp only [IsD]))
  · rename_i z
    obtain ⟨v, rfl, e⟩ := h.one
    simp only [IsR, IsD] at e
    subst e
    by_cases l : z.length ≤ sizeLine
    · rw [chk_pos l] at k
      exact .inr ⟨z, rfl, l, k Hf H (Same.refl _) (Same.refl _) R _ (Res.dat R.same rfl (by simp only [IsD]))⟩
    · rw [chk_neg l] at k; exact k.elim
  · exact k.elim
def cMax2 : List D → Out D
  | [.int i, .int j] => .ok (.int (if j > i then j else i))
  | _ => .stuck
def cMin2 : List D → Out D
  | [.int i, .int j] => .ok (.int (if j < i then j else i))
  | _ => .stuck
theorem ca_max2 (hc : X.calm = true) : CaD X (.builtin "max") m cMax2 := by
  refine ⟨_, call_max2 hc, fun g E Γ ρ σ Hf H ds vs Q R h k => ?_⟩
  unfold cMax2 at k
  split at k
  · obtain ⟨v, u, rfl, q1, q2⟩ := h.two
    cases q1; cases q2
    exact ⟨_, _, rfl, k Hf H (Same.refl _) (Same.refl _) R _ (Res.dat R.same rfl (by simp only [IsD]))⟩
  · exact k.elim
theorem ca_min2 (hc : X.calm = true) : CaD X (.builtin "min") m cMin2 := by
  refine ⟨_, call_min2 hc, fun g E Γ ρ σ Hf H ds vs Q R h k => ?_⟩
  unfold cMin2 at k
  split at k
  · obtain ⟨v, u, rfl, q1, q2⟩ := h.two
    cases q1; cases q2
    exact ⟨_, _, rfl, k Hf H (Same.refl _) (Same.refl _) R _ (Res.dat R.same rfl (by simp only [IsD]))⟩
  · exact k.elim
def cAbs : List D → Out D
  | [.int i] => .ok (.int (if i < 0 then -i else i))
  | _ => .stuck
theorem ca_abs : CaD X (.builtin "abs") m cAbs := by
  refine ⟨_, call_abs, fun g E Γ ρ σ Hf H ds vs Q R h k => ?_⟩
  unfold cAbs at k
  split at k
  · obtain ⟨v, rfl, q1⟩ := h.one
    cases q1
    exact ⟨_, rfl, k Hf H (Same.refl _) (Same.refl _) R _ (Res.dat R.same rfl (by simp only [IsD]))⟩
  · exact k.elim
def cInt : List D → Out D
  | [.int i] => .ok (.int i)
  | [.bl b] => .ok (.int (if b then 1 else 0))
  | _ => .stuck
theorem ca_int : CaD X (.type "int") m cInt := by
  refine ⟨_, call_int1, fun g E Γ ρ σ Hf H ds vs Q R h k => ?_⟩
  unfold cInt at k
  split at k
  · obtain ⟨v, rfl, q1⟩ := h.one
    cases q1
    exact .inl ⟨_, rfl, k Hf H (Same.refl _) (Same.refl _) R _ (Res.dat R.same rfl (by simp only [IsD]))⟩
  · obtain ⟨v, rfl, q1⟩ := h.one
    cases q1
    exact .inr ⟨_, rfl, k Hf H (Same.refl _) (Same.refl _) R _ (Res.dat R.same rfl (by simp only [IsD]))⟩
  · exact k.elim
/-- isinstance(x, T), T a built-in class -/
def tyName : D → Option String
  | .non => some "NoneType"
  | .bl _ => some "bool"
  | .int _ => some "int"
  | .str _ => some "str"
  | .tup _ => some "tuple"
  | .lst _ => some "list"
  | .scr _ => some "list"
  | .dic _ => some "dict"
  | _ => none
def cIsi : List D → Out D
  | [d, .ty t] => match tyName d with
    | some n => match kitB n t with
      | some b => .ok (.bl b)
      | none => .stuck
    | none => .stuck
  | _ => .stuck
theorem rd_ty {H : Hp} {a : Addr} {kvs : List (Key × V)} {K : PySem.W.Frag} (h : Rd H a (.dK kvs)) : TyX K H (.ref a) (.type "dict") := by
  rcases h with h | ⟨o, h⟩
  · exact .base (.dK h)
  · exact .fDict h
theorem sq_ty {H : Hp} {a : Addr} {xs : List V} {K : PySem.W.Frag} (h : SqL K H a xs) : TyX K H (.ref a) (.type "list") := by
  rcases h with (h | ⟨o, h⟩) | ⟨o, its, n, e, c, _⟩
  · exact .base (.lst h)
  · exact .base (.frz h)
  · exact .kList e c
theorem tup_ty {H : Hp} {a : Addr} {xs : List V} {K : PySem.W.Frag} (h : SqT K H a xs) : TyX K H (.ref a) (.type "tuple") := by
  rcases h with (h | ⟨o, h⟩) | ⟨o, its, n, e, c, _⟩
  · exact .base (.tup h)
  · exact .fTuple h
  · exact .kTuple e c
theorem ty_of {K : PySem.W.Frag} {mg : Str → Option Value} {Hf H : Hp} {d : D} {v : V} {n : String} (s : Same Hf H) (h : IsR K mg Hf H d v) (e : tyName d = some n) : TyX K H v (.type n) := by
  cases d with
  | non => cases e; cases h; exact .base .non
  | bl b => cases e; cases h; exact .base (.bl b)
  | int i => cases e; cases h; exact .base (.int i)
  | str x => cases e; cases h; exact .base (.str x)
  | ty x => cases e
  | scr ns => cases e; simp only [IsR, IsD] at h; obtain ⟨a, rfl, q⟩ := h; exact sq_ty (s.seq q)
  | tup ds => cases e; simp only [IsR, IsD] at h; obtain ⟨a, xs, rfl, q, r⟩ := h; exact tup_ty (Same.seqT s q)
  | lst ds => cases e; obtain ⟨a, xs, rfl, q, r⟩ := h; exact .base (.lst q)
  | dic ds => cases e; obtain ⟨a, xs, rfl, q, r⟩ := h; exact rd_ty q
  | ins c fs => cases e
theorem ca_isi : CaD X (.builtin "isinstance") m cIsi := by
  refine ⟨_, call_isi, fun g E Γ ρ σ Hf H ds vs Q R h k => ?_⟩
  unfold cIsi at k
  split at k
  · rename_i d t
    obtain ⟨v, u, rfl, q1, q2⟩ := h.two
    cases q2
    cases e : tyName d with
    | none => rw [e] at k; exact k.elim
    | some n =>
      rw [e] at k
      simp only at k
      cases e2 : kitB n t with
      | none => rw [e2] at k; exact k.elim
      | some b =>
        rw [e2] at k
        exact ⟨v, .ty t, .type n, .type t, b, rfl, .ty t, ty_of R.same q1 e, kit_ty e2, k Hf H (Same.refl _) (Same.refl _) R _ (Res.dat R.same rfl (by simp only [IsD]))⟩
  · exact k.elim
end
end PD

namespace PD
open PySem PySem.Spec L2
open PyProof.Rows hiding St

def leB : List Bool → List Bool → Bool
  | [], _ => true
  | a :: as, [] => !a && leB as []
  | a :: as, b :: bs => (!a || b) && leB as bs
theorem le_of : ∀ {a b : List Bool}, leB a b = true → Le a b
  | [], b, _, i, h => by unfold Own at h; simp at h
  | a :: as, [], e, i, h => by
    unfold leB at e
    simp only [Bool.and_eq_true] at e
    cases i with
    | zero =>
      unfold Own at h
      have h' : a = true := by simpa using h
      rw [h'] at e
      simp at e
    | succ i =>
      have h' : Own as i := by unfold Own at h ⊢; simpa using h
      have := le_of e.2 i h'
      unfold Own at this
      simp at this
  | a :: as, b :: bs, e, i, h => by
    unfold leB at e
    simp only [Bool.and_eq_true] at e
    cases i with
    | zero =>
      unfold Own at h ⊢
      have h' : a = true := by simpa using h
      have e1 := e.1
      rw [h'] at e1
      simpa using e1
    | succ i =>
      have h' : Own as i := by unfold Own at h ⊢; simpa using h
      have := le_of e.2 i h'
      unfold Own at this ⊢
      simpa using this

theorem no_own {a : List Bool} (h : leB a [] = true) : ∀ i, ¬ Own a i := fun i o => by
  have := le_of h i o
  unfold Own at this
  simp at this
theorem nxs_nil : ∀ F ∈ ([] : List (D → Env → Out Env)), ∀ d ρ x, F d ρ ≠ .exc x := fun F h => by cases h
theorem nxs_cons {F : D → Env → Out Env} {Fs : List (D → Env → Out Env)} (h : ∀ d ρ x, F d ρ ≠ .exc x) (t : ∀ F ∈ Fs, ∀ d ρ x, F d ρ ≠ .exc x) : ∀ F' ∈ F :: Fs, ∀ d ρ x, F' d ρ ≠ .exc x := fun F' m => by
  rcases List.mem_cons.mp m with rfl | m
  · exact h
  · exact t F' m
section
variable {X : Cx} {g : G} {E : WX} {ro : Bool} {Γl Γ Γ1 Γ2 Γ3 : List Bool} {m : Md} {pos p : Pos} {x : Str} {e : Expr} {es : List Expr} {k : Nat} {ps : List Str} {F : List D → Out D} {fa : Env → Out (List D)}
theorem px_callF (C : FnA X.prog X.w X.K X.mg X.base k x ps false F) (hr : Room k X.A) (hg : Gl X x) (tk : Takes X E) (ha : PAx X g E Γ (e :: es) Γ1 fa) (hdb : (x == ("__debug__" : Str)) = false := by decide)
    (he : starEach (e :: es) X.env = (false, eval e X.env) :: starEach es X.env := by rfl) (hpl : (backTo pos (starEach es X.env)).any (·.1) = false := by rfl) : PX X g E Γ (.Call (.Name x p) (e :: es) [] pos) Γ1 .fr (eA F fa) := px_call C hr hg tk ha hdb he hpl
theorem px_callO (C : FnA X.prog X.w X.K X.mg X.base k x ps true F) (hr : Room k X.A) (hg : Gl X x) (tk : Takes X E) (ha : PAx X g E Γ (e :: es) Γ1 fa) (hdb : (x == ("__debug__" : Str)) = false := by decide)
    (he : starEach (e :: es) X.env = (false, eval e X.env) :: starEach es X.env := by rfl) (hpl : (backTo pos (starEach es X.env)).any (·.1) = false := by rfl) : PX X g E Γ (.Call (.Name x p) (e :: es) [] pos) Γ1 .ow (eA F fa) := px_call C hr hg tk ha hdb he hpl
end

theorem bb_len : bootBuiltins "len" = some (.builtin "len") := by decide +kernel
theorem bb_max : bootBuiltins "max" = some (.builtin "max") := by decide +kernel
theorem bb_min : bootBuiltins "min" = some (.builtin "min") := by decide +kernel
theorem bb_abs : bootBuiltins "abs" = some (.builtin "abs") := by decide +kernel
theorem bb_isinstance : bootBuiltins "isinstance" = some (.builtin "isinstance") := by decide +kernel
theorem bb_int : bootBuiltins "int" = some (.type "int") := by decide +kernel
theorem bb_bool : bootBuiltins "bool" = some (.type "bool") := by decide +kernel
theorem bb_tuple : bootBuiltins "tuple" = some (.type "tuple") := by decide +kernel
theorem bb_str : bootBuiltins "str" = some (.type "str") := by decide +kernel
theorem bb_list : bootBuiltins "list" = some (.type "list") := by decide +kernel
theorem bb_dict : bootBuiltins "dict" = some (.type "dict") := by decide +kernel

/-! ## the end -/
theorem fnT_of {K : PySem.W.Frag} {h : Heap} {mg : Str → Option Value} {x : Str} {st : Stmt} {f : Addr} {oc : Value} {od an : Option Addr} {osl : Array (Option Value)} {kV doc pm cdv ct : Value} (X : K.In h) (G : h.Ns mainGlobals mg)
    (a : PySem.W.nsIn K mainGlobals x = some (some (.ref f))) (l : K.lookup f = some ⟨oc, od, .func (PySem.W.fnOf x x (defArgs st) (defBody st) (defScope st) .none kV doc pm an cdv ct), osl⟩)
    (c : PySem.W.codeIn K cdv x = true) (k : PySem.W.keepIn K (.ref f) = true) : FnT K mg x st :=
  ⟨⟨f, _, PySem.W.mg_of X G a, fun_mk (st := st) l c k⟩⟩
def spLaw (K : PySem.W.Frag) : Sp := fun vs H Q _ => ∃ (a : Addr) (ns : List Int), vs = [.ref a] ∧ SqL K H a (ns.map V.int) ∧ ns.length ≤ 63 ∧ (∀ z ∈ ns, Builtin.Int.intBits z ≤ 1048576) ∧ ∀ H', Q (.bl true) H'
theorem law_imp {K : PySem.W.Frag} {mg : Str → Option Value} {ro : Bool} {F : List D → Out D} (hF : ∀ ns : List Int, ns.length ≤ 63 → (∀ z ∈ ns, Builtin.Int.intBits z ≤ 1048576) → F [.scr ns] = .ok (.bl true)) (vs : List V) (H : Hp) (Q : VK) (E : XK) (h : spLaw K vs H Q E) : spD K mg ro F vs H Q E := by
  obtain ⟨a, ns, rfl, q, l, b, k⟩ := h
  refine ⟨[.scr ns], H, Same.refl _, by simp only [IsDs, IsD]; exact ⟨_, _, rfl, ⟨a, rfl, q⟩, rfl⟩, ?_⟩
  rw [hF ns l b]
  intro v Hf' H' _ _ _ _ r
  have : v = .bl true := by
    unfold RetRes at r
    cases ro <;> simpa [IsO, IsD] using r
  subst this
  exact k H'
theorem cx_no {P : Program} {w : World} {H : Hp} {s : Shared} {e : Value} {s' : Shared} (h : L2.CX P w [] H s (fun _ _ _ => False) e s') : False := by
  obtain ⟨_, _, _, _, _, _, _, _, _, _, _, _, z⟩ := h
  exact z
/-- the law's def, for walk_ofB -/
theorem law_end {P : Program} {w : World} {K : PySem.W.Frag} {mg : Str → Option Value} {k : Nat} {fa : Addr} {ro : Bool} {F : List D → Out D} {x : Str} {st : Stmt} (T : FnT K mg "law" st) (hfa : mg "law" = some (.ref fa))
    (hb : ∀ (kV doc pm : Value) (an : Option Addr) (cdv ct : Value) (us : List Value), us.length = 1 → bindArgs (PySem.W.fnOf "law" "law" (defArgs st) (defBody st) (defScope st) .none kV doc pm an cdv ct) ⟨us, []⟩ = pure ([x].zip us))
    (A : ∀ base : Heap, FnA P w K mg base k "law" [x] ro F)
    (hF : ∀ ns : List Int, ns.length ≤ 63 → (∀ z ∈ ns, Builtin.Int.intBits z ≤ 1048576) → F [.scr ns] = .ok (.bl true)) :
    ∃ fd : FuncData, (∀ (s : Shared) (v : Value), BindsTo s fd ⟨[v], []⟩ [(x, v)]) ∧ ∀ base : Heap, K.In base → base.Ns mainGlobals mg → FnOk P w K mg base (L2.CX P w) k fa fd [x] (spLaw K) := by
  obtain ⟨f, fd, e1, Fn⟩ := T.ex
  rw [hfa] at e1
  cases e1
  refine ⟨fd, fun s v => ?_, fun base _ _ => ?_⟩
  · obtain ⟨oc, od, kV, doc, pm, an, cdv, ct, osl, rfl, lk, hcd⟩ := Fn.ex
    exact .of_eq (hb kV doc pm an cdv ct [v] rfl)
  · obtain ⟨f', fd', e1, e2, e3, e4, oc', od', osl', lk'⟩ := (A base).ex
    rw [hfa] at e1
    cases e1
    obtain ⟨oc, od, kV, doc, pm, an, cdv, ct, osl, rfl, lk, hcd⟩ := Fn.ex
    rw [lk] at lk'
    cases lk'
    exact e4.imp (law_imp hF)
end PD

namespace PD
open PySem PySem.Spec L2
open PyProof.Rows hiding St
/-! ## evaluation -/
theorem sSeq_ap (f k : Env → SO) (ρ : Env) : sSeq f k ρ = (f ρ).andThen k := rfl
theorem sIf_ap (t : Env → Out Bool) (a b : Env → SO) (ρ : Env) : sIf t a b ρ = oS (t ρ) fun c => if c = true then a ρ else b ρ := rfl
theorem sSet_ap (i : Nat) (f : Env → Out D) (ρ : Env) : sSet i f ρ = oS (f ρ) fun d => .nx (ρ.set i (some d)) := rfl
theorem sRet_ap (f : Env → Out D) (ρ : Env) : sRet f ρ = oS (f ρ) .rt := rfl
theorem sExpr_ap (f : Env → Out D) (ρ : Env) : sExpr f ρ = oS (f ρ) fun _ => .nx ρ := rfl
theorem sAsg_ap (G : D → Env → Out Env) (f : Env → Out D) (ρ : Env) : sAsg G f ρ = oS (f ρ) fun d => oS (G d ρ) .nx := rfl
theorem sFor_ap (G : D → Env → Out Env) (it : Env → Out (List D)) (b : Env → SO) (ρ : Env) : sFor G it b ρ = oS (it ρ) fun ds => forL G b ds ρ := rfl
theorem sNx_ap (ρ : Env) : sNx ρ = .nx ρ := rfl
theorem sBk_ap (ρ : Env) : sBk ρ = .bk ρ := rfl
theorem sCt_ap (ρ : Env) : sCt ρ = .ct ρ := rfl
theorem sRetN_ap (ρ : Env) : sRetN ρ = .rt .non := rfl
theorem eC_ap (d : D) (ρ : Env) : eC d ρ = .ok d := rfl
theorem eV_0 (d : D) (ρ : Env) : eV 0 (some d :: ρ) = .ok d := rfl
theorem eV_s (i : Nat) (x : Option D) (ρ : Env) : eV (i + 1) (x :: ρ) = eV i ρ := by simp [eV]
theorem e2_ap (F : D → D → Out D) (a b : Env → Out D) (ρ : Env) : e2 F a b ρ = (a ρ).bind fun x => (b ρ).bind fun y => F x y := rfl
theorem e1_ap (F : D → Out D) (a : Env → Out D) (ρ : Env) : e1 F a ρ = (a ρ).bind F := rfl
theorem aN_ap (ρ : Env) : aN ρ = .ok [] := rfl
theorem aC_ap (a : Env → Out D) (r : Env → Out (List D)) (ρ : Env) : aC a r ρ = (a ρ).bind fun x => (r ρ).bind fun xs => .ok (x :: xs) := rfl
theorem eA_ap (F : List D → Out D) (a : Env → Out (List D)) (ρ : Env) : eA F a ρ = (a ρ).bind F := rfl
theorem tOf_ap (f : Env → Out D) (ρ : Env) : tOf f ρ = (f ρ).bind fun d => match d with
  | .bl b => .ok b
  | _ => .stuck := rfl
theorem bAnd_ap (s t : Env → Out Bool) (ρ : Env) : bAnd s t ρ = (s ρ).bind fun b => if b = true then t ρ else .ok false := rfl
theorem bOr_ap (s t : Env → Out Bool) (ρ : Env) : bOr s t ρ = (s ρ).bind fun b => if b = true then .ok true else t ρ := rfl
theorem bNot_ap (s : Env → Out Bool) (ρ : Env) : bNot s ρ = (s ρ).bind fun b => .ok (!b) := rfl
theorem vAnd_ap (a b : Env → Out D) (ρ : Env) : vAnd a b ρ = (a ρ).bind fun x => match x with
  | .bl c => if c = true then b ρ else .ok (.bl false)
  | _ => .stuck := rfl
theorem vOr_ap (a b : Env → Out D) (ρ : Env) : vOr a b ρ = (a ρ).bind fun x => match x with
  | .bl c => if c = true then .ok (.bl true) else b ρ
  | _ => .stuck := rfl
theorem vNot_ap (a : Env → Out D) (ρ : Env) : vNot a ρ = (a ρ).bind fun x => match x with
  | .bl c => .ok (.bl (!c))
  | _ => .stuck := rfl
theorem eIf_ap (t : Env → Out Bool) (a b : Env → Out D) (ρ : Env) : eIf t a b ρ = (t ρ).bind fun c => if c = true then a ρ else b ρ := rfl
theorem gN_ap (i : Nat) (d : D) (ρ : Env) : gN i d ρ = .ok (ρ.set i (some d)) := rfl
theorem gT_ap (gs : List (D → Env → Out Env)) (ds : List D) (ρ : Env) : gT gs (.tup ds) ρ = if ds.length = gs.length then (gs.zip ds).foldl (fun o p => o.bind (p.1 p.2)) (.ok ρ) else .stuck := rfl
theorem forL_nil (G : D → Env → Out Env) (b : Env → SO) (ρ : Env) : forL G b [] ρ = .nx ρ := rfl
theorem forL_cons (G : D → Env → Out Env) (b : Env → SO) (d : D) (ds : List D) (ρ : Env) : forL G b (d :: ds) ρ = oS (G d ρ) fun ρ1 => (b ρ1).turn fun r => forL G b ds r := rfl
theorem fnM_ap (n k : Nat) (b : Env → SO) (ds : List D) : fnM n k b ds = if ds.length = k then (b (ds.map some ++ List.replicate (n - k) none)).res else .stuck := rfl
theorem andThen_ite (c : Prop) [Decidable c] (a b : SO) (k : Env → SO) : (if c then a else b).andThen k = if c then a.andThen k else b.andThen k := by split <;> rfl
theorem turn_ite (c : Prop) [Decidable c] (a b : SO) (k : Env → SO) : (if c then a else b).turn k = if c then a.turn k else b.turn k := by split <;> rfl
theorem res_ite (c : Prop) [Decidable c] (a b : SO) : (if c then a else b).res = if c then a.res else b.res := by split <;> rfl
theorem bind_ite {α β : Type} (c : Prop) [Decidable c] (a b : Out α) (k : α → Out β) : (if c then a else b).bind k = if c then a.bind k else b.bind k := by split <;> rfl
theorem oS_ite {α : Type} (c : Prop) [Decidable c] (a b : Out α) (k : α → SO) : oS (if c then a else b) k = if c then oS a k else oS b k := by split <;> rfl
theorem ok_ite {α : Type} (c : Prop) [Decidable c] (a b : α) : (if c then Out.ok a else Out.ok b) = Out.ok (if c then a else b) := by split <;> rfl
theorem int_ite (c : Prop) [Decidable c] (a b : Int) : (if c then D.int a else D.int b) = D.int (if c then a else b) := by split <;> rfl
theorem iSeq_ap (f : Env → Out D) (ρ : Env) : iSeq f ρ = (f ρ).bind fun d => match d with
  | .lst ds => .ok ds
  | .tup ds => .ok ds
  | .scr ns => .ok (ns.map .int)
  | _ => .stuck := rfl
theorem iRange1_ap (f : Env → Out (List D)) (ρ : Env) : iRange1 f ρ = (f ρ).bind rng1 := rfl
theorem iRange2_ap (f : Env → Out (List D)) (ρ : Env) : iRange2 f ρ = (f ρ).bind rng2 := rfl
theorem rng1_ok {j : Int} (h0 : -1000000 ≤ j) (h1 : j ≤ 1000000) : rng1 [.int j] = .ok ((List.range j.toNat).map fun (n : Nat) => .int n) := chk_pos ⟨by omega, by omega⟩
theorem rng2_ok {i j : Int} (h0 : -1000000 ≤ i) (h1 : i ≤ 1000000) (h2 : -1000000 ≤ j) (h3 : j ≤ 1000000) : rng2 [.int i, .int j] = .ok ((List.range (j - i).toNat).map fun (n : Nat) => .int (i + n)) := chk_pos ⟨by omega, by omega⟩
theorem mkLst_ok {ds : List D} (h : ds.length ≤ 16777216) : mkLst ds = .ok (.lst ds) := chk_pos h
theorem mkTup_ok {ds : List D} (h : ds.length ≤ 16777216) : mkTup ds = .ok (.tup ds) := chk_pos h
theorem mkTup_0 : mkTup [] = .ok (.tup []) := mkTup_ok (by simp)
theorem mkTup_1 (a : D) : mkTup [a] = .ok (.tup [a]) := mkTup_ok (by simp)
theorem mkTup_2 (a b : D) : mkTup [a, b] = .ok (.tup [a, b]) := mkTup_ok (by simp)
theorem mkTup_3 (a b c : D) : mkTup [a, b, c] = .ok (.tup [a, b, c]) := mkTup_ok (by simp)
theorem mkTup_4 (a b c d : D) : mkTup [a, b, c, d] = .ok (.tup [a, b, c, d]) := mkTup_ok (by simp)
theorem mkLst_0 : mkLst [] = .ok (.lst []) := mkLst_ok (by simp)
theorem mkLst_1 (a : D) : mkLst [a] = .ok (.lst [a]) := mkLst_ok (by simp)
theorem mkLst_2 (a b : D) : mkLst [a, b] = .ok (.lst [a, b]) := mkLst_ok (by simp)
theorem mkLst_3 (a b c : D) : mkLst [a, b, c] = .ok (.lst [a, b, c]) := mkLst_ok (by simp)
theorem mkLst_4 (a b c d : D) : mkLst [a, b, c, d] = .ok (.lst [a, b, c, d]) := mkLst_ok (by simp)
theorem dIx_lst {ds : List D} {k : Nat} {d : D} (h : ds[k]? = some d) : dIx (.lst ds) (.int k) = .ok d := by
  show (match atI ds (k : Nat) with | some n => Out.ok n | none => .stuck) = _
  rw [atI_nat h]
theorem dIx_tup {ds : List D} {k : Nat} {d : D} (h : ds[k]? = some d) : dIx (.tup ds) (.int k) = .ok d := by
  show (match atI ds (k : Nat) with | some n => Out.ok n | none => .stuck) = _
  rw [atI_nat h]
theorem dIx_scr {ns : List Int} {k : Nat} {n : Int} (h : ns[k]? = some n) : dIx (.scr ns) (.int k) = .ok (.int n) := by
  show (match atI ns (k : Nat) with | some n => Out.ok (D.int n) | none => .stuck) = _
  rw [atI_nat h]
theorem dAdd_int (i j : Int) : dAdd (.int i) (.int j) = .ok (.int (i + j)) := rfl
theorem dSub_int (i j : Int) : dSub (.int i) (.int j) = .ok (.int (i - j)) := rfl
theorem dNeg_int (i : Int) : dNeg (.int i) = .ok (.int (-i)) := rfl
theorem dLt_int (i j : Int) : dLt (.int i) (.int j) = .ok (.bl (decide (i < j))) := rfl
theorem dLe_int (i j : Int) : dLe (.int i) (.int j) = .ok (.bl (decide (i ≤ j))) := rfl
theorem dGt_int (i j : Int) : dGt (.int i) (.int j) = .ok (.bl (decide (j < i))) := rfl
theorem dGe_int (i j : Int) : dGe (.int i) (.int j) = .ok (.bl (decide (j ≤ i))) := rfl
theorem dEq_int (i j : Int) : dEq (.int i) (.int j) = .ok (.bl (decide (i = j))) := by
  unfold dEq
  rw [chk_pos ⟨rfl, rfl⟩]
  simp only [toPy, PyData.eqv]
  rw [Bool.beq_eq_decide_eq]
theorem dNe_int (i j : Int) : dNe (.int i) (.int j) = .ok (.bl (!decide (i = j))) := by
  unfold dNe
  rw [chk_pos ⟨rfl, rfl⟩]
  simp only [toPy, PyData.eqv]
  rw [Bool.beq_eq_decide_eq]
theorem cLen_scr (ns : List Int) : cLen [.scr ns] = .ok (.int ns.length) := rfl
theorem cLen_lst (ns : List D) : cLen [.lst ns] = .ok (.int ns.length) := rfl
theorem cLen_tup (ns : List D) : cLen [.tup ns] = .ok (.int ns.length) := rfl
theorem cInt_bl (b : Bool) : cInt [.bl b] = .ok (.int (if b then 1 else 0)) := rfl
theorem cInt_int (i : Int) : cInt [.int i] = .ok (.int i) := rfl
theorem cMax_int (i j : Int) : cMax2 [.int i, .int j] = .ok (.int (max i j)) := by
  show Out.ok (D.int (if j > i then j else i)) = _
  congr 2
  rw [Int.max_def]
  split <;> split <;> omega
theorem cMin_int (i j : Int) : cMin2 [.int i, .int j] = .ok (.int (min i j)) := by
  show Out.ok (D.int (if j < i then j else i)) = _
  congr 2
  rw [Int.min_def]
  split <;> split <;> omega
theorem cAbs_int (i : Int) : cAbs [.int i] = .ok (.int i.natAbs) := by
  show Out.ok (D.int (if i < 0 then -i else i)) = _
  congr 2
  split <;> omega
theorem cIsi_int (i : Int) : cIsi [.int i, .ty "int"] = .ok (.bl true) := rfl
theorem cIsi_int_bool (i : Int) : cIsi [.int i, .ty "bool"] = .ok (.bl false) := rfl
/-! sizes -/
def Sz (n : Nat) (i : Int) : Prop := i.natAbs < 2 ^ n
theorem Sz.mono {n m : Nat} {i : Int} (h : Sz n i) (l : n ≤ m) : Sz m i := Nat.lt_of_lt_of_le h (Nat.pow_le_pow_right (by decide) l)
theorem Sz.mul {n m : Nat} {i j : Int} (h : Sz n i) (k : Sz m j) : Sz (n + m) (i * j) := by
  unfold Sz at *
  rw [Int.natAbs_mul, Nat.pow_add]
  exact Nat.mul_lt_mul'' h k
theorem Sz.add {n : Nat} {i j : Int} (h : Sz n i) (k : Sz n j) : Sz (n + 1) (i + j) := by
  unfold Sz at *
  rw [Nat.pow_succ]
  omega
theorem Sz.sub {n : Nat} {i j : Int} (h : Sz n i) (k : Sz n j) : Sz (n + 1) (i - j) := by
  unfold Sz at *
  rw [Nat.pow_succ]
  omega
theorem Sz.neg {n : Nat} {i : Int} (h : Sz n i) : Sz n (-i) := by
  unfold Sz at *
  omega
theorem sz_of_bits {n : Nat} {i : Int} (h : Builtin.Int.intBits i ≤ n) : Sz n i := by
  unfold Sz Builtin.Int.intBits at *
  by_cases z : (i == 0) = true
  · rw [eq_of_beq z]; exact Nat.two_pow_pos n
  · rw [if_neg z] at h
    exact Nat.lt_of_lt_of_le Nat.lt_log2_self (Nat.pow_le_pow_right (by decide) h)
theorem dMul_int {n m : Nat} {i j : Int} (h : Sz n i) (k : Sz m j) (l : n + m ≤ 134217728) : dMul (.int i) (.int j) = .ok (.int (i * j)) := by
  exact chk_pos (mulx_ok h k l)
theorem dDiv_int {n : Nat} {i j : Int} (h : 0 < j) (k : Sz n j) (l : n ≤ 9000) : dDiv (.int i) (.int j) = .ok (.int (i / j)) := by
  refine chk_pos ?_
  cases n with
  | zero => unfold Sz at k; omega
  | succ n => exact wide_div h k (by omega) l
theorem dMod_int {i j : Int} (h : 0 < j) : dMod (.int i) (.int j) = .ok (.int (i % j)) := by
  exact chk_pos h
theorem dPow_int {i j : Int} (h : CPow i j) : dPow (.int i) (.int j) = .ok (.int (i ^ j.toNat)) := by
  exact chk_pos h
end PD

namespace PD
open PySem PySem.Spec L2
open PyProof.Rows hiding St

/-! ## what is owned is changed -/
noncomputable def chkS (p : Prop) (o : SO) : SO := @ite _ p (Classical.propDecidable p) o .stuck
theorem chkS_pos {p : Prop} {o : SO} (h : p) : chkS p o = o := if_pos h
theorem chkS_neg {p : Prop} {o : SO} (h : ¬ p) : chkS p o = .stuck := if_neg h
section
variable {X : Cx} {g : G} {E : WX} {ro : Bool} {Γl Γ Γ1 Γ2 Γ3 : List Bool} {m : Md} {pos : Pos}
theorem Rp.wr {K : PySem.W.Frag} {mg : Str → Option Value} {ρ : Env} {σ : St} {Hf H : Hp} (R : Rp K mg g Γ ρ σ Hf H) {i : Nat} {d d' : D} {a : Addr} {o' : HO} (o : Own Γ i) (e : ρ[i]? = some (some d)) (md : d.mut = true) (es : σ[i]? = some (some (.ref a)))
    (z0 : g.H0 a = none) (zf : Hf a = none) (new : IsO K mg g.H0 Hf (upd H a o') d' (.ref a)) : Rp K mg g Γ (ρ.set i (some d')) σ Hf (upd H a o') := by
  have li : i < ρ.length := (List.getElem?_eq_some_iff.mp e).1
  refine ⟨fun b x q => ?_, fun b x q => ?_, R.ent2, R.news, by simp [R.len], fun j e' ow ej => ?_, fun j e' ow ej => ?_, fun j k e1 e2 v n o1 o2 q1 q2 m1 m2 s1 s2 => ?_⟩
  · rw [upd_ne (ne_of_none q zf)]; exact R.same _ _ q
  · rw [upd_ne (ne_of_none q z0)]; exact R.ent _ _ q
  · rcases set_get ej with ⟨rfl, _, rfl⟩ | ⟨nij, ej'⟩
    · exact ⟨_, es, new⟩
    · obtain ⟨v, ev, io⟩ := R.own j e' ow ej'
      refine ⟨v, ev, ?_⟩
      have key : ∀ b, v = .ref b → e'.mut = true → b ≠ a := fun b eb me z => by
        subst eb; subst z
        exact R.sep i j d e' _ nij o ow e ej' md me es ev
      cases e' with
      | lst ds => obtain ⟨b, xs, eb, w0, wf, q, r⟩ := io; exact ⟨b, xs, eb, w0, wf, by rw [upd_ne (key b eb rfl)]; exact q, r⟩
      | dic ds => obtain ⟨b, xs, eb, w0, wf, q, r⟩ := io; exact ⟨b, xs, eb, w0, wf, by rw [upd_ne (key b eb rfl)]; exact q, r⟩
      | _ => exact io
  · rcases set_get ej with ⟨rfl, _, rfl⟩ | ⟨nij, ej'⟩
    · exact absurd o ow
    · exact R.dat j e' ow ej'
  · rcases set_get q1 with ⟨rfl, _, rfl⟩ | ⟨n1, q1'⟩
    · rcases set_get q2 with ⟨rfl, _⟩ | ⟨n2, q2'⟩
      · exact n rfl
      · exact R.sep i k d e2 v n o1 o2 e q2' md m2 s1 s2
    · rcases set_get q2 with ⟨rfl, _, rfl⟩ | ⟨n2, q2'⟩
      · exact R.sep j i e1 d v n o1 o2 q1' e m1 md s1 s2
      · exact R.sep j k e1 e2 v n o1 o2 q1' q2' m1 m2 s1 s2
theorem IsDs.snoc {K : PySem.W.Frag} {mg : Str → Option Value} {H : Hp} {d : D} {v : V} : ∀ {ds : List D} {vs : List V}, IsDs K mg H ds vs → IsD K mg H d v → IsDs K mg H (ds ++ [d]) (vs ++ [v])
  | [], vs, h, k => by
    simp only [IsDs] at h
    subst h
    show IsDs K mg H [d] [v]
    simp only [IsDs]
    exact ⟨v, [], rfl, k, rfl⟩
  | x :: ds, vs, h, k => by
    simp only [IsDs, List.cons_append] at h ⊢
    obtain ⟨u, us, rfl, q, r⟩ := h
    exact ⟨u, us ++ [v], rfl, q, r.snoc k⟩
/-- the list in slot i changed by a value -/
def onLst (i : Nat) (f : Env → Out D) (k : List D → D → Env → SO) : Env → SO := fun ρ => match ρ[i]? with
  | some (some (.lst xs)) => oS (f ρ) fun d => k xs d ρ
  | _ => .stuck
noncomputable def sApp (i : Nat) (f : Env → Out D) : Env → SO := onLst i f fun xs d ρ => chkS (xs.length < sizeLine) (.nx (ρ.set i (some (.lst (xs ++ [d])))))
theorem psx_append {i : Nat} {x : Str} {a : Expr} {p ap cp : Pos} {fa : Env → Out D} (h : PE X (.Name x p) (tVar i)) (ha : PX X g E Γ a Γ1 .fr fa) (o : Γ1.getD i false = true)
    (hbase : attributeBase (.Name x p) "append" X.env (eval (.Name x p) X.env) = eval (.Name x p) X.env := by rfl)
    (hfew : ((backTo cp (starEach (a :: []) X.env)).all (fun x => !x.1) && (backToKw cp (keywordEach [] X.env)).all (fun x => x.1.isSome)
      && decide ((a :: []).length + ([] : List Keyword).length + (if ([] : List Keyword).isEmpty then 0 else 1) < 30)) = true := by rfl)
    (hline : (ap.endLine == cp.line) = true := by rfl) (hs : starEach (a :: []) X.env = (false, eval a X.env) :: starEach [] X.env := by rfl) (hplain : (backTo cp (starEach [] X.env)).any (·.1) = false := by rfl)
    (hsw : swapsWith (.Call (.Attribute (.Name x p) "append" ap) [a] [] cp) none pos.line X.env = pure false := by rfl) :
    PSx X g E ro Γl Γ (.Expr (.Call (.Attribute (.Name x p) "append" ap) [a] [] cp) pos) Γ1 (sApp i fa) := by
  refine ⟨(ps_expr (pe_bm PySem.F.plainAttrs_list PySem.F.slot_list_append PySem.F.type_list_append mt_append h (pa_cons ha.pe pa_nil hs) hbase hfew hline hs hplain) hsw).imp fun Dn σ H ⟨ρ, Hf, R, q⟩ => ?_⟩
  unfold sApp onLst at q
  split at q
  · rename_i xs e
    simp only at q
    obtain ⟨v, es, io⟩ := R.own i _ (ha.le i o) e
    obtain ⟨p, ys, rfl, z0, zf, qH, r⟩ := io
    refine ⟨_, es, .inl ⟨rfl, ys, SqL.of qH⟩, ρ, Hf, R, ?_⟩
    refine tG.toS q fun d F1 H1 s1 s2 R1 k v hv => ?_
    obtain ⟨v', es', io'⟩ := R1.own i _ o e
    rw [es] at es'
    obtain rfl : V.ref p = v' := Option.some.inj (Option.some.inj es')
    obtain ⟨p', ys', ep, z0', zf', qH', r'⟩ := io'
    obtain rfl : p = p' := V.ref.inj ep
    by_cases l : xs.length < sizeLine
    · rw [chkS_pos l] at k
      refine ⟨p, ys', v, rfl, rfl, qH', by rw [r'.len]; exact l, ?_⟩
      exact k σ F1 _ (R1.wr o e rfl es z0' zf' ⟨p, _, rfl, z0', zf', upd_same, r'.snoc hv⟩)
    · rw [chkS_neg l] at k; exact k.elim
  · exact q.elim
/-! ## a, b = e1, e2 -/
def sPar (i j : Nat) (a b : Env → Out D) : Env → SO := fun ρ => oS (a ρ) fun x => oS (b ρ) fun y => .nx ((ρ.set i (some x)).set j (some y))
theorem psx_par {i j : Nat} {x y : Str} {a b : Expr} {fa fb : Env → Out D} {px py pt : Pos} {kt k2 pt2} (hc : X.calm = true) (hN : X.N.Nodup) (hi : X.N[i]? = some x) (hj : X.N[j]? = some y) (hij : i ≠ j)
    (hx : X.env.scope.names.lookup x = some .local) (hy : X.env.scope.names.lookup y = some .local) (ha : PX X g E Γ a Γ1 .fr fa) (hb : PX X g E Γ1 b Γ2 .fr fb)
    (h1 : starEach [a, b] X.env = (false, eval a X.env) :: starEach [b] X.env := by rfl) (h2 : starEach [b] X.env = (false, eval b X.env) :: starEach [] X.env := by rfl)
    (hw : swappedStores [.Tuple [.Name x px, .Name y py] kt pt] (.Tuple [a, b] k2 pt2) X.env = pure (some [x, y]) := by rfl)
    (hs : swapsWithSole [.Tuple [.Name x px, .Name y py] kt pt] (.Tuple [a, b] k2 pt2) pos.line X.env = pure false := by rfl) :
    PSx X g E ro Γl Γ (.Assign [.Tuple [.Name x px, .Name y py] kt pt] (.Tuple [a, b] k2 pt2) pos) ((Γ2.set i false).set j false) (sPar i j fa fb) := by
  refine ⟨(ps_par hc hN hi hj hij hx hy (pa_cons ha.pe (pa_cons hb.pe pa_nil h2) h1) hw hs).imp fun Dn σ H ⟨ρ, Hf, R, q⟩ => ⟨ρ, Hf, R, ?_⟩⟩
  unfold sPar at q
  cases hfa : fa ρ with
  | ok d1 =>
    rw [hfa] at q
    intro F1 H1 s1 s2 R1 v hv
    refine ⟨ρ, F1, R1, ?_⟩
    refine tG.toS q fun d2 F2 H2 s3 s4 R2 k u hu => ?_
    exact ⟨v, u, rfl, k _ F2 H2 ((R2.setF (IsD.mono s3 hv)).setF hu)⟩
  | exc x => rw [hfa] at q; exact fun c dd F1 H1 s1 s2 R1 ix => q c dd σ H1 R1.ent ix
  | stuck => rw [hfa] at q; exact q.elim
/-! ## range by steps -/
noncomputable def rng3 : List D → Out (List D)
  | [.int i, .int j, .int c] => chk (RgC i j c (Builtin.Range.rangeSize i j c).toNat) (.ok ((List.range (Builtin.Range.rangeSize i j c).toNat).map fun (n : Nat) => .int (i + n * c)))
  | _ => .stuck
noncomputable def iRange3 (f : Env → Out (List D)) : Env → Out (List D) := fun ρ => (f ρ).bind rng3
theorem walks_rngC {K : PySem.W.Frag} {mg : Str → Option Value} {H0 F1 : Hp} {lo c : Int} {n : Nat} : Walks K mg H0 (Itc lo c n) F1 ((List.range n).map fun (k : Nat) => .int (lo + k * c)) := by
  intro g Γ ρ σ Hf H e0 s R i
  refine ⟨fun d e => ?_, fun l => show n ≤ i by simpa using l⟩
  rw [List.getElem?_map] at e
  by_cases l : i < n
  · rw [List.getElem?_range l] at e
    cases e
    refine ⟨l, fun x H' y => ?_⟩
    obtain ⟨rfl, rfl⟩ := y
    exact ⟨Hf, Same.refl _, Same.refl _, R, by simp only [IsD]⟩
  · rw [List.getElem?_eq_none (by simpa using l)] at e
    cases e
theorem pix_range3 {tg a b c : Expr} {p : Pos} {f : Env → Out (List D)} (hg : Gl X "range") (hm : X.mg "range" = none) (h : PAx X g E Γ [a, b, c] Γ1 f) (hs : starEach [a, b, c] X.env = (false, eval a X.env) :: starEach [b, c] X.env := by rfl) (hpl : (backTo pos (starEach [b, c] X.env)).any (·.1) = false := by rfl) :
    PIx X g E Γ tg (.Call (.Name "range" p) [a, b, c] [] pos) Γ1 (iRange3 f) := by
  refine ⟨h.le, (pi_range3 hg hm h.pe hs hpl).imp fun σ H Q ⟨ρ, Hf, R, q⟩ => ⟨ρ, Hf, R, ?_⟩⟩
  refine tG.bind (Le.refl _) q fun ds F1 H1 s1 s2 R1 k vs hv => ?_
  unfold rng3 at k
  split at k
  · rename_i i j c
    simp only [IsDs, IsD] at hv
    obtain ⟨_, _, rfl, rfl, _, _, rfl, rfl, _, _, rfl, rfl, rfl⟩ := hv
    by_cases z : RgC i j c (Builtin.Range.rangeSize i j c).toNat
    · rw [chk_pos z] at k
      exact ⟨i, j, c, _, rfl, z, k F1 H1 (Same.refl _) (Same.refl _) R1 _ walks_rngC⟩
    · rw [chk_neg z] at k; exact k.elim
  · exact k.elim
end
/-! evaluation -/
def eL (i : Nat) : Env → Out (List D) := fun ρ => match ρ[i]? with
  | some (some (.lst xs)) => .ok xs
  | _ => .stuck
theorem eL_0 (xs : List D) (ρ : Env) : eL 0 (some (.lst xs) :: ρ) = .ok xs := rfl
theorem eL_s (i : Nat) (x : Option D) (ρ : Env) : eL (i + 1) (x :: ρ) = eL i ρ := by simp [eL]
theorem onLst_ap (i : Nat) (f : Env → Out D) (k : List D → D → Env → SO) (ρ : Env) : onLst i f k ρ = oS (eL i ρ) fun xs => oS (f ρ) fun d => k xs d ρ := by
  unfold onLst eL
  split
  · rename_i xs e
    simp only [oS_ok]
  · rfl
theorem sApp_ap (i : Nat) (f : Env → Out D) (ρ : Env) : sApp i f ρ = oS (eL i ρ) fun xs => oS (f ρ) fun d => chkS (xs.length < sizeLine) (.nx (ρ.set i (some (.lst (xs ++ [d]))))) := onLst_ap i f _ ρ
theorem sPar_ap (i j : Nat) (a b : Env → Out D) (ρ : Env) : sPar i j a b ρ = oS (a ρ) fun x => oS (b ρ) fun y => .nx ((ρ.set i (some x)).set j (some y)) := rfl
theorem iRange3_ap (f : Env → Out (List D)) (ρ : Env) : iRange3 f ρ = (f ρ).bind rng3 := rfl
theorem rng3_ok {i j c : Int} (h0 : -1000000 ≤ i) (h1 : i ≤ 1000000) (h2 : -1000000 ≤ j) (h3 : j ≤ 1000000) (h4 : 0 < c) (h5 : c ≤ 1000000) {n : Nat} (hn : (if i < j then (j - i - 1) / c + 1 else 0) = (n : Int)) :
    rng3 [.int i, .int j, .int c] = .ok ((List.range n).map fun (k : Nat) => .int (i + k * c)) := by
  have e : Builtin.Range.rangeSize i j c = (n : Int) := by unfold Builtin.Range.rangeSize; rw [if_pos (by omega)]; exact hn
  have l : (n : Int) ≤ 2000001 := by
    rw [← hn]
    split
    · have := Int.ediv_le_self (a := j - i - 1) c (by omega)
      omega
    · omega
  have z : RgC i j c n := by
    refine ⟨by omega, by omega, ?_, e⟩
    unfold Builtin.Range.small
    rw [e]
    have hc : c > 0 := h4
    simp only [Builtin.Range.rangeFitsLong, Bool.and_eq_true, Bool.or_eq_true, decide_eq_true_eq, beq_iff_eq, hc, if_true]
    omega
  show chk _ _ = _
  rw [e, Int.toNat_natCast]
  exact chk_pos z
theorem app_ok {n : Nat} (h : n < 16777216) (o : SO) : chkS (n < sizeLine) o = o := chkS_pos h
theorem gT_lst (gs : List (D → Env → Out Env)) (ds : List D) (ρ : Env) : gT gs (.lst ds) ρ = if ds.length = gs.length then (gs.zip ds).foldl (fun o p => o.bind (p.1 p.2)) (.ok ρ) else .stuck := rfl
end PD

namespace PD
open PySem PySem.Spec L2
open PyProof.Rows hiding St
/-! ## the text -/
def topS (i : Nat) : Stmt := PySem.Challenge.pw_realsay_k14_the_whole_number_below.main.body.getD i (.Pass ⟨0, 0, 0, 0⟩)
structure Tx (K : PySem.W.Frag) (mg : Str → Option Value) : Prop where
  z_bool : mg "bool" = none
  z_int : mg "int" = none
  z_isinstance : mg "isinstance" = none
  z_len : mg "len" = none
  z_max : mg "max" = none
  z_min : mg "min" = none
  z_range : mg "range" = none
  f_whole_root : FnT K mg "whole_root" (topS 1)
  f_floor_of : FnT K mg "floor_of" (topS 2)
  f__law_cell : FnT K mg "_law_cell" (topS 4)
  f__law_signed : FnT K mg "_law_signed" (topS 5)
  f__law_sign : FnT K mg "_law_sign" (topS 6)
  f__law_base : FnT K mg "_law_base" (topS 7)
  f__law_again : FnT K mg "_law_again" (topS 8)
  f__law_near : FnT K mg "_law_near" (topS 9)
  f__law_by_digits : FnT K mg "_law_by_digits" (topS 10)
  f__law_read : FnT K mg "_law_read" (topS 11)
  f__law_numbers : FnT K mg "_law_numbers" (topS 12)
  f__law_below : FnT K mg "_law_below" (topS 13)
  f_law : FnT K mg "law" (topS 14)
section
variable {P : Program} {w : World} {K : PySem.W.Frag} {mg : Str → Option Value} {base : Heap}
noncomputable def b_whole_root_1 : Env → SO := (sSet 1 (e2 dMul (eV 1) (eC (.int 2))))
noncomputable def b_whole_root_2 : Env → SO := (sSeq (sIf (tOf (e2 dLe (e2 dMul (e2 dAdd (eV 2) (eV 1)) (e2 dAdd (eV 2) (eV 1))) (eV 0)))
 (sSet 2 (e2 dAdd (eV 2) (eV 1)))
 sNx)
 (sSet 1 (e2 dDiv (eV 1) (eC (.int 2)))))
noncomputable def b_whole_root : Env → SO := (sSeq (sSet 1 (eC (.int 1)))
 (sSeq (sWhile (tOf (e2 dLe (e2 dMul (eV 1) (eV 1)) (eV 0)))
 b_whole_root_1)
 (sSeq (sSet 2 (eC (.int 0)))
 (sSeq (sWhile (tOf (e2 dGt (eV 1) (eC (.int 0))))
 b_whole_root_2)
 (sRet (eV 2))))))
noncomputable def m_whole_root : List D → Out D := fnM 3 1 b_whole_root
theorem w_whole_root (T : Tx K mg) : FnA P w K mg base 1 "whole_root" ["number"] false m_whole_root := by
  have nd : (["number", "step", "found"] : List Str).Nodup := by decide +kernel
  have S : FnScope ["number", "step", "found"] ["number"] (defScope (topS 1)) := ⟨rfl, rfl, rfl, nd, rfl, by decide +kernel, by decide +kernel⟩
  refine fnA_mk (Γ0 := []) (Γl := []) (Γ' := []) T.f_whole_root S (by decide) (no_own rfl) (fun _ _ _ _ _ _ us hl => match us, hl with | [_], _ => rfl) fun f cdv A outer s H E Hf hr => ?_
  have tk := takes_of (X := cxD P w K mg base ["number", "step", "found"] "whole_root" (topS 1) f cdv A outer s H E) rfl rfl rfl rfl
  have hp := passes_of (X := cxD P w K mg base ["number", "step", "found"] "whole_root" (topS 1) f cdv A outer s H E) rfl
  exact (pssx_cons (PSx.less (Γ2 := []) (psx_set (i := 1) nd rfl (.inl rfl) px_int) (le_of rfl))
 (pssx_cons (PSx.pre (psx_while (Γ := []) hp (ptx_cmp (od_le hr) (px_bin (od_mul hr) (px_rd (pv 1)) (px_rd (pv 1))) (px_rd (pv 0)) (nomark _)) (PSsx.less (Γ2 := []) (pssx_one (PSx.less (Γ2 := []) (psx_set (i := 1) nd rfl (.inl rfl) (px_bin (od_mul hr) (px_rd (pv 1)) px_int)) (le_of rfl))) (le_of rfl))) (le_of rfl))
 (pssx_cons (PSx.less (Γ2 := []) (psx_set (i := 2) nd rfl (.inl rfl) px_int) (le_of rfl))
 (pssx_cons (PSx.pre (psx_while (Γ := []) hp (ptx_cmp (od_gt hr) (px_rd (pv 1)) px_int (nomark _)) (PSsx.less (Γ2 := []) (pssx_cons (psx_if (Γ2 := []) (ptx_cmp (od_le hr) (px_bin (od_mul hr) (px_bin (od_add hr) (px_rd (pv 2)) (px_rd (pv 1))) (px_bin (od_add hr) (px_rd (pv 2)) (px_rd (pv 1)))) (px_rd (pv 0)) (nomark _))
 (PSsx.less (Γ2 := []) (pssx_one (PSx.less (Γ2 := []) (psx_set (i := 2) nd rfl (.inl rfl) (px_bin (od_add hr) (px_rd (pv 2)) (px_rd (pv 1)))) (le_of rfl))) (le_of rfl))
 (PSsx.less (Γ2 := []) pssx_nil (le_of rfl)))
 (pssx_one (PSx.less (Γ2 := []) (psx_set (i := 1) nd rfl (.inl rfl) (px_bin od_div (px_rd (pv 1)) px_int)) (le_of rfl)))) (le_of rfl))) (le_of rfl))
 (pssx_one (psx_ret (px_fr' (pv 2) rfl)))))))
noncomputable def b_floor_of : Env → SO := (sSeq (sAsg (gT [(gN 1), (gN 2), (gN 3), (gN 4)]) (eV 0))
 (sSeq (sSet 5 (e2 dMul (e2 dMul (eV 2) (eV 2)) (eV 3)))
 (sSeq (sSet 6 (eA m_whole_root (aC (eV 5) aN)))
 (sSeq (sIf (tOf (e2 dGe (eV 2) (eC (.int 0))))
 (sRet (e2 dDiv (e2 dAdd (eV 1) (eV 6)) (eV 4)))
 sNx)
 (sSeq (sIf (tOf (e2 dLt (e2 dMul (eV 6) (eV 6)) (eV 5)))
 (sSet 6 (e2 dAdd (eV 6) (eC (.int 1))))
 sNx)
 (sRet (e2 dDiv (e2 dSub (eV 1) (eV 6)) (eV 4))))))))
noncomputable def m_floor_of : List D → Out D := fnM 7 1 b_floor_of
theorem w_floor_of (T : Tx K mg) : FnA P w K mg base 2 "floor_of" ["number"] false m_floor_of := by
  have C_whole_root := w_whole_root (P := P) (w := w) (base := base) T
  have nd : (["number", "p", "q", "r", "s", "square", "root"] : List Str).Nodup := by decide +kernel
  have S : FnScope ["number", "p", "q", "r", "s", "square", "root"] ["number"] (defScope (topS 2)) := ⟨rfl, rfl, rfl, nd, rfl, by decide +kernel, by decide +kernel⟩
  refine fnA_mk (Γ0 := []) (Γl := []) (Γ' := []) T.f_floor_of S (by decide) (no_own rfl) (fun _ _ _ _ _ _ us hl => match us, hl with | [_], _ => rfl) fun f cdv A outer s H E Hf hr => ?_
  have tk := takes_of (X := cxD P w K mg base ["number", "p", "q", "r", "s", "square", "root"] "floor_of" (topS 2) f cdv A outer s H E) rfl rfl rfl rfl
  have hp := passes_of (X := cxD P w K mg base ["number", "p", "q", "r", "s", "square", "root"] "floor_of" (topS 2) f cdv A outer s H E) rfl
  exact (pssx_cons (PSx.less (Γ2 := []) (psx_asg (px_fr' (pv 0) rfl) (pgx_tup rfl (pgsx_cons (pgx_name (i := 1) nd rfl (.inl rfl)) (pgsx_cons (pgx_name (i := 2) nd rfl (.inl rfl)) (pgsx_cons (pgx_name (i := 3) nd rfl (.inl rfl)) (pgsx_cons (pgx_name (i := 4) nd rfl (.inl rfl)) pgsx_nil))))) (gT_nx (nxs_cons gN_nx (nxs_cons gN_nx (nxs_cons gN_nx (nxs_cons gN_nx nxs_nil)))))) (le_of rfl))
 (pssx_cons (PSx.less (Γ2 := []) (psx_set (i := 5) nd rfl (.inl rfl) (px_bin (od_mul hr) (px_bin (od_mul hr) (px_rd (pv 2)) (px_rd (pv 2))) (px_rd (pv 3)))) (le_of rfl))
 (pssx_cons (PSx.less (Γ2 := []) (psx_set (i := 6) nd rfl (.inl rfl) (px_callF C_whole_root (hr.mono (by decide)) rfl tk (pax_cons (px_fr' (pv 5) rfl) pax_nil))) (le_of rfl))
 (pssx_cons (psx_if (Γ2 := []) (ptx_cmp (od_ge hr) (px_rd (pv 2)) px_int (nomark _))
 (pssx_one (psx_ret (px_bin od_div (px_bin (od_add hr) (px_rd (pv 1)) (px_rd (pv 6))) (px_rd (pv 4)))))
 (PSsx.less (Γ2 := []) pssx_nil (le_of rfl)))
 (pssx_cons (psx_if (Γ2 := []) (ptx_cmp (od_lt hr) (px_bin (od_mul hr) (px_rd (pv 6)) (px_rd (pv 6))) (px_rd (pv 5)) (nomark _))
 (PSsx.less (Γ2 := []) (pssx_one (PSx.less (Γ2 := []) (psx_set (i := 6) nd rfl (.inl rfl) (px_bin (od_add hr) (px_rd (pv 6)) px_int)) (le_of rfl))) (le_of rfl))
 (PSsx.less (Γ2 := []) pssx_nil (le_of rfl)))
 (pssx_one (psx_ret (px_bin od_div (px_bin od_sub (px_rd (pv 1)) (px_rd (pv 6))) (px_rd (pv 4))))))))))
noncomputable def b__law_cell : Env → SO := (sSeq (sIf (tOf (e2 dLt (eV 1) (eA cLen (aC (eV 0) aN))))
 (sSeq (sSet 2 (e2 dMul (e2 dIx (eV 0) (eV 1)) (eC (.int 31415926535897932384626433832795028841971693993751058209749))))
 (sRet (e2 dMod (eV 2) (e2 dPow (eC (.int 10)) (eC (.int 60))))))
 sNx)
 (sRet (eC (.int 0))))
noncomputable def m__law_cell : List D → Out D := fnM 3 2 b__law_cell
theorem w__law_cell (T : Tx K mg) : FnA P w K mg base 1 "_law_cell" ["_law_script", "_law_k"] false m__law_cell := by
  have nd : (["_law_script", "_law_k", "_law_wide"] : List Str).Nodup := by decide +kernel
  have S : FnScope ["_law_script", "_law_k", "_law_wide"] ["_law_script", "_law_k"] (defScope (topS 4)) := ⟨rfl, rfl, rfl, nd, rfl, by decide +kernel, by decide +kernel⟩
  refine fnA_mk (Γ0 := []) (Γl := []) (Γ' := []) T.f__law_cell S (by decide) (no_own rfl) (fun _ _ _ _ _ _ us hl => match us, hl with | [_, _], _ => rfl) fun f cdv A outer s H E Hf hr => ?_
  have tk := takes_of (X := cxD P w K mg base ["_law_script", "_law_k", "_law_wide"] "_law_cell" (topS 4) f cdv A outer s H E) rfl rfl rfl rfl
  have hp := passes_of (X := cxD P w K mg base ["_law_script", "_law_k", "_law_wide"] "_law_cell" (topS 4) f cdv A outer s H E) rfl
  exact (pssx_cons (psx_if (Γ2 := []) (ptx_cmp (od_lt hr) (px_rd (pv 1)) (px_callB ca_len rfl T.z_len bb_len (pbx_cons (px_rd (pv 0)) pbx_nil)) (nomark _))
 (pssx_cons (PSx.less (Γ2 := []) (psx_set (i := 2) nd rfl (.inl rfl) (px_bin (od_mul hr) (PX.rd (px_ix (px_rd (pv 0)) (px_rd (pv 1)) (fun _ _ => rfl))) px_int)) (le_of rfl))
 (pssx_one (psx_ret (px_bin od_mod (px_rd (pv 2)) (px_bin od_pow px_int px_int)))))
 (PSsx.less (Γ2 := []) pssx_nil (le_of rfl)))
 (pssx_one (psx_ret px_int)))
noncomputable def b__law_signed : Env → SO := (sSeq (sSet 0 (e2 dMod (eV 0) (e2 dAdd (e2 dMul (eC (.int 2)) (eV 1)) (eC (.int 1)))))
 (sSeq (sSet 2 (e2 dDiv (e2 dAdd (eV 0) (eC (.int 1))) (eC (.int 2))))
 (sSeq (sIf (tOf (e2 dEq (e2 dMod (eV 0) (eC (.int 2))) (eC (.int 1))))
 (sRet (eV 2))
 sNx)
 (sRet (e2 dSub (eC (.int 0)) (eV 2))))))
noncomputable def m__law_signed : List D → Out D := fnM 3 2 b__law_signed
theorem w__law_signed (T : Tx K mg) : FnA P w K mg base 1 "_law_signed" ["_law_number", "_law_most"] false m__law_signed := by
  have nd : (["_law_number", "_law_most", "_law_half"] : List Str).Nodup := by decide +kernel
  have S : FnScope ["_law_number", "_law_most", "_law_half"] ["_law_number", "_law_most"] (defScope (topS 5)) := ⟨rfl, rfl, rfl, nd, rfl, by decide +kernel, by decide +kernel⟩
  refine fnA_mk (Γ0 := []) (Γl := []) (Γ' := []) T.f__law_signed S (by decide) (no_own rfl) (fun _ _ _ _ _ _ us hl => match us, hl with | [_, _], _ => rfl) fun f cdv A outer s H E Hf hr => ?_
  have tk := takes_of (X := cxD P w K mg base ["_law_number", "_law_most", "_law_half"] "_law_signed" (topS 5) f cdv A outer s H E) rfl rfl rfl rfl
  have hp := passes_of (X := cxD P w K mg base ["_law_number", "_law_most", "_law_half"] "_law_signed" (topS 5) f cdv A outer s H E) rfl
  exact (pssx_cons (PSx.less (Γ2 := []) (psx_set (i := 0) nd rfl (.inl rfl) (px_bin od_mod (px_rd (pv 0)) (px_bin (od_add hr) (px_bin (od_mul hr) px_int (px_rd (pv 1))) px_int))) (le_of rfl))
 (pssx_cons (PSx.less (Γ2 := []) (psx_set (i := 2) nd rfl (.inl rfl) (px_bin od_div (px_bin (od_add hr) (px_rd (pv 0)) px_int) px_int)) (le_of rfl))
 (pssx_cons (psx_if (Γ2 := []) (ptx_cmp (od_eq hr) (px_bin od_mod (px_rd (pv 0)) px_int) px_int (nomark _))
 (pssx_one (psx_ret (px_fr' (pv 2) rfl)))
 (PSsx.less (Γ2 := []) pssx_nil (le_of rfl)))
 (pssx_one (psx_ret (px_bin od_sub px_int (px_rd (pv 2))))))))
noncomputable def b__law_sign : Env → SO := (sSeq (sSet 3 (e2 dSub (eA cInt (aC (e2 dGt (eV 0) (eC (.int 0))) aN)) (eA cInt (aC (e2 dLt (eV 0) (eC (.int 0))) aN))))
 (sSeq (sSet 4 (e2 dSub (eA cInt (aC (e2 dGt (eV 1) (eC (.int 0))) aN)) (eA cInt (aC (e2 dLt (eV 1) (eC (.int 0))) aN))))
 (sSeq (sIf (tOf (e2 dEq (eV 2) (eC (.int 0))))
 (sSet 4 (eC (.int 0)))
 sNx)
 (sSeq (sIf (tOf (e2 dGe (e2 dMul (eV 3) (eV 4)) (eC (.int 0))))
 (sRet (eA cMax2 (aC (e1 dNeg (eC (.int 1))) (aC (eA cMin2 (aC (eC (.int 1)) (aC (e2 dAdd (eV 3) (eV 4)) aN))) aN))))
 sNx)
 (sSeq (sSet 5 (e2 dSub (e2 dMul (eV 0) (eV 0)) (e2 dMul (e2 dMul (eV 1) (eV 1)) (eV 2))))
 (sSeq (sIf (tOf (e2 dLt (eV 5) (eC (.int 0))))
 (sRet (eV 4))
 sNx)
 (sRet (e2 dMul (eV 3) (eA cInt (aC (e2 dGt (eV 5) (eC (.int 0))) aN))))))))))
noncomputable def m__law_sign : List D → Out D := fnM 6 3 b__law_sign
theorem w__law_sign (T : Tx K mg) : FnA P w K mg base 1 "_law_sign" ["_law_u", "_law_v", "_law_r"] false m__law_sign := by
  have nd : (["_law_u", "_law_v", "_law_r", "_law_left", "_law_right", "_law_more"] : List Str).Nodup := by decide +kernel
  have S : FnScope ["_law_u", "_law_v", "_law_r", "_law_left", "_law_right", "_law_more"] ["_law_u", "_law_v", "_law_r"] (defScope (topS 6)) := ⟨rfl, rfl, rfl, nd, rfl, by decide +kernel, by decide +kernel⟩
  refine fnA_mk (Γ0 := []) (Γl := []) (Γ' := []) T.f__law_sign S (by decide) (no_own rfl) (fun _ _ _ _ _ _ us hl => match us, hl with | [_, _, _], _ => rfl) fun f cdv A outer s H E Hf hr => ?_
  have tk := takes_of (X := cxD P w K mg base ["_law_u", "_law_v", "_law_r", "_law_left", "_law_right", "_law_more"] "_law_sign" (topS 6) f cdv A outer s H E) rfl rfl rfl rfl
  have hp := passes_of (X := cxD P w K mg base ["_law_u", "_law_v", "_law_r", "_law_left", "_law_right", "_law_more"] "_law_sign" (topS 6) f cdv A outer s H E) rfl
  exact (pssx_cons (PSx.less (Γ2 := []) (psx_set (i := 3) nd rfl (.inl rfl) (px_bin od_sub (px_callT ca_int rfl T.z_int bb_int (pbx_cons (px_cmp (od_gt hr) (px_rd (pv 0)) px_int (nomark _)) pbx_nil)) (px_callT ca_int rfl T.z_int bb_int (pbx_cons (px_cmp (od_lt hr) (px_rd (pv 0)) px_int (nomark _)) pbx_nil)))) (le_of rfl))
 (pssx_cons (PSx.less (Γ2 := []) (psx_set (i := 4) nd rfl (.inl rfl) (px_bin od_sub (px_callT ca_int rfl T.z_int bb_int (pbx_cons (px_cmp (od_gt hr) (px_rd (pv 1)) px_int (nomark _)) pbx_nil)) (px_callT ca_int rfl T.z_int bb_int (pbx_cons (px_cmp (od_lt hr) (px_rd (pv 1)) px_int (nomark _)) pbx_nil)))) (le_of rfl))
 (pssx_cons (psx_if (Γ2 := []) (ptx_cmp (od_eq hr) (px_rd (pv 2)) px_int (nomark _))
 (PSsx.less (Γ2 := []) (pssx_one (PSx.less (Γ2 := []) (psx_set (i := 4) nd rfl (.inl rfl) px_int) (le_of rfl))) (le_of rfl))
 (PSsx.less (Γ2 := []) pssx_nil (le_of rfl)))
 (pssx_cons (psx_if (Γ2 := []) (ptx_cmp (od_ge hr) (px_bin (od_mul hr) (px_rd (pv 3)) (px_rd (pv 4))) px_int (nomark _))
 (pssx_one (psx_ret (px_callB (ca_max2 rfl) rfl T.z_max bb_max (pbx_cons (px_un ud_neg px_int) (pbx_cons (px_callB (ca_min2 rfl) rfl T.z_min bb_min (pbx_cons px_int (pbx_cons (px_bin (od_add hr) (px_rd (pv 3)) (px_rd (pv 4))) pbx_nil))) pbx_nil)))))
 (PSsx.less (Γ2 := []) pssx_nil (le_of rfl)))
 (pssx_cons (PSx.less (Γ2 := []) (psx_set (i := 5) nd rfl (.inl rfl) (px_bin od_sub (px_bin (od_mul hr) (px_rd (pv 0)) (px_rd (pv 0))) (px_bin (od_mul hr) (px_bin (od_mul hr) (px_rd (pv 1)) (px_rd (pv 1))) (px_rd (pv 2))))) (le_of rfl))
 (pssx_cons (psx_if (Γ2 := []) (ptx_cmp (od_lt hr) (px_rd (pv 5)) px_int (nomark _))
 (pssx_one (psx_ret (px_fr' (pv 4) rfl)))
 (PSsx.less (Γ2 := []) pssx_nil (le_of rfl)))
 (pssx_one (psx_ret (px_bin (od_mul hr) (px_rd (pv 3)) (px_callT ca_int rfl T.z_int bb_int (pbx_cons (px_cmp (od_gt hr) (px_rd (pv 5)) px_int (nomark _)) pbx_nil)))))))))))
noncomputable def b__law_base_1 : Env → SO := (sSeq (sSet 0 (e2 dMod (e2 dMul (eV 0) (eC (.int 69621))) (e2 dAdd (e2 dPow (eC (.int 10)) (eC (.int 60))) (eC (.int 7)))))
 (sApp 2 (e2 dDiv (eV 0) (e2 dPow (eC (.int 10)) (eC (.int 24))))))
noncomputable def b__law_base : Env → SO := (sSeq (sSet 1 (e2 dIx (eA mkLst (aC (eC (.int 3)) (aC (eC (.int 60)) (aC (e2 dPow (eC (.int 10)) (eC (.int 6))) (aC (e2 dPow (eC (.int 10)) (eC (.int 12))) (aC (e2 dPow (eC (.int 10)) (eC (.int 28))) aN)))))) (e2 dMod (eV 0) (eC (.int 5)))))
 (sSeq (sSet 2 (eA mkLst aN))
 (sSeq (sFor (gN 3) (iRange1 (aC (eC (.int 4)) aN))
 b__law_base_1)
 (sSeq (sSet 4 (eA m__law_signed (aC (e2 dIx (eV 2) (eC (.int 0))) (aC (eV 1) aN))))
 (sSeq (sSet 5 (eA m__law_signed (aC (e2 dIx (eV 2) (eC (.int 1))) (aC (eV 1) aN))))
 (sRet (eA mkTup (aC (eV 4) (aC (eV 5) (aC (e2 dMod (e2 dIx (eV 2) (eC (.int 2))) (e2 dAdd (eV 1) (eC (.int 1)))) (aC (e2 dAdd (eC (.int 1)) (e2 dMod (e2 dIx (eV 2) (eC (.int 3))) (eV 1))) aN)))))))))))
noncomputable def m__law_base : List D → Out D := fnM 6 1 b__law_base
theorem w__law_base (T : Tx K mg) : FnA P w K mg base 2 "_law_base" ["_law_number"] false m__law_base := by
  have C__law_signed := w__law_signed (P := P) (w := w) (base := base) T
  have nd : (["_law_number", "_law_size", "_law_found", "_law_k", "_law_p", "_law_q"] : List Str).Nodup := by decide +kernel
  have S : FnScope ["_law_number", "_law_size", "_law_found", "_law_k", "_law_p", "_law_q"] ["_law_number"] (defScope (topS 7)) := ⟨rfl, rfl, rfl, nd, rfl, by decide +kernel, by decide +kernel⟩
  refine fnA_mk (Γ0 := [false, false, false, false, false, false]) (Γl := []) (Γ' := []) T.f__law_base S (by decide) (no_own rfl) (fun _ _ _ _ _ _ us hl => match us, hl with | [_], _ => rfl) fun f cdv A outer s H E Hf hr => ?_
  have tk := takes_of (X := cxD P w K mg base ["_law_number", "_law_size", "_law_found", "_law_k", "_law_p", "_law_q"] "_law_base" (topS 7) f cdv A outer s H E) rfl rfl rfl rfl
  have hp := passes_of (X := cxD P w K mg base ["_law_number", "_law_size", "_law_found", "_law_k", "_law_p", "_law_q"] "_law_base" (topS 7) f cdv A outer s H E) rfl
  exact (pssx_cons (PSx.less (Γ2 := [false, false, false, false, false, false]) (psx_set (i := 1) nd rfl (.inl rfl) (px_ix (PX.rd (px_lst (pax_cons px_int (pax_cons px_int (pax_cons (px_bin od_pow px_int px_int) (pax_cons (px_bin od_pow px_int px_int) (pax_cons (px_bin od_pow px_int px_int) pax_nil))))))) (px_bin od_mod (px_rd (pv 0)) px_int) (fun _ _ => rfl))) (le_of rfl))
 (pssx_cons (PSx.less (Γ2 := [false, false, true, false, false, false]) (psx_setO (i := 2) nd rfl (.inl rfl) (px_lst pax_nil) (by decide)) (le_of rfl))
 (pssx_cons (PSx.pre (psx_for (Γ := [false, false, true, false, false, false]) (Γ1 := [false, false, true, false, false, false]) hp rfl (pix_range1 rfl T.z_range (pax_cons px_int pax_nil)) (fun F1 => (pgx_name (i := 3) nd rfl (.inl rfl))) gN_nx (fun F1 => (PSsx.less (Γ2 := [false, false, true, false, false, false]) (pssx_cons (PSx.less (Γ2 := [false, false, true, false, false, false]) (psx_set (i := 0) nd rfl (.inl rfl) (px_bin od_mod (px_bin (od_mul hr) (px_rd (pv 0)) px_int) (px_bin (od_add hr) (px_bin od_pow px_int px_int) px_int))) (le_of rfl))
 (pssx_one (psx_append (pv 2) (px_bin od_div (px_rd (pv 0)) (px_bin od_pow px_int px_int)) rfl))) (le_of rfl)))) (le_of rfl))
 (pssx_cons (PSx.less (Γ2 := [false, false, true, false, false, false]) (psx_set (i := 4) nd rfl (.inl rfl) (px_callF C__law_signed (hr.mono (by decide)) rfl tk (pax_cons (px_ix (px_rd (pv 2)) px_int (fun _ _ => rfl)) (pax_cons (px_fr' (pv 1) rfl) pax_nil)))) (le_of rfl))
 (pssx_cons (PSx.less (Γ2 := [false, false, true, false, false, false]) (psx_set (i := 5) nd rfl (.inl rfl) (px_callF C__law_signed (hr.mono (by decide)) rfl tk (pax_cons (px_ix (px_rd (pv 2)) px_int (fun _ _ => rfl)) (pax_cons (px_fr' (pv 1) rfl) pax_nil)))) (le_of rfl))
 (pssx_one (psx_ret (px_tup (pax_cons (px_fr' (pv 4) rfl) (pax_cons (px_fr' (pv 5) rfl) (pax_cons (px_bin od_mod (PX.rd (px_ix (px_rd (pv 2)) px_int (fun _ _ => rfl))) (px_bin (od_add hr) (px_rd (pv 1)) px_int)) (pax_cons (px_bin (od_add hr) px_int (px_bin od_mod (PX.rd (px_ix (px_rd (pv 2)) px_int (fun _ _ => rfl))) (px_rd (pv 1)))) pax_nil))))))))))))
noncomputable def b__law_again : Env → SO := (sSeq (sAsg (gT [(gN 2), (gN 3), (gN 4), (gN 5)]) (eV 0))
 (sSeq (sSet 6 (e2 dAdd (eC (.int 1)) (e2 dMod (eV 1) (eC (.int 5)))))
 (sSeq (sSet 7 (e2 dAdd (eC (.int 1)) (e2 dMod (e2 dDiv (eV 1) (eC (.int 5))) (eC (.int 7)))))
 (sRet (eA mkTup (aC (e2 dMul (e2 dMul (eV 2) (eV 6)) (eV 7)) (aC (e2 dMul (eV 3) (eV 7)) (aC (e2 dMul (e2 dMul (eV 4) (eV 6)) (eV 6)) (aC (e2 dMul (e2 dMul (eV 5) (eV 6)) (eV 7)) aN)))))))))
noncomputable def m__law_again : List D → Out D := fnM 8 2 b__law_again
theorem w__law_again (T : Tx K mg) : FnA P w K mg base 1 "_law_again" ["_law_one", "_law_number"] false m__law_again := by
  have nd : (["_law_one", "_law_number", "_law_p", "_law_q", "_law_r", "_law_s", "_law_k", "_law_m"] : List Str).Nodup := by decide +kernel
  have S : FnScope ["_law_one", "_law_number", "_law_p", "_law_q", "_law_r", "_law_s", "_law_k", "_law_m"] ["_law_one", "_law_number"] (defScope (topS 8)) := ⟨rfl, rfl, rfl, nd, rfl, by decide +kernel, by decide +kernel⟩
  refine fnA_mk (Γ0 := []) (Γl := []) (Γ' := []) T.f__law_again S (by decide) (no_own rfl) (fun _ _ _ _ _ _ us hl => match us, hl with | [_, _], _ => rfl) fun f cdv A outer s H E Hf hr => ?_
  have tk := takes_of (X := cxD P w K mg base ["_law_one", "_law_number", "_law_p", "_law_q", "_law_r", "_law_s", "_law_k", "_law_m"] "_law_again" (topS 8) f cdv A outer s H E) rfl rfl rfl rfl
  have hp := passes_of (X := cxD P w K mg base ["_law_one", "_law_number", "_law_p", "_law_q", "_law_r", "_law_s", "_law_k", "_law_m"] "_law_again" (topS 8) f cdv A outer s H E) rfl
  exact (pssx_cons (PSx.less (Γ2 := []) (psx_asg (px_fr' (pv 0) rfl) (pgx_tup rfl (pgsx_cons (pgx_name (i := 2) nd rfl (.inl rfl)) (pgsx_cons (pgx_name (i := 3) nd rfl (.inl rfl)) (pgsx_cons (pgx_name (i := 4) nd rfl (.inl rfl)) (pgsx_cons (pgx_name (i := 5) nd rfl (.inl rfl)) pgsx_nil))))) (gT_nx (nxs_cons gN_nx (nxs_cons gN_nx (nxs_cons gN_nx (nxs_cons gN_nx nxs_nil)))))) (le_of rfl))
 (pssx_cons (PSx.less (Γ2 := []) (psx_set (i := 6) nd rfl (.inl rfl) (px_bin (od_add hr) px_int (px_bin od_mod (px_rd (pv 1)) px_int))) (le_of rfl))
 (pssx_cons (PSx.less (Γ2 := []) (psx_set (i := 7) nd rfl (.inl rfl) (px_bin (od_add hr) px_int (px_bin od_mod (px_bin od_div (px_rd (pv 1)) px_int) px_int))) (le_of rfl))
 (pssx_one (psx_ret (px_tup (pax_cons (px_bin (od_mul hr) (px_bin (od_mul hr) (px_rd (pv 2)) (px_rd (pv 6))) (px_rd (pv 7))) (pax_cons (px_bin (od_mul hr) (px_rd (pv 3)) (px_rd (pv 7))) (pax_cons (px_bin (od_mul hr) (px_bin (od_mul hr) (px_rd (pv 4)) (px_rd (pv 6))) (px_rd (pv 6))) (pax_cons (px_bin (od_mul hr) (px_bin (od_mul hr) (px_rd (pv 5)) (px_rd (pv 6))) (px_rd (pv 7))) pax_nil))))))))))
noncomputable def b__law_near : Env → SO := (sSeq (sAsg (gT [(gN 2), (gN 3), (gN 4), (gN 5)]) (eV 0))
 (sSeq (sIf (tOf (e2 dEq (e2 dMod (eV 1) (eC (.int 3))) (eC (.int 0))))
 (sRet (eA mkTup (aC (e2 dAdd (eV 2) (eC (.int 1))) (aC (eV 3) (aC (eV 4) (aC (eV 5) aN))))))
 sNx)
 (sSeq (sIf (tOf (e2 dEq (e2 dMod (eV 1) (eC (.int 3))) (eC (.int 1))))
 (sRet (eA mkTup (aC (eV 2) (aC (eV 3) (aC (e2 dAdd (eV 4) (eC (.int 1))) (aC (eV 5) aN))))))
 sNx)
 (sRet (eA mkTup (aC (eV 2) (aC (eV 3) (aC (eV 4) (aC (e2 dAdd (eV 5) (eC (.int 1))) aN)))))))))
noncomputable def m__law_near : List D → Out D := fnM 6 2 b__law_near
theorem w__law_near (T : Tx K mg) : FnA P w K mg base 1 "_law_near" ["_law_one", "_law_number"] false m__law_near := by
  have nd : (["_law_one", "_law_number", "_law_p", "_law_q", "_law_r", "_law_s"] : List Str).Nodup := by decide +kernel
  have S : FnScope ["_law_one", "_law_number", "_law_p", "_law_q", "_law_r", "_law_s"] ["_law_one", "_law_number"] (defScope (topS 9)) := ⟨rfl, rfl, rfl, nd, rfl, by decide +kernel, by decide +kernel⟩
  refine fnA_mk (Γ0 := []) (Γl := []) (Γ' := []) T.f__law_near S (by decide) (no_own rfl) (fun _ _ _ _ _ _ us hl => match us, hl with | [_, _], _ => rfl) fun f cdv A outer s H E Hf hr => ?_
  have tk := takes_of (X := cxD P w K mg base ["_law_one", "_law_number", "_law_p", "_law_q", "_law_r", "_law_s"] "_law_near" (topS 9) f cdv A outer s H E) rfl rfl rfl rfl
  have hp := passes_of (X := cxD P w K mg base ["_law_one", "_law_number", "_law_p", "_law_q", "_law_r", "_law_s"] "_law_near" (topS 9) f cdv A outer s H E) rfl
  exact (pssx_cons (PSx.less (Γ2 := []) (psx_asg (px_fr' (pv 0) rfl) (pgx_tup rfl (pgsx_cons (pgx_name (i := 2) nd rfl (.inl rfl)) (pgsx_cons (pgx_name (i := 3) nd rfl (.inl rfl)) (pgsx_cons (pgx_name (i := 4) nd rfl (.inl rfl)) (pgsx_cons (pgx_name (i := 5) nd rfl (.inl rfl)) pgsx_nil))))) (gT_nx (nxs_cons gN_nx (nxs_cons gN_nx (nxs_cons gN_nx (nxs_cons gN_nx nxs_nil)))))) (le_of rfl))
 (pssx_cons (psx_if (Γ2 := []) (ptx_cmp (od_eq hr) (px_bin od_mod (px_rd (pv 1)) px_int) px_int (nomark _))
 (pssx_one (psx_ret (px_tup (pax_cons (px_bin (od_add hr) (px_rd (pv 2)) px_int) (pax_cons (px_fr' (pv 3) rfl) (pax_cons (px_fr' (pv 4) rfl) (pax_cons (px_fr' (pv 5) rfl) pax_nil)))))))
 (PSsx.less (Γ2 := []) pssx_nil (le_of rfl)))
 (pssx_cons (psx_if (Γ2 := []) (ptx_cmp (od_eq hr) (px_bin od_mod (px_rd (pv 1)) px_int) px_int (nomark _))
 (pssx_one (psx_ret (px_tup (pax_cons (px_fr' (pv 2) rfl) (pax_cons (px_fr' (pv 3) rfl) (pax_cons (px_bin (od_add hr) (px_rd (pv 4)) px_int) (pax_cons (px_fr' (pv 5) rfl) pax_nil)))))))
 (PSsx.less (Γ2 := []) pssx_nil (le_of rfl)))
 (pssx_one (psx_ret (px_tup (pax_cons (px_fr' (pv 2) rfl) (pax_cons (px_fr' (pv 3) rfl) (pax_cons (px_fr' (pv 4) rfl) (pax_cons (px_bin (od_add hr) (px_rd (pv 5)) px_int) pax_nil))))))))))
noncomputable def b__law_by_digits : Env → SO := (sRet (vAnd (e2 dGt (eA cLen (aC (eV 0) aN)) (eC (.int 0))) (e2 dEq (e2 dMod (e2 dDiv (e2 dIx (eV 0) (eC (.int 0))) (eC (.int 3))) (eC (.int 2))) (eC (.int 1)))))
noncomputable def m__law_by_digits : List D → Out D := fnM 1 1 b__law_by_digits
theorem w__law_by_digits (T : Tx K mg) : FnA P w K mg base 1 "_law_by_digits" ["_law_script"] false m__law_by_digits := by
  have nd : (["_law_script"] : List Str).Nodup := by decide +kernel
  have S : FnScope ["_law_script"] ["_law_script"] (defScope (topS 10)) := ⟨rfl, rfl, rfl, nd, rfl, by decide +kernel, by decide +kernel⟩
  refine fnA_mk (Γ0 := []) (Γl := []) (Γ' := []) T.f__law_by_digits S (by decide) (no_own rfl) (fun _ _ _ _ _ _ us hl => match us, hl with | [_], _ => rfl) fun f cdv A outer s H E Hf hr => ?_
  have tk := takes_of (X := cxD P w K mg base ["_law_script"] "_law_by_digits" (topS 10) f cdv A outer s H E) rfl rfl rfl rfl
  have hp := passes_of (X := cxD P w K mg base ["_law_script"] "_law_by_digits" (topS 10) f cdv A outer s H E) rfl
  exact (pssx_one (psx_ret (px_and (px_cmp (od_gt hr) (px_callB ca_len rfl T.z_len bb_len (pbx_cons (px_rd (pv 0)) pbx_nil)) px_int (nomark _)) (px_one (px_cmp (od_eq hr) (px_bin od_mod (px_bin od_div (PX.rd (px_ix (px_rd (pv 0)) px_int (fun _ _ => rfl))) px_int) px_int) px_int (nomark _))))))
noncomputable def b__law_read : Env → SO := (sSeq (sSet 1 (e2 dIx (eA mkLst (aC (eC (.int 3)) (aC (eC (.int 60)) (aC (e2 dPow (eC (.int 10)) (eC (.int 6))) (aC (e2 dPow (eC (.int 10)) (eC (.int 12))) (aC (e2 dPow (eC (.int 10)) (eC (.int 28))) aN)))))) (e2 dMod (eV 0) (eC (.int 5)))))
 (sSeq (sSet 0 (e2 dDiv (eV 0) (eC (.int 5))))
 (sSeq (sSet 2 (eA m__law_signed (aC (eV 0) (aC (eV 1) aN))))
 (sSeq (sSet 0 (e2 dDiv (eV 0) (e2 dAdd (e2 dMul (eC (.int 2)) (eV 1)) (eC (.int 1)))))
 (sSeq (sSet 3 (eA m__law_signed (aC (eV 0) (aC (eV 1) aN))))
 (sSeq (sSet 0 (e2 dDiv (eV 0) (e2 dAdd (e2 dMul (eC (.int 2)) (eV 1)) (eC (.int 1)))))
 (sRet (eA mkTup (aC (eV 2) (aC (eV 3) (aC (e2 dMod (eV 0) (e2 dAdd (eV 1) (eC (.int 1)))) (aC (e2 dAdd (eC (.int 1)) (e2 dMod (e2 dDiv (eV 0) (e2 dAdd (eV 1) (eC (.int 1)))) (eV 1))) aN))))))))))))
noncomputable def m__law_read : List D → Out D := fnM 4 1 b__law_read
theorem w__law_read (T : Tx K mg) : FnA P w K mg base 2 "_law_read" ["_law_cell_here"] false m__law_read := by
  have C__law_signed := w__law_signed (P := P) (w := w) (base := base) T
  have nd : (["_law_cell_here", "_law_size", "_law_p", "_law_q"] : List Str).Nodup := by decide +kernel
  have S : FnScope ["_law_cell_here", "_law_size", "_law_p", "_law_q"] ["_law_cell_here"] (defScope (topS 11)) := ⟨rfl, rfl, rfl, nd, rfl, by decide +kernel, by decide +kernel⟩
  refine fnA_mk (Γ0 := []) (Γl := []) (Γ' := []) T.f__law_read S (by decide) (no_own rfl) (fun _ _ _ _ _ _ us hl => match us, hl with | [_], _ => rfl) fun f cdv A outer s H E Hf hr => ?_
  have tk := takes_of (X := cxD P w K mg base ["_law_cell_here", "_law_size", "_law_p", "_law_q"] "_law_read" (topS 11) f cdv A outer s H E) rfl rfl rfl rfl
  have hp := passes_of (X := cxD P w K mg base ["_law_cell_here", "_law_size", "_law_p", "_law_q"] "_law_read" (topS 11) f cdv A outer s H E) rfl
  exact (pssx_cons (PSx.less (Γ2 := []) (psx_set (i := 1) nd rfl (.inl rfl) (px_ix (PX.rd (px_lst (pax_cons px_int (pax_cons px_int (pax_cons (px_bin od_pow px_int px_int) (pax_cons (px_bin od_pow px_int px_int) (pax_cons (px_bin od_pow px_int px_int) pax_nil))))))) (px_bin od_mod (px_rd (pv 0)) px_int) (fun _ _ => rfl))) (le_of rfl))
 (pssx_cons (PSx.less (Γ2 := []) (psx_set (i := 0) nd rfl (.inl rfl) (px_bin od_div (px_rd (pv 0)) px_int)) (le_of rfl))
 (pssx_cons (PSx.less (Γ2 := []) (psx_set (i := 2) nd rfl (.inl rfl) (px_callF C__law_signed (hr.mono (by decide)) rfl tk (pax_cons (px_fr' (pv 0) rfl) (pax_cons (px_fr' (pv 1) rfl) pax_nil)))) (le_of rfl))
 (pssx_cons (PSx.less (Γ2 := []) (psx_set (i := 0) nd rfl (.inl rfl) (px_bin od_div (px_rd (pv 0)) (px_bin (od_add hr) (px_bin (od_mul hr) px_int (px_rd (pv 1))) px_int))) (le_of rfl))
 (pssx_cons (PSx.less (Γ2 := []) (psx_set (i := 3) nd rfl (.inl rfl) (px_callF C__law_signed (hr.mono (by decide)) rfl tk (pax_cons (px_fr' (pv 0) rfl) (pax_cons (px_fr' (pv 1) rfl) pax_nil)))) (le_of rfl))
 (pssx_cons (PSx.less (Γ2 := []) (psx_set (i := 0) nd rfl (.inl rfl) (px_bin od_div (px_rd (pv 0)) (px_bin (od_add hr) (px_bin (od_mul hr) px_int (px_rd (pv 1))) px_int))) (le_of rfl))
 (pssx_one (psx_ret (px_tup (pax_cons (px_fr' (pv 2) rfl) (pax_cons (px_fr' (pv 3) rfl) (pax_cons (px_bin od_mod (px_rd (pv 0)) (px_bin (od_add hr) (px_rd (pv 1)) px_int)) (pax_cons (px_bin (od_add hr) px_int (px_bin od_mod (px_bin od_div (px_rd (pv 0)) (px_bin (od_add hr) (px_rd (pv 1)) px_int)) (px_rd (pv 1)))) pax_nil)))))))))))))
noncomputable def b__law_numbers_1 : Env → SO := (sSeq (sSet 6 (eA m__law_cell (aC (eV 0) (aC (eV 5) aN))))
 (sSeq (sSet 7 (e2 dMod (eV 6) (eC (.int 5))))
 (sIf (tOf (eA m__law_by_digits (aC (eV 0) aN)))
 (sApp 3 (eA m__law_read (aC (e2 dIx (eV 0) (eV 5)) aN)))
 (sIf (tOf (e2 dEq (eV 7) (eC (.int 3))))
 (sApp 3 (eA m__law_again (aC (eV 4) (aC (e2 dDiv (eV 6) (eC (.int 5))) aN))))
 (sIf (tOf (e2 dEq (eV 7) (eC (.int 4))))
 (sApp 3 (eA m__law_near (aC (eV 4) (aC (e2 dDiv (eV 6) (eC (.int 5))) aN))))
 (sSeq (sSet 4 (eA m__law_base (aC (e2 dDiv (eV 6) (eC (.int 5))) aN)))
 (sApp 3 (eV 4))))))))
noncomputable def b__law_numbers : Env → SO := (sSeq (sSet 3 (eA mkLst aN))
 (sSeq (sSet 4 (eA mkTup (aC (eC (.int 0)) (aC (eC (.int 0)) (aC (eC (.int 0)) (aC (eC (.int 1)) aN))))))
 (sSeq (sFor (gN 5) (iRange2 (aC (eV 1) (aC (eA cMin2 (aC (eV 2) (aC (eA cLen (aC (eV 0) aN)) aN))) aN)))
 b__law_numbers_1)
 (sRet (eV 3)))))
noncomputable def m__law_numbers : List D → Out D := fnM 8 3 b__law_numbers
theorem w__law_numbers (T : Tx K mg) : FnA P w K mg base 3 "_law_numbers" ["_law_script", "_law_start", "_law_end"] true m__law_numbers := by
  have C__law_cell := w__law_cell (P := P) (w := w) (base := base) T
  have C__law_by_digits := w__law_by_digits (P := P) (w := w) (base := base) T
  have C__law_read := w__law_read (P := P) (w := w) (base := base) T
  have C__law_again := w__law_again (P := P) (w := w) (base := base) T
  have C__law_near := w__law_near (P := P) (w := w) (base := base) T
  have C__law_base := w__law_base (P := P) (w := w) (base := base) T
  have nd : (["_law_script", "_law_start", "_law_end", "_law_found", "_law_base_here", "_law_k", "_law_number", "_law_way"] : List Str).Nodup := by decide +kernel
  have S : FnScope ["_law_script", "_law_start", "_law_end", "_law_found", "_law_base_here", "_law_k", "_law_number", "_law_way"] ["_law_script", "_law_start", "_law_end"] (defScope (topS 12)) := ⟨rfl, rfl, rfl, nd, rfl, by decide +kernel, by decide +kernel⟩
  refine fnA_mk (Γ0 := [false, false, false, false, false, false, false, false]) (Γl := []) (Γ' := []) T.f__law_numbers S (by decide) (no_own rfl) (fun _ _ _ _ _ _ us hl => match us, hl with | [_, _, _], _ => rfl) fun f cdv A outer s H E Hf hr => ?_
  have tk := takes_of (X := cxD P w K mg base ["_law_script", "_law_start", "_law_end", "_law_found", "_law_base_here", "_law_k", "_law_number", "_law_way"] "_law_numbers" (topS 12) f cdv A outer s H E) rfl rfl rfl rfl
  have hp := passes_of (X := cxD P w K mg base ["_law_script", "_law_start", "_law_end", "_law_found", "_law_base_here", "_law_k", "_law_number", "_law_way"] "_law_numbers" (topS 12) f cdv A outer s H E) rfl
  exact (pssx_cons (PSx.less (Γ2 := [false, false, false, true, false, false, false, false]) (psx_setO (i := 3) nd rfl (.inl rfl) (px_lst pax_nil) (by decide)) (le_of rfl))
 (pssx_cons (PSx.less (Γ2 := [false, false, false, true, false, false, false, false]) (psx_set (i := 4) nd rfl (.inl rfl) (px_tup (pax_cons px_int (pax_cons px_int (pax_cons px_int (pax_cons px_int pax_nil)))))) (le_of rfl))
 (pssx_cons (PSx.pre (psx_for (Γ := [false, false, false, true, false, false, false, false]) (Γ1 := [false, false, false, true, false, false, false, false]) hp rfl (pix_range2 rfl T.z_range (pax_cons (px_fr' (pv 1) rfl) (pax_cons (px_callB (ca_min2 rfl) rfl T.z_min bb_min (pbx_cons (px_rd (pv 2)) (pbx_cons (px_callB ca_len rfl T.z_len bb_len (pbx_cons (px_rd (pv 0)) pbx_nil)) pbx_nil))) pax_nil))) (fun F1 => (pgx_name (i := 5) nd rfl (.inl rfl))) gN_nx (fun F1 => (PSsx.less (Γ2 := [false, false, false, true, false, false, false, false]) (pssx_cons (PSx.less (Γ2 := [false, false, false, true, false, false, false, false]) (psx_set (i := 6) nd rfl (.inl rfl) (px_callF C__law_cell (hr.mono (by decide)) rfl tk (pax_cons (px_fr' (pv 0) rfl) (pax_cons (px_fr' (pv 5) rfl) pax_nil)))) (le_of rfl))
 (pssx_cons (PSx.less (Γ2 := [false, false, false, true, false, false, false, false]) (psx_set (i := 7) nd rfl (.inl rfl) (px_bin od_mod (px_rd (pv 6)) px_int)) (le_of rfl))
 (pssx_one (psx_if (Γ2 := [false, false, false, true, false, false, false, false]) (ptx_val (PX.rd (px_callF C__law_by_digits (hr.mono (by decide)) rfl tk (pax_cons (px_fr' (pv 0) rfl) pax_nil))))
 (PSsx.less (Γ2 := [false, false, false, true, false, false, false, false]) (pssx_one (psx_append (pv 3) (px_callF C__law_read (hr.mono (by decide)) rfl tk (pax_cons (px_ix (px_rd (pv 0)) (px_rd (pv 5)) (fun _ _ => rfl)) pax_nil)) rfl)) (le_of rfl))
 (PSsx.less (Γ2 := [false, false, false, true, false, false, false, false]) (pssx_one (psx_if (Γ2 := [false, false, false, true, false, false, false, false]) (ptx_cmp (od_eq hr) (px_rd (pv 7)) px_int (nomark _))
 (PSsx.less (Γ2 := [false, false, false, true, false, false, false, false]) (pssx_one (psx_append (pv 3) (px_callF C__law_again (hr.mono (by decide)) rfl tk (pax_cons (px_fr' (pv 4) rfl) (pax_cons (px_bin od_div (px_rd (pv 6)) px_int) pax_nil))) rfl)) (le_of rfl))
 (PSsx.less (Γ2 := [false, false, false, true, false, false, false, false]) (pssx_one (psx_if (Γ2 := [false, false, false, true, false, false, false, false]) (ptx_cmp (od_eq hr) (px_rd (pv 7)) px_int (nomark _))
 (PSsx.less (Γ2 := [false, false, false, true, false, false, false, false]) (pssx_one (psx_append (pv 3) (px_callF C__law_near (hr.mono (by decide)) rfl tk (pax_cons (px_fr' (pv 4) rfl) (pax_cons (px_bin od_div (px_rd (pv 6)) px_int) pax_nil))) rfl)) (le_of rfl))
 (PSsx.less (Γ2 := [false, false, false, true, false, false, false, false]) (pssx_cons (PSx.less (Γ2 := [false, false, false, true, false, false, false, false]) (psx_set (i := 4) nd rfl (.inl rfl) (px_callF C__law_base (hr.mono (by decide)) rfl tk (pax_cons (px_bin od_div (px_rd (pv 6)) px_int) pax_nil))) (le_of rfl))
 (pssx_one (psx_append (pv 3) (px_fr' (pv 4) rfl) rfl))) (le_of rfl)))) (le_of rfl)))) (le_of rfl)))))) (le_of rfl)))) (le_of rfl))
 (pssx_one (psx_retV (pv 3) rfl)))))
noncomputable def b__law_below : Env → SO := (sSeq (sAsg (gT [(gN 2), (gN 3), (gN 4), (gN 5)]) (eV 1))
 (sSeq (sIf (bOr (bNot (tOf (eA cIsi (aC (eV 0) (aC (eC (.ty "int")) aN))))) (tOf (eA cIsi (aC (eV 0) (aC (eC (.ty "bool")) aN)))))
 (sRet (eC (.bl false)))
 sNx)
 (sRet (vAnd (e2 dGe (eA m__law_sign (aC (e2 dSub (eV 2) (e2 dMul (eV 0) (eV 5))) (aC (eV 3) (aC (eV 4) aN)))) (eC (.int 0))) (e2 dLt (eA m__law_sign (aC (e2 dSub (eV 2) (e2 dMul (e2 dAdd (eV 0) (eC (.int 1))) (eV 5))) (aC (eV 3) (aC (eV 4) aN)))) (eC (.int 0)))))))
noncomputable def m__law_below : List D → Out D := fnM 6 2 b__law_below
theorem w__law_below (T : Tx K mg) : FnA P w K mg base 2 "_law_below" ["_law_found", "_law_one"] false m__law_below := by
  have C__law_sign := w__law_sign (P := P) (w := w) (base := base) T
  have nd : (["_law_found", "_law_one", "_law_p", "_law_q", "_law_r", "_law_s"] : List Str).Nodup := by decide +kernel
  have S : FnScope ["_law_found", "_law_one", "_law_p", "_law_q", "_law_r", "_law_s"] ["_law_found", "_law_one"] (defScope (topS 13)) := ⟨rfl, rfl, rfl, nd, rfl, by decide +kernel, by decide +kernel⟩
  refine fnA_mk (Γ0 := []) (Γl := []) (Γ' := []) T.f__law_below S (by decide) (no_own rfl) (fun _ _ _ _ _ _ us hl => match us, hl with | [_, _], _ => rfl) fun f cdv A outer s H E Hf hr => ?_
  have tk := takes_of (X := cxD P w K mg base ["_law_found", "_law_one", "_law_p", "_law_q", "_law_r", "_law_s"] "_law_below" (topS 13) f cdv A outer s H E) rfl rfl rfl rfl
  have hp := passes_of (X := cxD P w K mg base ["_law_found", "_law_one", "_law_p", "_law_q", "_law_r", "_law_s"] "_law_below" (topS 13) f cdv A outer s H E) rfl
  exact (pssx_cons (PSx.less (Γ2 := []) (psx_asg (px_fr' (pv 1) rfl) (pgx_tup rfl (pgsx_cons (pgx_name (i := 2) nd rfl (.inl rfl)) (pgsx_cons (pgx_name (i := 3) nd rfl (.inl rfl)) (pgsx_cons (pgx_name (i := 4) nd rfl (.inl rfl)) (pgsx_cons (pgx_name (i := 5) nd rfl (.inl rfl)) pgsx_nil))))) (gT_nx (nxs_cons gN_nx (nxs_cons gN_nx (nxs_cons gN_nx (nxs_cons gN_nx nxs_nil)))))) (le_of rfl))
 (pssx_cons (psx_if (Γ2 := []) (PWx.pt (pwx_or (ptx_not (ptx_val (px_callB ca_isi rfl T.z_isinstance bb_isinstance (pbx_cons (px_rd (pv 0)) (pbx_cons (px_type rfl T.z_int bb_int) pbx_nil))))) (pwx_or1 (ptx_val (px_callB ca_isi rfl T.z_isinstance bb_isinstance (pbx_cons (px_rd (pv 0)) (pbx_cons (px_type rfl T.z_bool bb_bool) pbx_nil)))))))
 (pssx_one (psx_ret px_bl))
 (PSsx.less (Γ2 := []) pssx_nil (le_of rfl)))
 (pssx_one (psx_ret (px_and (px_cmp (od_ge hr) (PX.rd (px_callF C__law_sign (hr.mono (by decide)) rfl tk (pax_cons (px_bin od_sub (px_rd (pv 2)) (px_bin (od_mul hr) (px_rd (pv 0)) (px_rd (pv 5)))) (pax_cons (px_fr' (pv 3) rfl) (pax_cons (px_fr' (pv 4) rfl) pax_nil))))) px_int (nomark _)) (px_one (px_cmp (od_lt hr) (PX.rd (px_callF C__law_sign (hr.mono (by decide)) rfl tk (pax_cons (px_bin od_sub (px_rd (pv 2)) (px_bin (od_mul hr) (px_bin (od_add hr) (px_rd (pv 0)) px_int) (px_rd (pv 5)))) (pax_cons (px_fr' (pv 3) rfl) (pax_cons (px_fr' (pv 4) rfl) pax_nil))))) px_int (nomark _))))))))
noncomputable def b_law_1 : Env → SO := (sSeq (sAsg (gT [(gN 2), (gN 3), (gN 4), (gN 5)]) (eV 1))
 (sSeq (sSet 6 (eV 1))
 (sSeq (sIf (tOf (e2 dLt (eV 4) (e2 dPow (eC (.int 10)) (eC (.int 14)))))
 (sSet 6 (eA mkTup (aC (eV 2) (aC (eV 3) (aC (e2 dMul (eV 4) (eV 4)) (aC (eV 5) aN))))))
 sNx)
 (sIf (bOr (bNot (tOf (eA m__law_below (aC (eA m_floor_of (aC (eV 1) aN)) (aC (eV 1) aN))))) (bNot (tOf (eA m__law_below (aC (eA m_floor_of (aC (eV 6) aN)) (aC (eV 6) aN))))))
 (sRet (eC (.bl false)))
 sNx))))
noncomputable def b_law : Env → SO := (sSeq (sFor (gN 1) (iSeq (eA m__law_numbers (aC (eV 0) (aC (eC (.int 0)) (aC (eC (.int 8)) aN)))))
 b_law_1)
 (sRet (eC (.bl true))))
noncomputable def m_law : List D → Out D := fnM 7 1 b_law
theorem w_law (T : Tx K mg) : FnA P w K mg base 4 "law" ["_law_script"] false m_law := by
  have C__law_numbers := w__law_numbers (P := P) (w := w) (base := base) T
  have C_floor_of := w_floor_of (P := P) (w := w) (base := base) T
  have C__law_below := w__law_below (P := P) (w := w) (base := base) T
  have nd : (["_law_script", "_law_one", "_law_p", "_law_q", "_law_r", "_law_s", "_law_other"] : List Str).Nodup := by decide +kernel
  have S : FnScope ["_law_script", "_law_one", "_law_p", "_law_q", "_law_r", "_law_s", "_law_other"] ["_law_script"] (defScope (topS 14)) := ⟨rfl, rfl, rfl, nd, rfl, by decide +kernel, by decide +kernel⟩
  refine fnA_mk (Γ0 := []) (Γl := []) (Γ' := []) T.f_law S (by decide) (no_own rfl) (fun _ _ _ _ _ _ us hl => match us, hl with | [_], _ => rfl) fun f cdv A outer s H E Hf hr => ?_
  have tk := takes_of (X := cxD P w K mg base ["_law_script", "_law_one", "_law_p", "_law_q", "_law_r", "_law_s", "_law_other"] "law" (topS 14) f cdv A outer s H E) rfl rfl rfl rfl
  have hp := passes_of (X := cxD P w K mg base ["_law_script", "_law_one", "_law_p", "_law_q", "_law_r", "_law_s", "_law_other"] "law" (topS 14) f cdv A outer s H E) rfl
  exact (pssx_cons (PSx.pre (psx_for (Γ := []) (Γ1 := []) hp rfl (pix_seq (PX.fr (px_callO C__law_numbers (hr.mono (by decide)) rfl tk (pax_cons (px_fr' (pv 0) rfl) (pax_cons px_int (pax_cons px_int pax_nil)))))) (fun F1 => (pgx_name (i := 1) nd rfl (.inl rfl))) gN_nx (fun F1 => (PSsx.less (Γ2 := []) (pssx_cons (PSx.less (Γ2 := []) (psx_asg (px_fr' (pv 1) rfl) (pgx_tup rfl (pgsx_cons (pgx_name (i := 2) nd rfl (.inl rfl)) (pgsx_cons (pgx_name (i := 3) nd rfl (.inl rfl)) (pgsx_cons (pgx_name (i := 4) nd rfl (.inl rfl)) (pgsx_cons (pgx_name (i := 5) nd rfl (.inl rfl)) pgsx_nil))))) (gT_nx (nxs_cons gN_nx (nxs_cons gN_nx (nxs_cons gN_nx (nxs_cons gN_nx nxs_nil)))))) (le_of rfl))
 (pssx_cons (PSx.less (Γ2 := []) (psx_set (i := 6) nd rfl (.inl rfl) (px_fr' (pv 1) rfl)) (le_of rfl))
 (pssx_cons (psx_if (Γ2 := []) (ptx_cmp (od_lt hr) (px_rd (pv 4)) (px_bin od_pow px_int px_int) (nomark _))
 (PSsx.less (Γ2 := []) (pssx_one (PSx.less (Γ2 := []) (psx_set (i := 6) nd rfl (.inl rfl) (px_tup (pax_cons (px_fr' (pv 2) rfl) (pax_cons (px_fr' (pv 3) rfl) (pax_cons (px_bin (od_mul hr) (px_rd (pv 4)) (px_rd (pv 4))) (pax_cons (px_fr' (pv 5) rfl) pax_nil)))))) (le_of rfl))) (le_of rfl))
 (PSsx.less (Γ2 := []) pssx_nil (le_of rfl)))
 (pssx_one (psx_if (Γ2 := []) (PWx.pt (pwx_or (ptx_not (ptx_val (PX.rd (px_callF C__law_below (hr.mono (by decide)) rfl tk (pax_cons (px_callF C_floor_of (hr.mono (by decide)) rfl tk (pax_cons (px_fr' (pv 1) rfl) pax_nil)) (pax_cons (px_fr' (pv 1) rfl) pax_nil)))))) (pwx_or1 (ptx_not (ptx_val (PX.rd (px_callF C__law_below (hr.mono (by decide)) rfl tk (pax_cons (px_callF C_floor_of (hr.mono (by decide)) rfl tk (pax_cons (px_fr' (pv 6) rfl) pax_nil)) (pax_cons (px_fr' (pv 6) rfl) pax_nil)))))))))
 (pssx_one (psx_ret px_bl))
 (PSsx.less (Γ2 := []) pssx_nil (le_of rfl))))))) (le_of rfl)))) (le_of rfl))
 (pssx_one (psx_ret px_bl)))
end
theorem all_mk {P : Program} {w : World} {K : PySem.W.Frag} {h : Heap} {mg : Str → Option Value} {fa : Addr} (X : K.In h) (G : h.Ns mainGlobals mg) (hfa : mg "law" = some (.ref fa))
    {f0 : Addr} {od0 an0 : Option Addr} {sl0 : Array (Option Value)} {oc0 kV0 dc0 pm0 cd0 ct0 : Value}
    (a0 : PySem.W.nsIn K mainGlobals "whole_root" = some (some (.ref f0))) (l0 : K.lookup f0 = some ⟨oc0, od0, .func (PySem.W.fnOf "whole_root" "whole_root" (defArgs (topS 1)) (defBody (topS 1)) (defScope (topS 1)) .none kV0 dc0 pm0 an0 cd0 ct0), sl0⟩) (c0 : PySem.W.codeIn K cd0 "whole_root" = true) (k0 : PySem.W.keepIn K (.ref f0) = true)
    {f1 : Addr} {od1 an1 : Option Addr} {sl1 : Array (Option Value)} {oc1 kV1 dc1 pm1 cd1 ct1 : Value}
    (a1 : PySem.W.nsIn K mainGlobals "floor_of" = some (some (.ref f1))) (l1 : K.lookup f1 = some ⟨oc1, od1, .func (PySem.W.fnOf "floor_of" "floor_of" (defArgs (topS 2)) (defBody (topS 2)) (defScope (topS 2)) .none kV1 dc1 pm1 an1 cd1 ct1), sl1⟩) (c1 : PySem.W.codeIn K cd1 "floor_of" = true) (k1 : PySem.W.keepIn K (.ref f1) = true)
    {f2 : Addr} {od2 an2 : Option Addr} {sl2 : Array (Option Value)} {oc2 kV2 dc2 pm2 cd2 ct2 : Value}
    (a2 : PySem.W.nsIn K mainGlobals "_law_cell" = some (some (.ref f2))) (l2 : K.lookup f2 = some ⟨oc2, od2, .func (PySem.W.fnOf "_law_cell" "_law_cell" (defArgs (topS 4)) (defBody (topS 4)) (defScope (topS 4)) .none kV2 dc2 pm2 an2 cd2 ct2), sl2⟩) (c2 : PySem.W.codeIn K cd2 "_law_cell" = true) (k2 : PySem.W.keepIn K (.ref f2) = true)
    {f3 : Addr} {od3 an3 : Option Addr} {sl3 : Array (Option Value)} {oc3 kV3 dc3 pm3 cd3 ct3 : Value}
    (a3 : PySem.W.nsIn K mainGlobals "_law_signed" = some (some (.ref f3))) (l3 : K.lookup f3 = some ⟨oc3, od3, .func (PySem.W.fnOf "_law_signed" "_law_signed" (defArgs (topS 5)) (defBody (topS 5)) (defScope (topS 5)) .none kV3 dc3 pm3 an3 cd3 ct3), sl3⟩) (c3 : PySem.W.codeIn K cd3 "_law_signed" = true) (k3 : PySem.W.keepIn K (.ref f3) = true)
    {f4 : Addr} {od4 an4 : Option Addr} {sl4 : Array (Option Value)} {oc4 kV4 dc4 pm4 cd4 ct4 : Value}
    (a4 : PySem.W.nsIn K mainGlobals "_law_sign" = some (some (.ref f4))) (l4 : K.lookup f4 = some ⟨oc4, od4, .func (PySem.W.fnOf "_law_sign" "_law_sign" (defArgs (topS 6)) (defBody (topS 6)) (defScope (topS 6)) .none kV4 dc4 pm4 an4 cd4 ct4), sl4⟩) (c4 : PySem.W.codeIn K cd4 "_law_sign" = true) (k4 : PySem.W.keepIn K (.ref f4) = true)
    {f5 : Addr} {od5 an5 : Option Addr} {sl5 : Array (Option Value)} {oc5 kV5 dc5 pm5 cd5 ct5 : Value}
    (a5 : PySem.W.nsIn K mainGlobals "_law_base" = some (some (.ref f5))) (l5 : K.lookup f5 = some ⟨oc5, od5, .func (PySem.W.fnOf "_law_base" "_law_base" (defArgs (topS 7)) (defBody (topS 7)) (defScope (topS 7)) .none kV5 dc5 pm5 an5 cd5 ct5), sl5⟩) (c5 : PySem.W.codeIn K cd5 "_law_base" = true) (k5 : PySem.W.keepIn K (.ref f5) = true)
    {f6 : Addr} {od6 an6 : Option Addr} {sl6 : Array (Option Value)} {oc6 kV6 dc6 pm6 cd6 ct6 : Value}
    (a6 : PySem.W.nsIn K mainGlobals "_law_again" = some (some (.ref f6))) (l6 : K.lookup f6 = some ⟨oc6, od6, .func (PySem.W.fnOf "_law_again" "_law_again" (defArgs (topS 8)) (defBody (topS 8)) (defScope (topS 8)) .none kV6 dc6 pm6 an6 cd6 ct6), sl6⟩) (c6 : PySem.W.codeIn K cd6 "_law_again" = true) (k6 : PySem.W.keepIn K (.ref f6) = true)
    {f7 : Addr} {od7 an7 : Option Addr} {sl7 : Array (Option Value)} {oc7 kV7 dc7 pm7 cd7 ct7 : Value}
    (a7 : PySem.W.nsIn K mainGlobals "_law_near" = some (some (.ref f7))) (l7 : K.lookup f7 = some ⟨oc7, od7, .func (PySem.W.fnOf "_law_near" "_law_near" (defArgs (topS 9)) (defBody (topS 9)) (defScope (topS 9)) .none kV7 dc7 pm7 an7 cd7 ct7), sl7⟩) (c7 : PySem.W.codeIn K cd7 "_law_near" = true) (k7 : PySem.W.keepIn K (.ref f7) = true)
    {f8 : Addr} {od8 an8 : Option Addr} {sl8 : Array (Option Value)} {oc8 kV8 dc8 pm8 cd8 ct8 : Value}
    (a8 : PySem.W.nsIn K mainGlobals "_law_by_digits" = some (some (.ref f8))) (l8 : K.lookup f8 = some ⟨oc8, od8, .func (PySem.W.fnOf "_law_by_digits" "_law_by_digits" (defArgs (topS 10)) (defBody (topS 10)) (defScope (topS 10)) .none kV8 dc8 pm8 an8 cd8 ct8), sl8⟩) (c8 : PySem.W.codeIn K cd8 "_law_by_digits" = true) (k8 : PySem.W.keepIn K (.ref f8) = true)
    {f9 : Addr} {od9 an9 : Option Addr} {sl9 : Array (Option Value)} {oc9 kV9 dc9 pm9 cd9 ct9 : Value}
    (a9 : PySem.W.nsIn K mainGlobals "_law_read" = some (some (.ref f9))) (l9 : K.lookup f9 = some ⟨oc9, od9, .func (PySem.W.fnOf "_law_read" "_law_read" (defArgs (topS 11)) (defBody (topS 11)) (defScope (topS 11)) .none kV9 dc9 pm9 an9 cd9 ct9), sl9⟩) (c9 : PySem.W.codeIn K cd9 "_law_read" = true) (k9 : PySem.W.keepIn K (.ref f9) = true)
    {f10 : Addr} {od10 an10 : Option Addr} {sl10 : Array (Option Value)} {oc10 kV10 dc10 pm10 cd10 ct10 : Value}
    (a10 : PySem.W.nsIn K mainGlobals "_law_numbers" = some (some (.ref f10))) (l10 : K.lookup f10 = some ⟨oc10, od10, .func (PySem.W.fnOf "_law_numbers" "_law_numbers" (defArgs (topS 12)) (defBody (topS 12)) (defScope (topS 12)) .none kV10 dc10 pm10 an10 cd10 ct10), sl10⟩) (c10 : PySem.W.codeIn K cd10 "_law_numbers" = true) (k10 : PySem.W.keepIn K (.ref f10) = true)
    {f11 : Addr} {od11 an11 : Option Addr} {sl11 : Array (Option Value)} {oc11 kV11 dc11 pm11 cd11 ct11 : Value}
    (a11 : PySem.W.nsIn K mainGlobals "_law_below" = some (some (.ref f11))) (l11 : K.lookup f11 = some ⟨oc11, od11, .func (PySem.W.fnOf "_law_below" "_law_below" (defArgs (topS 13)) (defBody (topS 13)) (defScope (topS 13)) .none kV11 dc11 pm11 an11 cd11 ct11), sl11⟩) (c11 : PySem.W.codeIn K cd11 "_law_below" = true) (k11 : PySem.W.keepIn K (.ref f11) = true)
    {f12 : Addr} {od12 an12 : Option Addr} {sl12 : Array (Option Value)} {oc12 kV12 dc12 pm12 cd12 ct12 : Value}
    (a12 : PySem.W.nsIn K mainGlobals "law" = some (some (.ref f12))) (l12 : K.lookup f12 = some ⟨oc12, od12, .func (PySem.W.fnOf "law" "law" (defArgs (topS 14)) (defBody (topS 14)) (defScope (topS 14)) .none kV12 dc12 pm12 an12 cd12 ct12), sl12⟩) (c12 : PySem.W.codeIn K cd12 "law" = true) (k12 : PySem.W.keepIn K (.ref f12) = true)
    (z_bool : PySem.W.nsIn K mainGlobals "bool" = some none)
    (z_int : PySem.W.nsIn K mainGlobals "int" = some none)
    (z_isinstance : PySem.W.nsIn K mainGlobals "isinstance" = some none)
    (z_len : PySem.W.nsIn K mainGlobals "len" = some none)
    (z_max : PySem.W.nsIn K mainGlobals "max" = some none)
    (z_min : PySem.W.nsIn K mainGlobals "min" = some none)
    (z_range : PySem.W.nsIn K mainGlobals "range" = some none)
    (hL : ∀ ns : List Int, ns.length ≤ 63 → (∀ z ∈ ns, Builtin.Int.intBits z ≤ 1048576) → m_law [.scr ns] = .ok (.bl true)) :
    ∃ fd : FuncData, (∀ (s : Shared) (v : Value), BindsTo s fd ⟨[v], []⟩ [("_law_script", v)]) ∧ ∀ base : Heap, K.In base → base.Ns mainGlobals mg → FnOk P w K mg base (L2.CX P w) 4 fa fd ["_law_script"] (spLaw K) := by
  have T : Tx K mg := { z_bool := PySem.W.mg_none_of X G z_bool, z_int := PySem.W.mg_none_of X G z_int, z_isinstance := PySem.W.mg_none_of X G z_isinstance, z_len := PySem.W.mg_none_of X G z_len, z_max := PySem.W.mg_none_of X G z_max, z_min := PySem.W.mg_none_of X G z_min, z_range := PySem.W.mg_none_of X G z_range, f_whole_root := fnT_of X G a0 l0 c0 k0, f_floor_of := fnT_of X G a1 l1 c1 k1, f__law_cell := fnT_of X G a2 l2 c2 k2, f__law_signed := fnT_of X G a3 l3 c3 k3, f__law_sign := fnT_of X G a4 l4 c4 k4, f__law_base := fnT_of X G a5 l5 c5 k5, f__law_again := fnT_of X G a6 l6 c6 k6, f__law_near := fnT_of X G a7 l7 c7 k7, f__law_by_digits := fnT_of X G a8 l8 c8 k8, f__law_read := fnT_of X G a9 l9 c9 k9, f__law_numbers := fnT_of X G a10 l10 c10 k10, f__law_below := fnT_of X G a11 l11 c11 k11, f_law := fnT_of X G a12 l12 c12 k12 }
  exact law_end T.f_law hfa (fun _ _ _ _ _ _ us hl => match us, hl with | [_], _ => rfl) (fun base => w_law T) hL
local macro_rules | `(tactic| walk_at "pd") => `(tactic| simp only [sSeq_ap, sIf_ap, sSet_ap, sRet_ap, sExpr_ap, sAsg_ap, sFor_ap, sNx_ap, sBk_ap, sCt_ap, sRetN_ap, eC_ap, eV_0, eV_s, e2_ap, e1_ap, aN_ap, aC_ap, eA_ap, tOf_ap, bAnd_ap, bOr_ap, bNot_ap,
  vAnd_ap, vOr_ap, vNot_ap, eIf_ap, gN_ap, gT_ap, fnM_ap, iSeq_ap, sApp_ap, sPar_ap, iRange3_ap, eL_0, eL_s, gT_lst, iRange1_ap, iRange2_ap, mkTup_0, mkTup_1, mkTup_2, mkTup_3, mkTup_4, mkLst_0, mkLst_1, mkLst_2, mkLst_3, mkLst_4, dAdd_int, dSub_int, dNeg_int, dLt_int, dLe_int, dGt_int, dGe_int, dEq_int, dNe_int, cLen_scr, cLen_lst, cLen_tup, cInt_bl, cInt_int, cMax_int, cMin_int, cAbs_int, cIsi_int, cIsi_int_bool,
  andThen_ite, turn_ite, res_ite, bind_ite, oS_ite, turn_nx, turn_ct, turn_bk, turn_rt, turn_ex, turn_stuck, res_rt, res_nx, res_ex, decide_eq_true_eq,
  oS_ok, oS_exc, oS_stuck, Out.bind_ok, Out.bind_exc, Out.bind_stuck, andThen_nx, andThen_rt, andThen_bk, andThen_ct, andThen_ex, andThen_stuck,
  List.length_cons, List.length_nil, List.map_cons, List.map_nil, List.replicate_succ, List.replicate_zero, List.cons_append, List.nil_append, List.set_cons_zero, List.set_cons_succ, List.zip_cons_cons, List.zip_nil_right, List.foldl_cons, List.foldl_nil,
  Nat.reduceAdd, Nat.reduceSub, Nat.zero_add, if_true, if_false, ite_true, ite_false, Bool.false_eq_true, reduceIte, decide_eq_true_eq, decide_true, decide_false, Bool.not_true, Bool.not_false])
local macro_rules | `(tactic| walk_at "pda") => `(tactic| simp only [*, sSeq_ap, sIf_ap, sSet_ap, sRet_ap, sExpr_ap, sAsg_ap, sFor_ap, sNx_ap, sBk_ap, sCt_ap, sRetN_ap, eC_ap, eV_0, eV_s, e2_ap, e1_ap, aN_ap, aC_ap, eA_ap, tOf_ap, bAnd_ap, bOr_ap, bNot_ap,
  vAnd_ap, vOr_ap, vNot_ap, eIf_ap, gN_ap, gT_ap, fnM_ap, iSeq_ap, sApp_ap, sPar_ap, iRange3_ap, eL_0, eL_s, gT_lst, iRange1_ap, iRange2_ap, mkTup_0, mkTup_1, mkTup_2, mkTup_3, mkTup_4, mkLst_0, mkLst_1, mkLst_2, mkLst_3, mkLst_4, dAdd_int, dSub_int, dNeg_int, dLt_int, dLe_int, dGt_int, dGe_int, dEq_int, dNe_int, cLen_scr, cLen_lst, cLen_tup, cInt_bl, cInt_int, cMax_int, cMin_int, cAbs_int, cIsi_int, cIsi_int_bool,
  andThen_ite, turn_ite, res_ite, bind_ite, oS_ite, turn_nx, turn_ct, turn_bk, turn_rt, turn_ex, turn_stuck, res_rt, res_nx, res_ex, decide_eq_true_eq,
  oS_ok, oS_exc, oS_stuck, Out.bind_ok, Out.bind_exc, Out.bind_stuck, andThen_nx, andThen_rt, andThen_bk, andThen_ct, andThen_ex, andThen_stuck,
  List.length_cons, List.length_nil, List.map_cons, List.map_nil, List.replicate_succ, List.replicate_zero, List.cons_append, List.nil_append, List.set_cons_zero, List.set_cons_succ, List.zip_cons_cons, List.zip_nil_right, List.foldl_cons, List.foldl_nil,
  Nat.reduceAdd, Nat.reduceSub, Nat.zero_add, if_true, if_false, ite_true, ite_false, Bool.false_eq_true, reduceIte, decide_eq_true_eq, decide_true, decide_false, Bool.not_true, Bool.not_false])
theorem p2 : dPow (.int 10) (.int 2) = .ok (.int 100) := chk_pos ⟨by decide, by decide, by decide⟩
theorem p3 : dPow (.int 10) (.int 3) = .ok (.int 1000) := chk_pos ⟨by decide, by decide, by decide⟩
theorem p4 : dPow (.int 10) (.int 4) = .ok (.int 10000) := chk_pos ⟨by decide, by decide, by decide⟩
theorem p5 : dPow (.int 10) (.int 5) = .ok (.int 100000) := chk_pos ⟨by decide, by decide, by decide⟩
theorem p6 : dPow (.int 10) (.int 6) = .ok (.int 1000000) := chk_pos ⟨by decide, by decide, by decide⟩
theorem p7 : dPow (.int 10) (.int 7) = .ok (.int 10000000) := chk_pos ⟨by decide, by decide, by decide⟩
theorem p8 : dPow (.int 10) (.int 8) = .ok (.int 100000000) := chk_pos ⟨by decide, by decide, by decide⟩
theorem p9 : dPow (.int 10) (.int 9) = .ok (.int 1000000000) := chk_pos ⟨by decide, by decide, by decide⟩
theorem p10 : dPow (.int 10) (.int 10) = .ok (.int 10000000000) := chk_pos ⟨by decide, by decide, by decide⟩
theorem p11 : dPow (.int 10) (.int 11) = .ok (.int 100000000000) := chk_pos ⟨by decide, by decide, by decide⟩
theorem p12 : dPow (.int 10) (.int 12) = .ok (.int 1000000000000) := chk_pos ⟨by decide, by decide, by decide⟩
theorem p13 : dPow (.int 10) (.int 13) = .ok (.int 10000000000000) := chk_pos ⟨by decide, by decide, by decide⟩
theorem p14 : dPow (.int 10) (.int 14) = .ok (.int 100000000000000) := chk_pos ⟨by decide, by decide, by decide⟩
theorem p15 : dPow (.int 10) (.int 15) = .ok (.int 1000000000000000) := chk_pos ⟨by decide, by decide, by decide⟩
theorem p16 : dPow (.int 10) (.int 16) = .ok (.int 10000000000000000) := chk_pos ⟨by decide, by decide, by decide⟩
theorem p18 : dPow (.int 10) (.int 18) = .ok (.int 1000000000000000000) := chk_pos ⟨by decide, by decide, by decide⟩
theorem p20 : dPow (.int 10) (.int 20) = .ok (.int 100000000000000000000) := chk_pos ⟨by decide, by decide, by decide⟩
theorem p22 : dPow (.int 10) (.int 22) = .ok (.int 10000000000000000000000) := chk_pos ⟨by decide, by decide, by decide⟩
theorem p24 : dPow (.int 10) (.int 24) = .ok (.int 1000000000000000000000000) := chk_pos ⟨by decide, by decide, by decide⟩
theorem p25 : dPow (.int 10) (.int 25) = .ok (.int 10000000000000000000000000) := chk_pos ⟨by decide, by decide, by decide⟩
theorem p26 : dPow (.int 10) (.int 26) = .ok (.int 100000000000000000000000000) := chk_pos ⟨by decide, by decide, by decide⟩
theorem p27 : dPow (.int 10) (.int 27) = .ok (.int 1000000000000000000000000000) := chk_pos ⟨by decide, by decide, by decide⟩
theorem p28 : dPow (.int 10) (.int 28) = .ok (.int 10000000000000000000000000000) := chk_pos ⟨by decide, by decide, by decide⟩
theorem p29 : dPow (.int 10) (.int 29) = .ok (.int 100000000000000000000000000000) := chk_pos ⟨by decide, by decide, by decide⟩
theorem p30 : dPow (.int 10) (.int 30) = .ok (.int 1000000000000000000000000000000) := chk_pos ⟨by decide, by decide, by decide⟩
theorem p35 : dPow (.int 10) (.int 35) = .ok (.int 100000000000000000000000000000000000) := chk_pos ⟨by decide, by decide, by decide⟩
theorem p40 : dPow (.int 10) (.int 40) = .ok (.int 10000000000000000000000000000000000000000) := chk_pos ⟨by decide, by decide, by decide⟩
theorem p60 : dPow (.int 10) (.int 60) = .ok (.int 1000000000000000000000000000000000000000000000000000000000000) := chk_pos ⟨by decide, by decide, by decide⟩
theorem lst3 {a b c : Int} {i : Int} (h0 : 0 ≤ i) (h : i < 3) : ∃ d, dIx (.lst [.int a, .int b, .int c]) (.int i) = .ok (.int d) ∧ (d = a ∨ d = b ∨ d = c) := by
  have : i = (0 : Nat) ∨ i = (1 : Nat) ∨ i = (2 : Nat) := by omega
  rcases this with rfl | rfl | rfl
  · exact ⟨a, rfl, .inl rfl⟩
  · exact ⟨b, rfl, .inr (.inl rfl)⟩
  · exact ⟨c, rfl, .inr (.inr rfl)⟩
def sg (n : Int) : Int := if 0 < n then 1 else if n < 0 then -1 else 0
def signOne (u v r : Int) : Int := if sg u = sg (v * r) ∨ sg (v * r) = 0 then sg u else if sg u = 0 then sg (v * r) else sg u * sg (u * u - v * v * r)
theorem sg_sz (n : Int) : Sz 1 (sg n) := by
  unfold Sz sg
  split
  · decide
  · split <;> decide
theorem sg_mul {v r : Int} (h : 0 < r) : sg (v * r) = sg v := by
  unfold sg
  by_cases h1 : 0 < v
  · rw [if_pos h1, if_pos (Int.mul_pos h1 h)]
  · by_cases h2 : v < 0
    · have : v * r < 0 := Int.mul_neg_of_neg_of_pos h2 h
      rw [if_neg h1, if_pos h2, if_neg (by omega), if_pos this]
    · have : v = 0 := by omega
      subst this
      simp
def lawSign (u v r : Int) : Int :=
  let left : Int := (if 0 < u then 1 else 0) - (if u < 0 then 1 else 0)
  let right : Int := if r = 0 then 0 else (if 0 < v then 1 else 0) - (if v < 0 then 1 else 0)
  if 0 ≤ left * right then max (-1) (min 1 (left + right)) else
  let more := u * u - v * v * r
  if more < 0 then right else left * (if 0 < more then 1 else 0)
theorem law_sign_eq {a : Nat} {u v r : Int} (hu : Sz a u) (hv : Sz a v) (hr : Sz a r) (la : a ≤ 1000000) : m__law_sign [.int u, .int v, .int r] = .ok (.int (lawSign u v r)) := by
  unfold m__law_sign b__law_sign lawSign
  have e2 := dMul_int hu hu (by omega)
  have e3 := dMul_int hv hv (by omega)
  have e4 := dMul_int (hv.mul hv) hr (by omega)
  have bs : ∀ (p : Prop) [Decidable p], Sz 1 (if p then (1 : Int) else 0) := fun p _ => by unfold Sz; split <;> decide
  have e5 := fun (p q p' q' : Prop) [Decidable p] [Decidable q] [Decidable p'] [Decidable q'] => dMul_int ((bs p).sub (bs q)) ((bs p').sub (bs q')) (by decide)
  have e6 := fun (p q : Prop) [Decidable p] [Decidable q]  => dMul_int ((bs p).sub (bs q)) (show Sz 1 0 by unfold Sz; decide) (by decide)
  have e7 := fun (p q p' : Prop) [Decidable p] [Decidable q] [Decidable p'] => dMul_int ((bs p).sub (bs q)) (bs p') (by decide)
  walk_at "pda"
  by_cases h : r = 0 <;> simp only [h, if_true, if_false, ok_ite, int_ite]
theorem sign_law {u v r : Int} (h : 0 ≤ r) : signOne u v r = lawSign u v r := by
  unfold signOne lawSign
  by_cases hr : r = 0
  · subst hr
    simp only [Int.mul_zero, if_true, Int.sub_zero]
    have z : sg 0 = 0 := rfl
    rw [z]
    unfold sg
    by_cases h1 : 0 < u
    · have h2 : ¬ u < 0 := by omega
      simp [h1, h2]
      decide
    · by_cases h2 : u < 0
      · simp [h1, h2]
        decide
      · simp [h1, h2]
        decide
  · have hp : 0 < r := by omega
    rw [sg_mul hp]
    simp only [hr, if_false]
    generalize u * u - v * v * r = m
    unfold sg
    by_cases h1 : 0 < u <;> by_cases h2 : u < 0 <;> by_cases h3 : 0 < v <;> by_cases h4 : v < 0 <;> by_cases h5 : 0 < m <;> by_cases h6 : m < 0 <;> first | omega | (simp [h1, h2, h3, h4, h5, h6]; try decide) | simp [h1, h2, h3, h4, h5, h6]
theorem signed_eq {n m : Int} (h : 0 ≤ m) (k : m < 2 ^ 200) : ∃ i, m__law_signed [.int n, .int m] = .ok (.int i) ∧ -m ≤ i ∧ i ≤ m := by
  have e1 := dMul_int (show Sz 2 2 by unfold Sz; decide) (show Sz 200 m by unfold Sz; omega) (by decide)
  have e2 := dMod_int (i := n) (show 0 < 2 * m + 1 by omega)
  have e3 := fun i => dDiv_int (i := i) (j := 2) (by decide) (show Sz 2 2 by unfold Sz; decide) (by decide)
  have e4 := fun i => dMod_int (i := i) (j := 2) (by decide)
  have b1 : 0 ≤ n % (2 * m + 1) := Int.emod_nonneg _ (by omega)
  have b2 : n % (2 * m + 1) < 2 * m + 1 := Int.emod_lt_of_pos _ (by omega)
  unfold m__law_signed b__law_signed
  walk_at "pda"
  generalize n % (2 * m + 1) = x at *
  by_cases h : x % 2 = 1
  · simp only [h, if_true]
    exact ⟨_, rfl, by omega, by omega⟩
  · simp only [h, if_false]
    exact ⟨_, rfl, by omega, by omega⟩
theorem by_digits_eq (ns : List Int) : ∃ b, m__law_by_digits [.scr ns] = .ok (.bl b) := by
  have e3 := fun i => dDiv_int (i := i) (j := 3) (by decide) (show Sz 2 3 by unfold Sz; decide) (by decide)
  have e4 := fun i => dMod_int (i := i) (j := 2) (by decide)
  unfold m__law_by_digits b__law_by_digits
  cases ns with
  | nil => exact ⟨false, rfl⟩
  | cons n ns =>
    have e5 : dIx (.scr (n :: ns)) (.int 0) = .ok (.int n) := by
      show (match atI (n :: ns) (0 : Nat) with | some n => Out.ok (D.int n) | none => .stuck) = _
      rw [atI_nat (v := n) rfl]
    walk_at "pda"
    split <;> exact ⟨_, rfl⟩
theorem cell_eq {ns : List Int} (hb : ∀ z ∈ ns, Builtin.Int.intBits z ≤ 1048576) {k : Nat} (hk : k < ns.length) : ∃ n : Int, m__law_cell [.scr ns, .int k] = .ok (.int n) ∧ 0 ≤ n ∧ n < 1000000000000000000000000000000000000000000000000000000000000 := by
  have e1 : dIx (.scr ns) (.int k) = .ok (.int ns[k]) := by
    show (match atI ns (k : Nat) with | some n => Out.ok (D.int n) | none => .stuck) = _
    rw [atI_nat (v := ns[k]) (by simp)]
  have sz := sz_of_bits (hb ns[k] (List.getElem_mem hk))
  have e2 := dMul_int (j := 31415926535897932384626433832795028841971693993751058209749) sz (show Sz 200 _ by unfold Sz; decide) (by decide)
  have e3 := fun i => dMod_int (i := i) (j := 1000000000000000000000000000000000000000000000000000000000000) (by decide)
  have e4 := p60
  have e5 : (k : Int) < ns.length := by omega
  clear sz hb
  unfold m__law_cell b__law_cell
  walk_at "pda"
  exact ⟨_, rfl, Int.emod_nonneg _ (by decide), Int.emod_lt_of_pos _ (by decide)⟩
def Num (d : D) : Prop := ∃ p q r s : Int, d = .tup [.int p, .int q, .int r, .int s] ∧ 0 ≤ r ∧ 0 < s ∧ Sz 120 p ∧ Sz 120 q ∧ Sz 120 r ∧ Sz 120 s
def NumB (d : D) : Prop := ∃ p q r s : Int, d = .tup [.int p, .int q, .int r, .int s] ∧ 0 ≤ r ∧ 0 < s ∧ Sz 100 p ∧ Sz 100 q ∧ Sz 100 r ∧ Sz 100 s
theorem NumB.num {d : D} (h : NumB d) : Num d := by
  obtain ⟨p, q, r, s, e, h0, h1, a, b, c, d⟩ := h
  exact ⟨p, q, r, s, e, h0, h1, a.mono (by decide), b.mono (by decide), c.mono (by decide), d.mono (by decide)⟩
theorem t5 (a b c d e : D) : mkLst [a, b, c, d, e] = .ok (.lst [a, b, c, d, e]) := mkLst_ok (by simp)
theorem lst5 {a b c e f : Int} {i : Int} (h0 : 0 ≤ i) (h : i < 5) : ∃ d, dIx (.lst [.int a, .int b, .int c, .int e, .int f]) (.int i) = .ok (.int d) ∧ (d = a ∨ d = b ∨ d = c ∨ d = e ∨ d = f) := by
  have : i = (0 : Nat) ∨ i = (1 : Nat) ∨ i = (2 : Nat) ∨ i = (3 : Nat) ∨ i = (4 : Nat) := by omega
  rcases this with rfl | rfl | rfl | rfl | rfl
  · exact ⟨a, dIx_lst rfl, .inl rfl⟩
  · exact ⟨b, dIx_lst rfl, .inr (.inl rfl)⟩
  · exact ⟨c, dIx_lst rfl, .inr (.inr (.inl rfl))⟩
  · exact ⟨e, dIx_lst rfl, .inr (.inr (.inr (.inl rfl)))⟩
  · exact ⟨f, dIx_lst rfl, .inr (.inr (.inr (.inr rfl)))⟩
theorem read_eq (n : Int) : ∃ d, m__law_read [.int n] = .ok d ∧ Num d := by
  have e4 := fun i => dMod_int (i := i) (j := 5) (by decide)
  have e5 := fun i => dDiv_int (i := i) (j := 5) (by decide) (show Sz 3 5 by unfold Sz; decide) (by decide)
  obtain ⟨s, es, hs⟩ := lst5 (a := 3) (b := 60) (c := 1000000) (e := 1000000000000) (f := 10000000000000000000000000000) (i := n % 5) (by omega) (by omega)
  have e1 := p12
  have e2 := p28
  have e3 := p6
  have s0 : 0 < s ∧ s ≤ 10000000000000000000000000000 := by omega
  have e7 := dMul_int (i := 2) (j := s) (show Sz 2 2 by unfold Sz; decide) (show Sz 200 s by unfold Sz; omega) (by decide)
  have e8 := fun i => dDiv_int (i := i) (j := 2 * s + 1) (by omega) (show Sz 200 (2 * s + 1) by unfold Sz; omega) (by decide)
  have e9 := fun i => dMod_int (i := i) (j := s + 1) (by omega)
  have f1 := fun i => dDiv_int (i := i) (j := s + 1) (by omega) (show Sz 200 (s + 1) by unfold Sz; omega) (by decide)
  have f2 := fun i => dMod_int (i := i) (j := s) (by omega)
  obtain ⟨u, hu, u1, u2⟩ := signed_eq (n := n / 5) (m := s) (by omega) (Int.lt_of_le_of_lt s0.2 (by decide))
  obtain ⟨v, hv, v1, v2⟩ := signed_eq (n := n / 5 / (2 * s + 1)) (m := s) (by omega) (Int.lt_of_le_of_lt s0.2 (by decide))
  have f3 := t5
  unfold m__law_read b__law_read
  walk_at "pda"
  have r0 := Int.emod_nonneg (n / 5 / (2 * s + 1) / (2 * s + 1)) (show s + 1 ≠ 0 by omega)
  have r1 := Int.emod_lt_of_pos (n / 5 / (2 * s + 1) / (2 * s + 1)) (show 0 < s + 1 by omega)
  have z0 := Int.emod_nonneg (n / 5 / (2 * s + 1) / (2 * s + 1) / (s + 1)) (show s ≠ 0 by omega)
  have z1 := Int.emod_lt_of_pos (n / 5 / (2 * s + 1) / (2 * s + 1) / (s + 1)) (show 0 < s by omega)
  exact ⟨_, rfl, u, v, _, _, rfl, r0, by omega, by unfold Sz; omega, by unfold Sz; omega, by unfold Sz; omega, by unfold Sz; omega⟩
theorem base_turn : ∀ (ks : List D) (acc : List D), acc.length + ks.length ≤ 1000 → (∀ x ∈ acc, ∃ i : Int, x = .int i) → ∀ (n : Int) s c a b, 0 ≤ n → n < 2000000000000000000000000000000000000000000000000000000000000 → ∃ n' acc' c', forL (gN 3) b__law_base_1 ks [some (.int n), s, some (.lst acc), c, a, b] = .nx [some (.int n'), s, some (.lst acc'), c', a, b] ∧ acc'.length = acc.length + ks.length ∧ ∀ x ∈ acc', ∃ i : Int, x = .int i := by
  intro ks
  induction ks with
  | nil => intro acc _ h n s c a b _ _; exact ⟨n, acc, c, rfl, rfl, h⟩
  | cons k ks ih =>
    intro acc l h n s c a b n0 n1
    have la : acc.length < 16777216 := by simp only [List.length_cons] at l; omega
    have ea := app_ok la
    have a3 := dMul_int (i := n) (j := 69621) (show Sz 220 n by unfold Sz; omega) (show Sz 20 69621 by unfold Sz; decide) (by decide)
    have a5 := fun i => dMod_int (i := i) (j := 1000000000000000000000000000000000000000000000000000000000000 + 7) (by decide)
    have a6 := fun i => dDiv_int (i := i) (j := 1000000000000000000000000) (by decide) (show Sz 100 1000000000000000000000000 by unfold Sz; decide) (by decide)
    have ih' := ih (acc ++ [.int (n * 69621 % (1000000000000000000000000000000000000000000000000000000000000 + 7) / 1000000000000000000000000)]) (by simp only [List.length_append, List.length_cons, List.length_nil] at l ⊢; omega) (fun x hx => by
      rcases List.mem_append.mp hx with q | q
      · exact h x q
      · simp only [List.mem_singleton] at q; exact ⟨_, q⟩)
    clear ih
    have q1 := p24
    have q2 := p60
    obtain ⟨n', acc', c', e, l', h'⟩ := ih' (n * 69621 % (1000000000000000000000000000000000000000000000000000000000000 + 7)) s (some k) a b (Int.emod_nonneg _ (by decide)) (Int.lt_trans (Int.emod_lt_of_pos _ (by decide)) (by decide))
    refine ⟨n', acc', c', ?_, by rw [l']; simp only [List.length_append, List.length_cons, List.length_nil]; omega, h'⟩
    clear ih' h h'
    rw [forL_cons]
    generalize forL (gN 3) b__law_base_1 ks = R at *
    unfold b__law_base_1
    walk_at "pda"
theorem len4 {xs : List D} (h : xs.length = 4) : ∃ a b c d, xs = [a, b, c, d] := by
  match xs, h with
  | [a, b, c, d], _ => exact ⟨a, b, c, d, rfl⟩
theorem base_eq {n : Int} (n0 : 0 ≤ n) (n1 : n < 1000000000000000000000000000000000000000000000000000000000000) : ∃ d, m__law_base [.int n] = .ok d ∧ NumB d := by
  have e4 := fun i => dMod_int (i := i) (j := 5) (by decide)
  obtain ⟨s, es, hs⟩ := lst5 (a := 3) (b := 60) (c := 1000000) (e := 1000000000000) (f := 10000000000000000000000000000) (i := n % 5) (by omega) (by omega)
  have e1 := p12
  have e2 := p28
  have e3 := p6
  have s0 : 0 < s ∧ s ≤ 10000000000000000000000000000 := by omega
  obtain ⟨n', acc', c', e, l', h'⟩ := base_turn ((List.range (4 : Int).toNat).map fun (n : Nat) => D.int n) [] (by simp) (fun x h => by cases h) n (some (.int s)) none none none n0 (by omega)
  obtain ⟨x, y, z, w, rfl⟩ := len4 (xs := acc') (by rw [l']; simp)
  obtain ⟨x, rfl⟩ := h' x (by simp)
  obtain ⟨y, rfl⟩ := h' y (by simp)
  obtain ⟨z, rfl⟩ := h' z (by simp)
  obtain ⟨w, rfl⟩ := h' w (by simp)
  have r3 := rng1_ok (j := 4) (by decide) (by decide)
  have t := t5
  have i0 : dIx (.lst [.int x, .int y, .int z, .int w]) (.int 0) = .ok (.int x) := dIx_lst (k := 0) rfl
  have i1 : dIx (.lst [.int x, .int y, .int z, .int w]) (.int 1) = .ok (.int y) := dIx_lst (k := 1) rfl
  have i2 : dIx (.lst [.int x, .int y, .int z, .int w]) (.int 2) = .ok (.int z) := dIx_lst (k := 2) rfl
  have i3 : dIx (.lst [.int x, .int y, .int z, .int w]) (.int 3) = .ok (.int w) := dIx_lst (k := 3) rfl
  have e9 := fun i => dMod_int (i := i) (j := s + 1) (by omega)
  have f2 := fun i => dMod_int (i := i) (j := s) (by omega)
  obtain ⟨u, hu, u1, u2⟩ := signed_eq (n := x) (m := s) (by omega) (Int.lt_of_le_of_lt s0.2 (by decide))
  obtain ⟨v, hv, v1, v2⟩ := signed_eq (n := y) (m := s) (by omega) (Int.lt_of_le_of_lt s0.2 (by decide))
  clear h' l'
  unfold m__law_base b__law_base
  walk_at "pda"
  have r0 := Int.emod_nonneg z (show s + 1 ≠ 0 by omega)
  have r1 := Int.emod_lt_of_pos z (show 0 < s + 1 by omega)
  have z0 := Int.emod_nonneg w (show s ≠ 0 by omega)
  have z1 := Int.emod_lt_of_pos w (show 0 < s by omega)
  exact ⟨_, rfl, u, v, _, _, rfl, r0, by omega, by unfold Sz; omega, by unfold Sz; omega, by unfold Sz; omega, by unfold Sz; omega⟩
theorem again_eq {d : D} (h : NumB d) (n : Int) : ∃ d', m__law_again [d, .int n] = .ok d' ∧ Num d' := by
  obtain ⟨p, q, r, s, rfl, r0, s0, sp, sq, sr, ss⟩ := h
  have e4 := fun i => dMod_int (i := i) (j := 5) (by decide)
  have e5 := fun i => dDiv_int (i := i) (j := 5) (by decide) (show Sz 3 5 by unfold Sz; decide) (by decide)
  have e6 := fun i => dMod_int (i := i) (j := 7) (by decide)
  have k0 : 0 < 1 + n % 5 := by omega
  have m0 : 0 < 1 + n / 5 % 7 := by omega
  have sk : Sz 3 (1 + n % 5) := by unfold Sz; omega
  have sm : Sz 3 (1 + n / 5 % 7) := by unfold Sz; omega
  generalize hk : 1 + n % 5 = k at *
  generalize hm : 1 + n / 5 % 7 = m at *
  have d1 := dMul_int sp sk (by decide)
  have d2 := dMul_int (sp.mul sk) sm (by decide)
  have d3 := dMul_int sq sm (by decide)
  have d4 := dMul_int sr sk (by decide)
  have d5 := dMul_int (sr.mul sk) sk (by decide)
  have d6 := dMul_int ss sk (by decide)
  have d7 := dMul_int (ss.mul sk) sm (by decide)
  have z1 := (sp.mul sk).mul sm
  have z2 := sq.mul sm
  have z3 := (sr.mul sk).mul sk
  have z4 := (ss.mul sk).mul sm
  have y1 : 0 ≤ r * k * k := Int.mul_nonneg (Int.mul_nonneg r0 (by omega)) (by omega)
  have y2 : 0 < s * k * m := Int.mul_pos (Int.mul_pos s0 k0) m0
  clear sp sq sr ss sk sm
  unfold m__law_again b__law_again
  walk_at "pda"
  exact ⟨_, rfl, _, _, _, _, rfl, y1, y2, z1.mono (by decide), z2.mono (by decide), z3.mono (by decide), z4.mono (by decide)⟩
theorem near_eq {d : D} (h : NumB d) (n : Int) : ∃ d', m__law_near [d, .int n] = .ok d' ∧ Num d' := by
  obtain ⟨p, q, r, s, rfl, r0, s0, sp, sq, sr, ss⟩ := h
  have e6 := fun i => dMod_int (i := i) (j := 3) (by decide)
  have z1 : Sz 101 (p + 1) := sp.add (show Sz 100 1 by unfold Sz; decide)
  have z2 : Sz 101 (r + 1) := sr.add (show Sz 100 1 by unfold Sz; decide)
  have z3 : Sz 101 (s + 1) := ss.add (show Sz 100 1 by unfold Sz; decide)
  have x1 := sp.mono (m := 120) (by decide)
  have x2 := sq.mono (m := 120) (by decide)
  have x3 := sr.mono (m := 120) (by decide)
  have x4 := ss.mono (m := 120) (by decide)
  clear sp sq sr ss
  unfold m__law_near b__law_near
  walk_at "pda"
  split
  · exact ⟨_, rfl, _, _, _, _, rfl, r0, s0, z1.mono (by decide), x2, x3, x4⟩
  · split
    · exact ⟨_, rfl, _, _, _, _, rfl, by omega, s0, x1, x2, z2.mono (by decide), x4⟩
    · exact ⟨_, rfl, _, _, _, _, rfl, r0, by omega, x1, x2, x3, z3.mono (by decide)⟩
theorem numbers_turn {ns : List Int} (hb : ∀ z ∈ ns, Builtin.Int.intBits z ≤ 1048576) {st en : D} : ∀ (ks : List Nat), (∀ k ∈ ks, k < ns.length) → ∀ (acc : List D), acc.length + ks.length ≤ 1000 → (∀ x ∈ acc, Num x) → ∀ bs, NumB bs → ∀ a b c, ∃ acc' bs' a' b' c', forL (gN 5) b__law_numbers_1 (ks.map fun (k : Nat) => .int k) [some (.scr ns), some st, some en, some (.lst acc), some bs, a, b, c] = .nx [some (.scr ns), some st, some en, some (.lst acc'), some bs', a', b', c'] ∧ acc'.length = acc.length + ks.length ∧ ∀ x ∈ acc', Num x := by
  obtain ⟨bb, hbd⟩ := by_digits_eq ns
  intro ks
  induction ks with
  | nil => intro _ acc _ h bs _ a b c; exact ⟨acc, bs, a, b, c, rfl, rfl, h⟩
  | cons k ks ih =>
    intro hk acc l h bs hbs a b c
    have hk1 := hk k List.mem_cons_self
    obtain ⟨n, hn, n0, n1⟩ := cell_eq hb hk1
    obtain ⟨z, e2⟩ : ∃ z, dIx (.scr ns) (.int (k : Int)) = .ok (.int z) := ⟨ns[k], dIx_scr (by simp)⟩
    obtain ⟨d1, r1, R1⟩ := read_eq z
    obtain ⟨d2, r2, R2⟩ := again_eq hbs (n / 5)
    obtain ⟨d3, r3, R3⟩ := near_eq hbs (n / 5)
    obtain ⟨d4, r4, R4⟩ := base_eq (n := n / 5) (by omega) (by omega)
    have la : acc.length < 16777216 := by simp only [List.length_cons] at l; omega
    have ea := app_ok la
    have e4 := fun i => dMod_int (i := i) (j := 5) (by decide)
    have e5 := fun i => dDiv_int (i := i) (j := 5) (by decide) (show Sz 3 5 by unfold Sz; decide) (by decide)
    have ih' : ∀ d, Num d → ∀ bs, NumB bs → ∀ a b c, ∃ acc' bs' a' b' c', forL (gN 5) b__law_numbers_1 (ks.map fun (k : Nat) => .int k) [some (.scr ns), some st, some en, some (.lst (acc ++ [d])), some bs, a, b, c] = .nx [some (.scr ns), some st, some en, some (.lst acc'), some bs', a', b', c'] ∧ acc'.length = acc.length + (k :: ks).length ∧ ∀ x ∈ acc', Num x := fun d hd bs hbs a b c => by
      obtain ⟨acc', bs', a', b', c', q1, q2, q3⟩ := ih (fun k' h => hk k' (List.mem_cons_of_mem _ h)) (acc ++ [d]) (by simp only [List.length_append, List.length_cons, List.length_nil] at l ⊢; omega) (fun x hx => by
        rcases List.mem_append.mp hx with q | q
        · exact h x q
        · simp only [List.mem_singleton] at q; subst q; exact hd) bs hbs a b c
      exact ⟨acc', bs', a', b', c', q1, by rw [q2]; simp only [List.length_append, List.length_cons, List.length_nil]; omega, q3⟩
    clear ih h hb hk hk1 l la
    rw [List.map_cons, forL_cons]
    generalize forL (gN 5) b__law_numbers_1 (ks.map fun (k : Nat) => .int k) = R at *
    unfold b__law_numbers_1
    have j1 := ih' d1 R1 bs hbs
    have j2 := ih' d2 R2 bs hbs
    have j3 := ih' d3 R3 bs hbs
    have j4 := ih' d4 R4.num d4 R4
    clear ih'
    cases bb with
    | true =>
      clear j2 j3 j4
      walk_at "pda"
      exact j1 _ _ _
    | false =>
      by_cases w3 : n % 5 = 3
      · clear j1 j3 j4
        walk_at "pda"
        exact j2 _ _ _
      · by_cases w4 : n % 5 = 4
        · clear j1 j2 j4
          walk_at "pda"
          exact j3 _ _ _
        · clear j1 j2 j3
          walk_at "pda"
          exact j4 _ _ _
theorem numbers_eq {ns : List Int} (hl : ns.length ≤ 63) (hb : ∀ z ∈ ns, Builtin.Int.intBits z ≤ 1048576) {m : Nat} (hm : m ≤ 63) : ∃ xs, m__law_numbers [.scr ns, .int 0, .int m] = .ok (.lst xs) ∧ xs.length ≤ 63 ∧ ∀ x ∈ xs, Num x := by
  have b0 : NumB (.tup [.int 0, .int 0, .int 0, .int 1]) := ⟨0, 0, 0, 1, rfl, by decide, by decide, by unfold Sz; decide, by unfold Sz; decide, by unfold Sz; decide, by unfold Sz; decide⟩
  obtain ⟨acc', bs', a', b', c', e, l', h'⟩ := numbers_turn hb (st := .int 0) (en := .int m) (List.range (min (m : Int) ns.length - 0).toNat) (fun k hk => by have := List.mem_range.mp hk; omega) [] (by simp only [List.length_nil, List.length_range]; omega) (fun x h => by cases h) _ b0 none none none
  have r := rng2_ok (i := 0) (j := min (m : Int) ns.length) (by decide) (by decide) (by omega) (by omega)
  have e' : (List.range (min (m : Int) ns.length - 0).toNat).map (fun (n : Nat) => D.int (0 + n)) = (List.range (min (m : Int) ns.length - 0).toNat).map (fun (n : Nat) => D.int n) := by
    refine List.map_congr_left fun n _ => ?_
    rw [Int.zero_add]
  rw [e'] at r
  clear e'
  refine ⟨acc', ?_, by rw [l']; simp only [List.length_nil, List.length_range]; omega, h'⟩
  clear h' l' b0 hb
  unfold m__law_numbers b__law_numbers
  walk_at "pda"
theorem sWhile_true {t : Env → Out Bool} {b : Env → SO} {ρ r : Env} (ht : t ρ = .ok true) (hb : b ρ = .nx r) : sWhile t b ρ = sWhile t b r := by
  have step : ∀ n, whileN t b (n + 1) ρ = whileN t b n r := fun n => by
    show oS (t ρ) _ = _
    rw [ht, oS_ok, if_pos rfl, hb]
    rfl
  by_cases h : ∃ n, whileN t b n r ≠ .stuck
  · obtain ⟨n, h⟩ := h
    rw [sWhile_eq h, sWhile_eq (n := n + 1) (by rw [step]; exact h), step]
  · by_cases h2 : ∃ n, whileN t b n ρ ≠ .stuck
    · obtain ⟨n, h2⟩ := h2
      cases n with
      | zero => exact absurd rfl h2
      | succ n => rw [step] at h2; exact absurd ⟨n, h2⟩ h
    · unfold sWhile
      rw [dif_neg h, dif_neg h2]
theorem sWhile_false {t : Env → Out Bool} {b : Env → SO} {ρ : Env} (ht : t ρ = .ok false) : sWhile t b ρ = .nx ρ := by
  have e : whileN t b 1 ρ = .nx ρ := by
    show oS (t ρ) _ = _
    rw [ht, oS_ok, if_neg Bool.false_ne_true]
  rw [sWhile_eq (n := 1) (by rw [e]; intro z; cases z), e]
theorem two_pow_int (j : Nat) : (0 : Int) < 2 ^ j := by
  have := Nat.two_pow_pos j
  have e : ((2 ^ j : Nat) : Int) = (2 : Int) ^ j := by simp
  omega
theorem sz_pow (j : Nat) : Sz (j + 1) ((2 : Int) ^ j) := by
  unfold Sz
  have e : ((2 ^ j : Nat) : Int) = (2 : Int) ^ j := by simp
  rw [← e, Int.natAbs_natCast]
  exact Nat.pow_lt_pow_right (by decide) (by omega)
theorem sq_nn (a : Int) : 0 ≤ a * a := by
  rcases Int.le_total 0 a with h | h
  · exact Int.mul_nonneg h h
  · exact Int.mul_nonneg_of_nonpos_of_nonpos h h
theorem sq_le {a b : Int} (h0 : 0 ≤ a) (h : a ≤ b) : a * a ≤ b * b := Int.mul_le_mul h h h0 (by omega)
theorem sq_lt {a b : Int} (h0 : 0 ≤ a) (h : a < b) : a * a < b * b := by
  have h1 : a * a ≤ a * b := Int.mul_le_mul_of_nonneg_left (by omega) h0
  have h2 : a * b < b * b := Int.mul_lt_mul_of_pos_right h (by omega)
  omega
theorem sq_lt_rev {a b : Int} (hb : 0 ≤ b) (h : a * a < b * b) : a < b := by
  by_cases c : a < b
  · exact c
  · have := sq_le hb (show b ≤ a by omega)
    omega
/-- the first loop of whole_root: step grows to a power of two past the root -/
theorem grow {n : Int} {N : Nat} (h0 : 0 ≤ n) (hN : n < 2 ^ N) (lN : N ≤ 1000000) : ∀ (m j : Nat) (x : Option D), j + m = N → ∃ j', j' ≤ N ∧ sWhile (tOf (e2 dLe (e2 dMul (eV 1) (eV 1)) (eV 0))) b_whole_root_1 [some (.int n), some (.int (2 ^ j)), x] = .nx [some (.int n), some (.int (2 ^ j')), x] ∧ n < 2 ^ j' * 2 ^ j' := by
  intro m
  induction m with
  | zero =>
    intro j x e
    have sj : Sz (j + 1) ((2 : Int) ^ j) := sz_pow j
    have d1 := dMul_int sj sj (by omega)
    have lt : n < 2 ^ j * 2 ^ j := by
      have e : j = N := by omega
      subst e
      have p := two_pow_int j
      have : (2 : Int) ^ j * 1 ≤ 2 ^ j * 2 ^ j := Int.mul_le_mul_of_nonneg_left (by omega) (by omega)
      omega
    refine ⟨j, by omega, sWhile_false ?_, lt⟩
    have nle : ¬ ((2 : Int) ^ j * 2 ^ j ≤ n) := by omega
    clear hN e
    walk_at "pda"
  | succ m ih =>
    intro j x e
    have sj : Sz (j + 1) ((2 : Int) ^ j) := sz_pow j
    have d1 := dMul_int sj sj (by omega)
    by_cases c : (2 : Int) ^ j * 2 ^ j ≤ n
    · obtain ⟨j', l, q, r⟩ := ih (j + 1) x (by omega)
      refine ⟨j', l, ?_, r⟩
      rw [← q]
      refine sWhile_true ?_ ?_
      · clear ih q r hN e
        walk_at "pda"
      · have d2 := dMul_int sj (show Sz 2 2 by unfold Sz; decide) (by omega)
        have e3 : (2 : Int) ^ (j + 1) = 2 ^ j * 2 := Int.pow_succ 2 j
        rw [e3]
        clear ih q r hN e e3
        unfold b_whole_root_1
        walk_at "pda"
    · refine ⟨j, by omega, sWhile_false ?_, by omega⟩
      clear ih hN e
      walk_at "pda"
theorem seek_turn {n f : Int} {N j : Nat} (jl : j ≤ N) (lN : N ≤ 1000000) (sf : Sz (N + 2) f) : b_whole_root_2 [some (.int n), some (.int (2 ^ j)), some (.int f)] = .nx [some (.int n), some (.int (2 ^ j / 2)), some (.int (if (f + 2 ^ j) * (f + 2 ^ j) ≤ n then f + 2 ^ j else f))] := by
  have sj : Sz (N + 2) ((2 : Int) ^ j) := (sz_pow j).mono (by omega)
  have d1 := dMul_int (sf.add sj) (sf.add sj) (by omega)
  have d2 := fun i => dDiv_int (i := i) (j := 2) (by decide) (show Sz 2 2 by unfold Sz; decide) (by decide)
  unfold b_whole_root_2
  clear sf jl
  walk_at "pda"
  split <;> walk_at "pda"
theorem seek {n : Int} {N : Nat} (h0 : 0 ≤ n) (lN : N ≤ 1000000) : ∀ (j : Nat) (f : Int), j ≤ N → 0 ≤ f → f * f ≤ n → n < (f + 2 ^ (j + 1)) * (f + 2 ^ (j + 1)) → f + 2 ^ (j + 1) ≤ 2 ^ (N + 1) →
    ∃ k, sWhile (tOf (e2 dGt (eV 1) (eC (.int 0)))) b_whole_root_2 [some (.int n), some (.int (2 ^ j)), some (.int f)] = .nx [some (.int n), some (.int 0), some (.int k)] ∧ 0 ≤ k ∧ k * k ≤ n ∧ n < (k + 1) * (k + 1) := by
  intro j
  induction j with
  | zero =>
    intro f jl f0 le lt lm
    have sf : Sz (N + 2) f := by
      have h1 : f < 2 ^ (N + 2) := by
        have : (2 : Int) ^ (N + 2) = 2 ^ (N + 1) * 2 := Int.pow_succ 2 (N + 1)
        have := two_pow_int (N + 1)
        omega
      have h2 : ((2 ^ (N + 2) : Nat) : Int) = (2 : Int) ^ (N + 2) := by simp
      unfold Sz
      omega
    have e := seek_turn (n := n) (j := 0) jl lN sf
    have e2 : (2 : Int) ^ 0 / 2 = 0 := by decide
    have e3 : (2 : Int) ^ 0 = 1 := by decide
    have e4 : (2 : Int) ^ (0 + 1) = 2 := by decide
    rw [e2] at e
    rw [e4] at lt
    refine ⟨_, (sWhile_true ?_ e).trans (sWhile_false ?_), ?_⟩
    · rw [e3]
      rfl
    · rfl
    · rw [e3]
      split
      · rename_i c
        exact ⟨by omega, c, by rw [show f + 1 + 1 = f + 2 by omega]; exact lt⟩
      · rename_i c
        exact ⟨f0, le, by omega⟩
  | succ j ih =>
    intro f jl f0 le lt lm
    have p1 := two_pow_int j
    have e1 : (2 : Int) ^ (j + 1) = 2 ^ j * 2 := Int.pow_succ 2 j
    have e1' : (2 : Int) ^ (j + 1 + 1) = 2 ^ (j + 1) * 2 := Int.pow_succ 2 (j + 1)
    have sf : Sz (N + 2) f := by
      have h1 : f < 2 ^ (N + 2) := by
        have : (2 : Int) ^ (N + 2) = 2 ^ (N + 1) * 2 := Int.pow_succ 2 (N + 1)
        have := two_pow_int (N + 1)
        have := two_pow_int (j + 1 + 1)
        omega
      have h2 : ((2 ^ (N + 2) : Nat) : Int) = (2 : Int) ^ (N + 2) := by simp
      unfold Sz
      omega
    have e := seek_turn (n := n) (j := j + 1) jl lN sf
    have e2 : (2 : Int) ^ (j + 1) / 2 = 2 ^ j := by omega
    rw [e2] at e
    have tt : tOf (PD.e2 dGt (eV 1) (eC (.int 0))) [some (.int n), some (.int (2 ^ (j + 1))), some (.int f)] = .ok true := by
      have : (0 : Int) < 2 ^ (j + 1) := by omega
      clear ih e e1 e1' lt lm
      walk_at "pda"
    rw [sWhile_true tt e]
    by_cases c : (f + 2 ^ (j + 1)) * (f + 2 ^ (j + 1)) ≤ n
    · rw [if_pos c]
      exact ih _ (by omega) (by omega) c (by rw [show f + 2 ^ (j + 1) + 2 ^ (j + 1) = f + 2 ^ (j + 1 + 1) by omega]; exact lt) (by omega)
    · rw [if_neg c]
      exact ih _ (by omega) f0 le (by omega) (by omega)
theorem whole_root_eq {n : Int} {N : Nat} (h0 : 0 ≤ n) (hN : n < 2 ^ N) (lN : N ≤ 100000) : ∃ k, m_whole_root [.int n] = .ok (.int k) ∧ 0 ≤ k ∧ k * k ≤ n ∧ n < (k + 1) * (k + 1) := by
  obtain ⟨j, jl, e1, l1⟩ := grow h0 hN (by omega) N 0 none (by omega)
  have p1 := two_pow_int j
  have e3 : (2 : Int) ^ (j + 1) = 2 ^ j * 2 := Int.pow_succ 2 j
  have e4 : (2 : Int) ^ (N + 1) = 2 ^ N * 2 := Int.pow_succ 2 N
  have p2 : (2 : Int) ^ j ≤ 2 ^ N := by
    have := Nat.pow_le_pow_right (show 0 < 2 by decide) jl
    have h1 : ((2 ^ j : Nat) : Int) = (2 : Int) ^ j := by simp
    have h2 : ((2 ^ N : Nat) : Int) = (2 : Int) ^ N := by simp
    omega
  have l2 : n < (0 + 2 ^ (j + 1)) * (0 + 2 ^ (j + 1)) := by
    have := sq_le (a := (2 : Int) ^ j) (b := 0 + 2 ^ (j + 1)) (by omega) (by omega)
    omega
  obtain ⟨k, e2, k0, k1, k2⟩ := seek h0 (N := N) (by omega) j 0 jl (by decide) (by simpa using h0) l2 (by omega)
  refine ⟨k, ?_, k0, k1, k2⟩
  have e5 : (2 : Int) ^ 0 = 1 := by decide
  rw [e5] at e1
  clear k0 k1 k2 l2 l1 e3 e4 p1 p2 hN
  unfold m_whole_root b_whole_root
  walk_at "pda"
def flo (p q r s : Int) (k : Int) : Int := if 0 ≤ q then (p + k) / s else if k * k < q * q * r then (p - (k + 1)) / s else (p - k) / s
theorem floor_eq {a : Nat} {p q r s : Int} (hp : Sz a p) (hq : Sz a q) (hr : Sz a r) (hs : Sz a s) (r0 : 0 ≤ r) (s0 : 0 < s) (la : a ≤ 3000) : ∃ k, m_floor_of [.tup [.int p, .int q, .int r, .int s]] = .ok (.int (flo p q r s k)) ∧ 0 ≤ k ∧ k * k ≤ q * q * r ∧ q * q * r < (k + 1) * (k + 1) := by
  have z := (hq.mul hq).mul hr
  have n0 : 0 ≤ q * q * r := Int.mul_nonneg (sq_nn q) r0
  have lt : q * q * r < 2 ^ (a + a + a) := by
    have h2 : ((2 ^ (a + a + a) : Nat) : Int) = (2 : Int) ^ (a + a + a) := by simp
    unfold Sz at z
    omega
  obtain ⟨k, e, k0, k1, k2⟩ := whole_root_eq n0 lt (by omega)
  have sk : Sz (a + a + a) k := by
    have : k ≤ q * q * r := by
      by_cases c : k = 0
      · omega
      · have := Int.mul_le_mul_of_nonneg_left (show 1 ≤ k by omega) k0
        omega
    unfold Sz at z ⊢
    omega
  have d1 := dMul_int hq hq (by omega)
  have d2 := dMul_int (hq.mul hq) hr (by omega)
  have d3 := dMul_int sk sk (by omega)
  have d4 := fun i => dDiv_int (i := i) s0 hs (by omega)
  refine ⟨k, ?_, k0, k1, k2⟩
  clear z sk k1 k2 lt n0 hp hq hr hs
  unfold m_floor_of b_floor_of flo
  walk_at "pda"
  simp only [ok_ite, int_ite]
/-- where v is not below 0: by the root below -/
theorem sign_ge {u v r k : Int} (hv : 0 ≤ v) (hr : 0 ≤ r) (k0 : 0 ≤ k) (k1 : k * k ≤ v * v * r) (k2 : v * v * r < (k + 1) * (k + 1)) : 0 ≤ signOne u v r ↔ 0 ≤ u + k := by
  unfold signOne
  by_cases hz : v * r = 0
  · have e : v * v * r = 0 := by rw [Int.mul_assoc, hz, Int.mul_zero]
    have ek : k = 0 := by
      by_cases c : k = 0
      · exact c
      · have := sq_le (a := 1) (b := k) (by decide) (by omega)
        omega
    rw [hz, ek]
    have : sg 0 = 0 := rfl
    rw [this]
    simp only [or_true, if_true]
    unfold sg
    split
    · omega
    · split <;> omega
  · have hp : 0 < v * r := by
      have := Int.mul_nonneg hv hr
      omega
    have e1 : sg (v * r) = 1 := by unfold sg; rw [if_pos hp]
    rw [e1]
    by_cases h1 : 0 < u
    · have : sg u = 1 := by unfold sg; rw [if_pos h1]
      simp only [this, true_or, if_true]
      omega
    · by_cases h2 : u < 0
      · have e2 : sg u = -1 := by unfold sg; rw [if_neg h1, if_pos h2]
        rw [e2]
        simp only [show ¬ ((-1 : Int) = 1 ∨ (1 : Int) = 0) by decide, show ¬ ((-1 : Int) = 0) by decide, if_false]
        have key : u * u - v * v * r ≤ 0 ↔ 0 ≤ u + k := by
          constructor
          · intro h
            by_cases c : 0 ≤ u + k
            · exact c
            · have := sq_le (a := k + 1) (b := -u) (by omega) (by omega)
              rw [Int.neg_mul_neg] at this
              omega
          · intro h
            have := sq_le (a := -u) (b := k) (by omega) (by omega)
            rw [Int.neg_mul_neg] at this
            omega
        rw [← key]
        unfold sg
        split
        · omega
        · split <;> omega
      · have e2 : u = 0 := by omega
        subst e2
        have : sg 0 = 0 := rfl
        simp only [this, show ¬ ((0 : Int) = 1 ∨ (1 : Int) = 0) by decide, if_true, if_false]
        omega
/-- where v is below 0: by the least c whose square is not below -/
theorem sign_lt {u v r c : Int} (hv : v < 0) (hr : 0 ≤ r) (c0 : 0 ≤ c) (c1 : v * v * r ≤ c * c) (c2 : c = 0 ∨ (c - 1) * (c - 1) < v * v * r) : 0 ≤ signOne u v r ↔ c ≤ u := by
  unfold signOne
  by_cases hz : r = 0
  · subst hz
    have ec : c = 0 := by
      rcases c2 with h | h
      · exact h
      · have := sq_nn (c - 1)
        rw [Int.mul_zero] at h
        omega
    rw [Int.mul_zero, ec]
    have : sg 0 = 0 := rfl
    rw [this]
    simp only [or_true, if_true]
    unfold sg
    split
    · omega
    · split <;> omega
  · have hp : v * r < 0 := Int.mul_neg_of_neg_of_pos hv (by omega)
    have vv : 0 < v * v := Int.mul_pos_of_neg_of_neg hv hv
    have R0 : 0 < v * v * r := Int.mul_pos vv (by omega)
    have cp : 0 < c := by
      by_cases z : c = 0
      · subst z; omega
      · omega
    have e1 : sg (v * r) = -1 := by unfold sg; rw [if_neg (by omega), if_pos hp]
    rw [e1]
    by_cases h1 : 0 < u
    · have e2 : sg u = 1 := by unfold sg; rw [if_pos h1]
      rw [e2]
      simp only [show ¬ ((1 : Int) = -1 ∨ (-1 : Int) = 0) by decide, show ¬ ((1 : Int) = 0) by decide, if_false]
      have key : 0 ≤ u * u - v * v * r ↔ c ≤ u := by
        constructor
        · intro h
          by_cases z : c ≤ u
          · exact z
          · rcases c2 with q | q
            · omega
            · have := sq_le (a := u) (b := c - 1) (by omega) (by omega)
              omega
        · intro h
          have := sq_le (a := c) (b := u) (by omega) h
          omega
      rw [← key]
      unfold sg
      split
      · omega
      · split <;> omega
    · by_cases h2 : u < 0
      · have e2 : sg u = -1 := by unfold sg; rw [if_neg h1, if_pos h2]
        rw [e2]
        simp only [true_or, if_true]
        omega
      · have e2 : u = 0 := by omega
        subst e2
        have : sg 0 = 0 := rfl
        simp only [this, show ¬ ((0 : Int) = -1 ∨ (-1 : Int) = 0) by decide, if_true, if_false]
        omega
theorem flo_law {p q r s k : Int} (r0 : 0 ≤ r) (s0 : 0 < s) (k0 : 0 ≤ k) (k1 : k * k ≤ q * q * r) (k2 : q * q * r < (k + 1) * (k + 1)) :
    0 ≤ lawSign (p - flo p q r s k * s) q r ∧ lawSign (p - (flo p q r s k + 1) * s) q r < 0 := by
  rw [← sign_law (u := p - flo p q r s k * s) (v := q) r0, ← sign_law (u := p - (flo p q r s k + 1) * s) (v := q) r0]
  have dv : ∀ x : Int, x / s * s ≤ x ∧ x < (x / s + 1) * s := fun x => ⟨Int.ediv_mul_le x (by omega), Int.lt_ediv_add_one_mul_self x s0⟩
  unfold flo
  by_cases hq : 0 ≤ q
  · rw [if_pos hq]
    obtain ⟨h1, h2⟩ := dv (p + k)
    refine ⟨(sign_ge hq r0 k0 k1 k2).mpr (by omega), ?_⟩
    have := (sign_ge (u := p - ((p + k) / s + 1) * s) hq r0 k0 k1 k2)
    omega
  · rw [if_neg hq]
    by_cases hk : k * k < q * q * r
    · rw [if_pos hk]
      obtain ⟨h1, h2⟩ := dv (p - (k + 1))
      have c2 : k + 1 = 0 ∨ (k + 1 - 1) * (k + 1 - 1) < q * q * r := .inr (by rw [show k + 1 - 1 = k by omega]; exact hk)
      refine ⟨(sign_lt (by omega) r0 (by omega) (by omega) c2).mpr (by omega), ?_⟩
      have := (sign_lt (u := p - ((p - (k + 1)) / s + 1) * s) (v := q) (by omega) r0 (c := k + 1) (by omega) (by omega) c2)
      omega
    · rw [if_neg hk]
      obtain ⟨h1, h2⟩ := dv (p - k)
      have c2 : k = 0 ∨ (k - 1) * (k - 1) < q * q * r := by
        by_cases z : k = 0
        · exact .inl z
        · have := sq_lt (a := k - 1) (b := k) (by omega) (by omega)
          exact .inr (by omega)
      refine ⟨(sign_lt (by omega) r0 k0 (by omega) c2).mpr (by omega), ?_⟩
      have := (sign_lt (u := p - ((p - k) / s + 1) * s) (v := q) (by omega) r0 (c := k) k0 (by omega) c2)
      omega
theorem flo_sz {n : Nat} {p q r s k : Int} (hp : Sz n p) (hk : Sz n k) : Sz (n + 2) (flo p q r s k) := by
  have dv : ∀ x : Int, Sz (n + 2) x → Sz (n + 2) (x / s) := fun x h => by
    unfold Sz at *
    exact Nat.lt_of_le_of_lt (Int.natAbs_ediv_le_natAbs x s) h
  unfold flo
  split
  · exact dv _ ((hp.add hk).mono (by omega))
  · split
    · refine dv _ ?_
      unfold Sz at *
      rw [Nat.pow_add]
      omega
    · exact dv _ ((hp.sub hk).mono (by omega))
theorem below_eq {a : Nat} {p q r s f : Int} (hp : Sz a p) (hq : Sz a q) (hr : Sz a r) (hs : Sz a s) (hf : Sz a f) (la : a ≤ 3000) : m__law_below [.int f, .tup [.int p, .int q, .int r, .int s]] = .ok (.bl (decide (0 ≤ lawSign (p - f * s) q r ∧ lawSign (p - (f + 1) * s) q r < 0))) := by
  have one : Sz (a + 1) 1 := by
    have := Nat.pow_le_pow_right (show 0 < 2 by decide) (show 1 ≤ a + 1 by omega)
    unfold Sz
    omega
  have f1 : Sz (a + 2) (f + 1) := (hf.mono (by omega)).add one
  have d1 := dMul_int hf hs (by omega)
  have d2 := dMul_int f1 hs (by omega)
  have e1 := law_sign_eq (a := a + a + 3) (u := p - f * s) (v := q) (r := r) (((hp.mono (by omega)).sub (hf.mul hs)).mono (by omega)) (hq.mono (by omega)) (hr.mono (by omega)) (by omega)
  have e2 := law_sign_eq (a := a + a + 3) (u := p - (f + 1) * s) (v := q) (r := r) (((hp.mono (by omega)).sub (f1.mul hs)).mono (by omega)) (hq.mono (by omega)) (hr.mono (by omega)) (by omega)
  clear one f1 hp hq hr hs hf
  unfold m__law_below b__law_below
  walk_at "pda"
  by_cases c : 0 ≤ lawSign (p - f * s) q r <;> simp [c]
theorem one_ok {a : Nat} {p q r s : Int} (hp : Sz a p) (hq : Sz a q) (hr : Sz a r) (hs : Sz a s) (r0 : 0 ≤ r) (s0 : 0 < s) (la : a ≤ 500) : ∃ f, m_floor_of [.tup [.int p, .int q, .int r, .int s]] = .ok f ∧ m__law_below [f, .tup [.int p, .int q, .int r, .int s]] = .ok (.bl true) := by
  obtain ⟨k, e, k0, k1, k2⟩ := floor_eq hp hq hr hs r0 s0 (by omega)
  have z := (hq.mul hq).mul hr
  have n0 : 0 ≤ q * q * r := Int.mul_nonneg (sq_nn q) r0
  have sk : Sz (a + a + a) k := by
    have : k ≤ q * q * r := by
      by_cases c : k = 0
      · omega
      · have := Int.mul_le_mul_of_nonneg_left (show 1 ≤ k by omega) k0
        omega
    unfold Sz at z ⊢
    omega
  have sf := flo_sz (q := q) (r := r) (s := s) (hp.mono (show a ≤ a + a + a by omega)) sk
  refine ⟨_, e, ?_⟩
  rw [below_eq (a := a + a + a + 2) (hp.mono (by omega)) (hq.mono (by omega)) (hr.mono (by omega)) (hs.mono (by omega)) sf (by omega)]
  rw [decide_eq_true (flo_law r0 s0 k0 k1 k2)]
theorem turn14 : ∀ (xs : List D), (∀ x ∈ xs, Num x) → ∀ z a b c d e f, ∃ a' b' c' d' e' f', forL (gN 1) b_law_1 xs [z, a, b, c, d, e, f] = .nx [z, a', b', c', d', e', f'] := by
  intro xs
  induction xs with
  | nil => intro _ z a b c d e f; exact ⟨a, b, c, d, e, f, rfl⟩
  | cons x xs ih =>
    intro hx z a b c d e f
    have ih' := ih (fun y hy => hx y (List.mem_cons_of_mem _ hy)) z
    obtain ⟨p, q, r, s, rfl, r0, s0, sp, sq, sr, ss⟩ := hx x List.mem_cons_self
    obtain ⟨f1, e1, e2⟩ := one_ok sp sq sr ss r0 s0 (by decide)
    have d1 := dMul_int sr sr (by decide)
    have t4 := mkTup_4 (.int p) (.int q) (.int (r * r)) (.int s)
    have q1 := p14
    clear ih hx
    rw [forL_cons]
    generalize forL (gN 1) b_law_1 xs = R at *
    by_cases c : r < 100000000000000
    · obtain ⟨f2, e3, e4⟩ := one_ok (a := 240) (sp.mono (by decide)) (sq.mono (by decide)) (sr.mul sr) (ss.mono (by decide)) (sq_nn r) s0 (by decide)
      clear sp sq sr ss
      unfold b_law_1
      walk_at "pda"
      all_goals exact ih' _ _ _ _ _ _
    · clear sp sq sr ss
      unfold b_law_1
      walk_at "pda"
      all_goals exact ih' _ _ _ _ _ _
theorem law_true : ∀ ns : List Int, ns.length ≤ 63 → (∀ z ∈ ns, PySem.Builtin.Int.intBits z ≤ 1048576) → m_law [.scr ns] = .ok (.bl true) := by
  intro ns hl hb
  obtain ⟨xs, e1, _, h⟩ := numbers_eq hl hb (m := 8) (by decide)
  obtain ⟨a', b', c', d', e', f', e2⟩ := turn14 xs h (some (.scr ns)) none none none none none none
  have e1 : m__law_numbers [.scr ns, .int 0, .int 8] = .ok (.lst xs) := e1
  clear h hb hl
  unfold m_law b_law
  walk_at "pda"
end PD
open PySem PySem.W PyProof.Rows
set_option maxHeartbeats 0 in
theorem PySem.Challenge.cw_realsay_k14_the_whole_number_below_holds : PySem.Challenge.rw_realsay_k14_the_whole_number_below.Holds := by
  w_on; o_law; k_head; (case hw => w_witness2)
  k_fill
  refine L2.walk_ofB (l := PySem.Challenge.rw_realsay_k14_the_whole_number_below) (n := 63) (k := 4) (x := "_law_script") (CX := fun w => L2.CX PySem.Challenge.rw_realsay_k14_the_whole_number_below.prog w) (sp := fun w => PD.spLaw _) rfl (by decide) rfl ⟨rfl, by decide, by decide⟩ (fun w h Y => PySem.W.kIn_of Y) ?F (fun _ _ a ns hl hb _ hS => ⟨a, ns, rfl, hS, hl, hb, fun _ => rfl⟩) (fun w H s e s' h => PD.cx_no h)
  case F =>
    intro w mg fa h KX G hmg
    refine' PD.all_mk KX G hmg ?a0 ?l0 ?c0 ?k0 ?a1 ?l1 ?c1 ?k1 ?a2 ?l2 ?c2 ?k2 ?a3 ?l3 ?c3 ?k3 ?a4 ?l4 ?c4 ?k4 ?a5 ?l5 ?c5 ?k5 ?a6 ?l6 ?c6 ?k6 ?a7 ?l7 ?c7 ?k7 ?a8 ?l8 ?c8 ?k8 ?a9 ?l9 ?c9 ?k9 ?a10 ?l10 ?c10 ?k10 ?a11 ?l11 ?c11 ?k11 ?a12 ?l12 ?c12 ?k12 ?z_bool ?z_int ?z_isinstance ?z_len ?z_max ?z_min ?z_range PD.law_true
    (case a0 => k_is); (case l0 => k_is); (case c0 => k_is); (case k0 => k_is); (case a1 => k_is); (case l1 => k_is); (case c1 => k_is); (case k1 => k_is)
    (case a2 => k_is); (case l2 => k_is); (case c2 => k_is); (case k2 => k_is); (case a3 => k_is); (case l3 => k_is); (case c3 => k_is); (case k3 => k_is)
    (case a4 => k_is); (case l4 => k_is); (case c4 => k_is); (case k4 => k_is); (case a5 => k_is); (case l5 => k_is); (case c5 => k_is); (case k5 => k_is)
    (case a6 => k_is); (case l6 => k_is); (case c6 => k_is); (case k6 => k_is); (case a7 => k_is); (case l7 => k_is); (case c7 => k_is); (case k7 => k_is)
    (case a8 => k_is); (case l8 => k_is); (case c8 => k_is); (case k8 => k_is); (case a9 => k_is); (case l9 => k_is); (case c9 => k_is); (case k9 => k_is)
    (case a10 => k_is); (case l10 => k_is); (case c10 => k_is); (case k10 => k_is); (case a11 => k_is); (case l11 => k_is); (case c11 => k_is); (case k11 => k_is)
    (case a12 => k_is); (case l12 => k_is); (case c12 => k_is); (case k12 => k_is); (case z_bool => k_is); (case z_int => k_is); (case z_isinstance => k_is); (case z_len => k_is)
    (case z_max => k_is); (case z_min => k_is); (case z_range => k_is)
