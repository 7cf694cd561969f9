import PyProof.Rows.All
import Wide.All
import OpenK.AllK
import Wide.FinOn
import HandS.ForMost
import HandS.ForExc
import HandS.ExcInit
import HandS.TryMany
import HandS.ExcField
import HandS.Gcd
import HandS.Wide
import HandS.TupAny
import HandS.IsInst
import KE.KMathGC
import HandS.RaiseMore
import HandS.Head0
import HandS.Head1
import HandS.Head2
import HandS.HeadEnd
import HandS.HeadHook1
import HandS.HeadHook2
import PyProof.AutoSeq1
import PyProof.ListOps
import HandS.Style
import HandS.Deep
import HandS.Text
import HandS.DictComp
import HandS.Head3
import PySem.Challenge.RW_millbench_k22_hung_points
set_option Elab.async false
set_option linter.all false
set_option maxRecDepth 100000
set_option maxHeartbeats 4000000
/-! MV0: plain data for Python values, and how it lies in the abstract heap. -/
namespace MV
open PySem L2

/-- data that is never changed -/
inductive P where
  | non | bl (b : Bool) | int (i : Int) | str (x : Str) | tup (ps : List P) | lst (ps : List P) | dct (ks : List P) (ps : List P)
/-- data that may be owned: lists and dicts that may be changed -/
inductive D where
  | imm (p : P) | lst (ds : List D) | dct (ks : List P) (ds : List D)

abbrev AS := Addr → Prop

/-- a kind of object that may be written -/
def Mutb : HO → Prop
  | .lst _ => True
  | .dK _ => True
  | .dT _ => True
  | .set _ _ => True
  | .ins _ _ _ => True
  | _ => False
def Own (H : Hp) (a : Addr) : Prop := ∃ o, H a = some o ∧ Mutb o

def ofKey : Key → P
  | .inl i => .int i
  | .inr x => .str x
def ofKeyT (l : List Key) : P := .tup (l.map ofKey)

/-- the objects of a list that nobody changes -/
def WrL (K : PySem.W.Frag) (a : Addr) (xs : List V) : Prop :=
  ∃ (o : Obj) (its : Array Value) (n : Nat), K.lookup a = some o ∧ o.cls = .type "list" ∧ o.dict = none ∧ o.data = .seq its n ∧ its.size ≤ sizeLine ∧ Vals xs its.toList
def frzL (K : PySem.W.Frag) (Z : AS) (H : Hp) (a : Addr) (xs : List V) : Prop := (Z a ∧ Rd H a (.lst xs)) ∨ WrL K a xs
theorem frzL.sq {K : PySem.W.Frag} {Z : AS} {H : Hp} {a : Addr} {xs : List V} (h : frzL K Z H a xs) : SqL K H a xs := by
  rcases h with ⟨_, h⟩ | h
  · exact .inl h
  · exact .inr h

/-- keys ints and texts, or (behind the mark .non) tuples of these -/
def dctC (c : HO → Prop) (ks : List P) (vs : List V) : Prop :=
  (∃ kk : List Key, ks = kk.map ofKey ∧ (kk.length = vs.length ∧ kk.Nodup) ∧ c (.dK (kk.zip vs))) ∨
  (∃ kt : List (List Key), ks = .non :: kt.map ofKeyT ∧ (kt.length = vs.length ∧ kt.Nodup) ∧ c (.dT (kt.zip vs)))
theorem dctC.imp {c c' : HO → Prop} {ks : List P} {vs : List V} (h : dctC c ks vs) (f : ∀ o, Mutb o → c o → c' o) : dctC c' ks vs := by
  rcases h with ⟨kk, h1, h2, h3⟩ | ⟨kk, h1, h2, h3⟩
  · exact .inl ⟨kk, h1, h2, f _ True.intro h3⟩
  · exact .inr ⟨kk, h1, h2, f _ True.intro h3⟩

mutual
def conP (K : PySem.W.Frag) (Z : AS) (H : Hp) : P → V → Prop
  | .non, v => v = .non
  | .bl b, v => v = .bl b
  | .int i, v => v = .int i
  | .str x, v => v = .str x
  | .tup ps, v => ∃ a vs, v = .ref a ∧ SqT K H a vs ∧ conPs K Z H ps vs
  | .lst ps, v => ∃ a vs, v = .ref a ∧ frzL K Z H a vs ∧ conPs K Z H ps vs
  | .dct ks ps, v => ∃ a vs, v = .ref a ∧ Z a ∧ dctC (fun o => Rd H a o) ks vs ∧ conPs K Z H ps vs
def conPs (K : PySem.W.Frag) (Z : AS) (H : Hp) : List P → List V → Prop
  | [], vs => vs = []
  | p :: ps, vs => ∃ v r, vs = v :: r ∧ conP K Z H p v ∧ conPs K Z H ps r
end

/-- what is kept from H to H' of what stands still -/
def Stays (Z : AS) (H H' : Hp) : Prop := ∀ a o, H a = some o → (Z a ∨ ¬ Mutb o) → H' a = some o
theorem Stays.rd {Z : AS} {H H' : Hp} {a : Addr} {o : HO} (s : Stays Z H H') (h : Rd H a o) (z : Z a ∨ ¬ Mutb o) : Rd H' a o := by
  rcases h with h | ⟨ob, h⟩
  · exact .inl (s a o h z)
  · exact .inr ⟨ob, s a _ h (.inr fun q => q)⟩
theorem Stays.sqT {K : PySem.W.Frag} {Z : AS} {H H' : Hp} {a : Addr} {xs : List V} (s : Stays Z H H') (h : SqT K H a xs) : SqT K H' a xs := by
  rcases h with h | h
  · exact .inl (s.rd h (.inr fun q => q))
  · exact .inr h
theorem frzL.stay {K : PySem.W.Frag} {Z Z' : AS} {H H' : Hp} {a : Addr} {xs : List V} (s : Stays Z H H') (z : ∀ a, Z a → Z' a) (h : frzL K Z H a xs) : frzL K Z' H' a xs := by
  rcases h with ⟨h1, h2⟩ | h
  · exact .inl ⟨z a h1, s.rd h2 (.inl h1)⟩
  · exact .inr h

mutual
theorem conP.stay {K : PySem.W.Frag} {Z Z' : AS} {H H' : Hp} (s : Stays Z H H') (z : ∀ a, Z a → Z' a) : ∀ {p : P} {v : V}, conP K Z H p v → conP K Z' H' p v
  | .non, v, h => by simp only [conP] at h ⊢; exact h
  | .bl b, v, h => by simp only [conP] at h ⊢; exact h
  | .int i, v, h => by simp only [conP] at h ⊢; exact h
  | .str x, v, h => by simp only [conP] at h ⊢; exact h
  | .tup ps, v, h => by
    simp only [conP] at h ⊢
    obtain ⟨a, vs, e, h1, h2⟩ := h
    exact ⟨a, vs, e, s.sqT h1, conPs.stay s z h2⟩
  | .lst ps, v, h => by
    simp only [conP] at h ⊢
    obtain ⟨a, vs, e, h1, h2⟩ := h
    exact ⟨a, vs, e, h1.stay s z, conPs.stay s z h2⟩
  | .dct ks ps, v, h => by
    simp only [conP] at h ⊢
    obtain ⟨a, vs, e, h0, h1, h2⟩ := h
    exact ⟨a, vs, e, z a h0, h1.imp fun o _ r => s.rd r (.inl h0), conPs.stay s z h2⟩
theorem conPs.stay {K : PySem.W.Frag} {Z Z' : AS} {H H' : Hp} (s : Stays Z H H') (z : ∀ a, Z a → Z' a) : ∀ {ps : List P} {vs : List V}, conPs K Z H ps vs → conPs K Z' H' ps vs
  | [], vs, h => by simp only [conPs] at h ⊢; exact h
  | p :: ps, vs, h => by
    simp only [conPs] at h ⊢
    obtain ⟨v, r, e, h1, h2⟩ := h
    exact ⟨v, r, e, conP.stay s z h1, conPs.stay s z h2⟩
end
theorem conPs.length {K : PySem.W.Frag} {Z : AS} {H : Hp} : ∀ {ps : List P} {vs : List V}, conPs K Z H ps vs → ps.length = vs.length
  | [], vs, h => by simp only [conPs] at h; rw [h]; rfl
  | p :: ps, vs, h => by
    simp only [conPs] at h
    obtain ⟨v, r, e, h1, h2⟩ := h
    rw [e, List.length_cons, List.length_cons, conPs.length h2]

/-- the object at a, owned (true) or only read (false) -/
def cell (m : Bool) (H : Hp) (a : Addr) (o : HO) : Prop := match m with
  | true => H a = some o
  | false => H a = some o
mutual
/-- m: owned; F: a set that holds the cells -/
def rep (m : Bool) (K : PySem.W.Frag) (Z : AS) (H : Hp) : D → V → AS → Prop
  | .imm p, v, _ => conP K Z H p v
  | .lst ds, v, F => ∃ a vs, v = .ref a ∧ F a ∧ cell m H a (.lst vs) ∧ reps m K Z H ds vs (fun b => F b ∧ b ≠ a)
  | .dct ks ds, v, F => ∃ a vs, v = .ref a ∧ F a ∧ dctC (fun o => cell m H a o) ks vs ∧ reps m K Z H ds vs (fun b => F b ∧ b ≠ a)
def reps (m : Bool) (K : PySem.W.Frag) (Z : AS) (H : Hp) : List D → List V → AS → Prop
  | [], vs, _ => vs = []
  | d :: ds, vs, F => ∃ v r F1 F2, vs = v :: r ∧ (∀ b, F1 b → F b) ∧ (∀ b, F2 b → F b) ∧ (∀ b, F1 b → ¬ F2 b) ∧ rep m K Z H d v F1 ∧ reps m K Z H ds r F2
end
theorem cell.at {m : Bool} {H : Hp} {a : Addr} {o : HO} (h : cell m H a o) : H a = some o := by
  cases m <;> exact h
theorem cell.rd {m : Bool} {H : Hp} {a : Addr} {o : HO} (h : cell m H a o) : Rd H a o := .inl h.at
theorem cell.any {m : Bool} {H : Hp} {a : Addr} {o : HO} (h : H a = some o) : cell m H a o := by
  cases m <;> exact h
/-- kept also on F -/
def StaysF (Z F : AS) (H H' : Hp) : Prop := ∀ a o, H a = some o → (Z a ∨ F a ∨ ¬ Mutb o) → H' a = some o
theorem StaysF.base {Z F : AS} {H H' : Hp} (s : StaysF Z F H H') : Stays Z H H' := fun a o h z => s a o h (z.elim .inl fun q => .inr (.inr q))
theorem StaysF.sub {Z F F' : AS} {H H' : Hp} (s : StaysF Z F H H') (f : ∀ a, F' a → F a) : StaysF Z F' H H' := fun a o h z => s a o h (z.elim .inl fun q => .inr (q.elim (fun r => .inl (f a r)) .inr))
theorem StaysF.cell {Z F : AS} {H H' : Hp} {m : Bool} {a : Addr} {o : HO} (s : StaysF Z F H H') (f : F a) (h : cell m H a o) : cell m H' a o := cell.any (s a o h.at (.inr (.inl f)))
mutual
theorem rep.stay {m : Bool} {K : PySem.W.Frag} {Z Z' F F' : AS} {H H' : Hp} (s : StaysF Z F H H') (z : ∀ a, Z a → Z' a) (f : ∀ a, F a → F' a) : ∀ {d : D} {v : V}, rep m K Z H d v F → rep m K Z' H' d v F'
  | .imm p, v, h => by
    simp only [rep] at h ⊢
    exact h.stay s.base z
  | .lst ds, v, h => by
    simp only [rep] at h ⊢
    obtain ⟨a, vs, e, h1, h2, h3⟩ := h
    exact ⟨a, vs, e, f a h1, s.cell h1 h2, reps.stay (s.sub fun b q => q.1) z (fun b q => ⟨f b q.1, q.2⟩) h3⟩
  | .dct ks ds, v, h => by
    simp only [rep] at h ⊢
    obtain ⟨a, vs, e, h1, h2, h3⟩ := h
    exact ⟨a, vs, e, f a h1, h2.imp fun o _ r => s.cell h1 r, reps.stay (s.sub fun b q => q.1) z (fun b q => ⟨f b q.1, q.2⟩) h3⟩
theorem reps.stay {m : Bool} {K : PySem.W.Frag} {Z Z' F F' : AS} {H H' : Hp} (s : StaysF Z F H H') (z : ∀ a, Z a → Z' a) (f : ∀ a, F a → F' a) : ∀ {ds : List D} {vs : List V}, reps m K Z H ds vs F → reps m K Z' H' ds vs F'
  | [], vs, h => by simp only [reps] at h ⊢; exact h
  | d :: ds, vs, h => by
    simp only [reps] at h ⊢
    obtain ⟨v, r, F1, F2, e, h1, h2, h3, h4, h5⟩ := h
    exact ⟨v, r, F1, F2, e, fun b q => f b (h1 b q), fun b q => f b (h2 b q), h3, rep.stay (s.sub h1) z (fun _ q => q) h4, reps.stay (s.sub h2) z (fun _ q => q) h5⟩
end
mutual
/-- what is owned may be read -/
theorem rep.ro {m : Bool} {K : PySem.W.Frag} {Z F : AS} {H : Hp} : ∀ {d : D} {v : V}, rep m K Z H d v F → rep false K Z H d v F
  | .imm p, v, h => by simp only [rep] at h ⊢; exact h
  | .lst ds, v, h => by
    simp only [rep] at h ⊢
    obtain ⟨a, vs, e, h1, h2, h3⟩ := h
    exact ⟨a, vs, e, h1, cell.any h2.at, reps.ro h3⟩
  | .dct ks ds, v, h => by
    simp only [rep] at h ⊢
    obtain ⟨a, vs, e, h1, h2, h3⟩ := h
    exact ⟨a, vs, e, h1, h2.imp fun o _ r => cell.any r.at, reps.ro h3⟩
theorem reps.ro {m : Bool} {K : PySem.W.Frag} {Z F : AS} {H : Hp} : ∀ {ds : List D} {vs : List V}, reps m K Z H ds vs F → reps false K Z H ds vs F
  | [], vs, h => by simp only [reps] at h ⊢; exact h
  | d :: ds, vs, h => by
    simp only [reps] at h ⊢
    obtain ⟨v, r, F1, F2, e, h1, h2, h3, h4, h5⟩ := h
    exact ⟨v, r, F1, F2, e, h1, h2, h3, rep.ro h4, reps.ro h5⟩
end

/-! ### freezing: data that is given away for good -/
mutual
def frz : D → P
  | .imm p => p
  | .lst ds => .lst (frzs ds)
  | .dct ks ds => .dct ks (frzs ds)
def frzs : List D → List P
  | [] => []
  | d :: ds => frz d :: frzs ds
end
theorem frzs_eq : ∀ ds : List D, frzs ds = ds.map frz
  | [] => by simp only [frzs, List.map]
  | d :: ds => by simp only [frzs, List.map, frzs_eq ds]
mutual
theorem rep.frz {m : Bool} {K : PySem.W.Frag} {Z Z' F : AS} {H : Hp} (z : ∀ a, Z a → Z' a) (f : ∀ a, F a → Z' a) : ∀ {d : D} {v : V}, rep m K Z H d v F → conP K Z' H (MV.frz d) v
  | .imm p, v, h => by
    simp only [rep, MV.frz] at h ⊢
    exact h.stay (fun a o e _ => e) z
  | .lst ds, v, h => by
    simp only [rep, MV.frz, conP] at h ⊢
    obtain ⟨a, vs, e, h1, h2, h3⟩ := h
    exact ⟨a, vs, e, .inl ⟨f a h1, h2.rd⟩, reps.frz z (fun b q => f b q.1) h3⟩
  | .dct ks ds, v, h => by
    simp only [rep, MV.frz, conP] at h ⊢
    obtain ⟨a, vs, e, h1, h2, h3⟩ := h
    exact ⟨a, vs, e, f a h1, h2.imp fun o _ r => r.rd, reps.frz z (fun b q => f b q.1) h3⟩
theorem reps.frz {m : Bool} {K : PySem.W.Frag} {Z Z' F : AS} {H : Hp} (z : ∀ a, Z a → Z' a) (f : ∀ a, F a → Z' a) : ∀ {ds : List D} {vs : List V}, reps m K Z H ds vs F → conPs K Z' H (MV.frzs ds) vs
  | [], vs, h => by simp only [reps, MV.frzs, conPs] at h ⊢; exact h
  | d :: ds, vs, h => by
    simp only [reps, MV.frzs, conPs] at h ⊢
    obtain ⟨v, r, F1, F2, e, h1, h2, h3, h4, h5⟩ := h
    exact ⟨v, r, e, rep.frz z (fun b q => f b (h1 b q)) h4, reps.frz z (fun b q => f b (h2 b q)) h5⟩
end
end MV

set_option Elab.async false
set_option linter.all false
set_option maxRecDepth 100000
set_option maxHeartbeats 4000000
/-! MV1: slots, states, results; the data-level readings of expressions and statements. -/
namespace MV
open PySem L2

structure Exc where
  cls : Str
  fs : List (Str × P)
/-- what a name of the frame holds: nothing; owned data; owned data that must stay at the name (a parameter that is lent); data that is read only; a caught exception -/
inductive Slot where
  | no | own (d : D) | pin (d : D) | ro (d : D) | ex (e : Exc)
abbrev Sl := List Slot
/-- a value: one's own, or a look at a part of what slot x holds -/
inductive Val where
  | own (d : D) | bor (d : D) (x : Nat)
def Val.d : Val → D
  | .own d => d
  | .bor d _ => d
inductive R (α : Type) where
  | ok (a : α) (ρ : Sl) | exc (x : Exc) (ρ : Sl) | stuck
inductive SR where
  | nx (ρ : Sl) | bk (ρ : Sl) | ct (ρ : Sl) | rt (d : D) (ρ : Sl) | exc (x : Exc) (ρ : Sl) | stuck
def R.bind {α β : Type} (r : R α) (f : α → Sl → R β) : R β := match r with
  | .ok a ρ => f a ρ
  | .exc x ρ => .exc x ρ
  | .stuck => .stuck
@[simp] theorem R.bind_ok {α β : Type} (a : α) (ρ : Sl) (f : α → Sl → R β) : (R.ok a ρ).bind f = f a ρ := rfl
@[simp] theorem R.bind_exc {α β : Type} (x : Exc) (ρ : Sl) (f : α → Sl → R β) : (R.exc x ρ).bind f = .exc x ρ := rfl
@[simp] theorem R.bind_stuck {α β : Type} (f : α → Sl → R β) : (R.stuck : R α).bind f = .stuck := rfl
def R.bindS {α : Type} (r : R α) (f : α → Sl → SR) : SR := match r with
  | .ok a ρ => f a ρ
  | .exc x ρ => .exc x ρ
  | .stuck => .stuck
@[simp] theorem R.bindS_ok {α : Type} (a : α) (ρ : Sl) (f : α → Sl → SR) : (R.ok a ρ).bindS f = f a ρ := rfl
@[simp] theorem R.bindS_exc {α : Type} (x : Exc) (ρ : Sl) (f : α → Sl → SR) : (R.exc x ρ).bindS f = .exc x ρ := rfl
@[simp] theorem R.bindS_stuck {α : Type} (f : α → Sl → SR) : (R.stuck : R α).bindS f = .stuck := rfl
abbrev ME := Sl → R Val
abbrev MS := Sl → SR
abbrev FA := Nat → AS
def un (F : FA) : AS := fun a => ∃ i, F i a

/-- what is fixed: the written part, the module's names, the exception in hand (its address, class, dict) -/
structure Par where
  K : PySem.W.Frag
  mg : Str → Option Value
  I : Option (Addr × Value × Option Addr)

def excR (pm : Par) (Z : AS) (H : Hp) (e : Exc) (c : Value) (dd : Option Addr) : Prop :=
  ∃ C, pm.mg e.cls = some (.ref C) ∧ c = .ref C ∧ (e.fs ≠ [] → ∃ a fs, dd = some a ∧ H a = some (.xd fs) ∧ ∀ f p, e.fs.lookup f = some p → ∃ v, fs.lookup f = some v ∧ conP pm.K Z H p v)
theorem excR.stay {pm : Par} {Z Z' : AS} {H H' : Hp} {e : Exc} {c : Value} {dd : Option Addr} (s : Stays Z H H') (z : ∀ a, Z a → Z' a) (h : excR pm Z H e c dd) : excR pm Z' H' e c dd := by
  obtain ⟨C, h1, h2, h3⟩ := h
  refine ⟨C, h1, h2, fun n => ?_⟩
  obtain ⟨a, fs, e1, e2, e3⟩ := h3 n
  refine ⟨a, fs, e1, s a _ e2 (.inr fun q => q), fun f p q => ?_⟩
  obtain ⟨v, q1, q2⟩ := e3 f p q
  exact ⟨v, q1, q2.stay s z⟩

def slotR (pm : Par) (H : Hp) (Z S F : AS) : Slot → Option V → Prop
  | .no, _ => True
  | .own d, x => ∃ v, x = some v ∧ rep true pm.K Z H d v F
  | .pin d, x => ∃ v, x = some v ∧ rep true pm.K Z H d v F
  | .ro d, x => ∃ v, x = some v ∧ rep false pm.K Z H d v S
  | .ex e, x => ∃ a c dd, pm.I = some (a, c, dd) ∧ x = some (.ref a) ∧ excR pm Z H e c dd
theorem slotR.stay {pm : Par} {H H' : Hp} {Z Z' S F F' : AS} (s : StaysF Z (fun a => F a ∨ S a) H H') (z : ∀ a, Z a → Z' a) (f : ∀ a, F a → F' a) {sl : Slot} {x : Option V} (h : slotR pm H Z S F sl x) : slotR pm H' Z' S F' sl x := by
  cases sl with
  | no => exact True.intro
  | own d =>
    obtain ⟨v, e, r⟩ := h
    exact ⟨v, e, r.stay (s.sub fun _ q => .inl q) z f⟩
  | pin d =>
    obtain ⟨v, e, r⟩ := h
    exact ⟨v, e, r.stay (s.sub fun _ q => .inl q) z f⟩
  | ro d =>
    obtain ⟨v, e, r⟩ := h
    exact ⟨v, e, r.stay (s.sub fun _ q => .inr q) z fun _ q => q⟩
  | ex e =>
    obtain ⟨a, c, dd, e1, e2, r⟩ := h
    exact ⟨a, c, dd, e1, e2, r.stay s.base z⟩

def at_ (σ : L2.St) (i : Nat) : Option V := (σ[i]?).join

structure Sta (pm : Par) (H : Hp) (Z S : AS) (ρ : Sl) (σ : L2.St) (F : FA) : Prop where
  len : σ.length = ρ.length
  slot : ∀ (i : Nat) (s : Slot), ρ[i]? = some s → slotR pm H Z S (F i) s (at_ σ i)
  disj : ∀ i j a, F i a → F j a → i = j
  own : ∀ i a, F i a → Own H a ∧ ¬ Z a ∧ ¬ S a
  dom : ∀ a, Z a ∨ S a → H a ≠ none

structure Go (H : Hp) (Z T : AS) (H' : Hp) (Z' T' : AS) : Prop where
  keep : ∀ a o, H a = some o → ¬ T a → H' a = some o
  zm : ∀ a, Z a → Z' a
  nz : ∀ a, Z' a → Z a ∨ T a ∨ H a = none
  nt : ∀ a, T' a → T a ∨ H a = none
  dm : ∀ a, T a → H' a ≠ none
def Ex (H H' : Hp) : Prop := ∀ a o, H a = some o → H' a = some o
theorem Ex.rfl {H : Hp} : Ex H H := fun _ _ h => h
theorem Ex.trans {H H1 H2 : Hp} (a : Ex H H1) (b : Ex H1 H2) : Ex H H2 := fun x o h => b x o (a x o h)
theorem Ex.new {H : Hp} {p : Addr} {o : HO} (h : H p = none) : Ex H (upd H p o) := fun a u e => by
  rw [upd_ne (ne_of_none e h)]
  exact e
theorem Ex.staysF {Z F : AS} {H H' : Hp} (e : Ex H H') : StaysF Z F H H' := fun a o h _ => e a o h
theorem Ex.stays {Z : AS} {H H' : Hp} (e : Ex H H') : Stays Z H H' := fun a o h _ => e a o h
theorem Ex.own {H H' : Hp} {a : Addr} (e : Ex H H') (h : Own H a) : Own H' a := by
  obtain ⟨o, h1, h2⟩ := h
  exact ⟨o, e a o h1, h2⟩
theorem Own.some {H : Hp} {a : Addr} (h : Own H a) : H a ≠ none := by
  obtain ⟨o, h1, _⟩ := h
  rw [h1]
  exact fun z => nomatch z
theorem Ex.ne {H H' : Hp} {a : Addr} (e : Ex H H') (h : H a ≠ none) : H' a ≠ none := by
  cases q : H a with
  | none => exact absurd q h
  | some o => rw [e a o q]; exact fun z => nomatch z
theorem Go.rfl {H : Hp} {Z T : AS} (d : ∀ a, T a → H a ≠ none) : Go H Z T H Z T := ⟨fun _ _ h _ => h, fun _ h => h, fun _ h => .inl h, fun _ h => .inl h, d⟩
theorem Go.trans {H H1 H2 : Hp} {Z Z1 Z2 T T1 T2 : AS} (a : Go H Z T H1 Z1 T1) (b : Go H1 Z1 T1 H2 Z2 T2) : Go H Z T H2 Z2 T2 := by
  have none1 : ∀ x, H1 x = none → H x = none := fun x e => by
    cases q : H x with
    | none => exact Eq.refl none
    | some o =>
      by_cases t : T x
      · exact absurd e (a.dm x t)
      · rw [a.keep x o q t] at e
        cases e
  have t1 : ∀ x, T1 x → T x ∨ H x = none := a.nt
  refine ⟨fun x o h t => ?_, fun x h => b.zm x (a.zm x h), fun x h => ?_, fun x h => ?_, fun x t => ?_⟩
  · refine b.keep x o (a.keep x o h t) fun q => ?_
    rcases t1 x q with z | z
    · exact t z
    · rw [z] at h
      cases h
  · rcases b.nz x h with z | z | z
    · exact a.nz x z
    · exact .inr (t1 x z)
    · exact .inr (.inr (none1 x z))
  · rcases b.nt x h with z | z
    · exact t1 x z
    · exact .inr (none1 x z)
  · intro e
    have e1 := a.dm x t
    cases q : H1 x with
    | none => exact e1 q
    | some o =>
      by_cases y : T1 x
      · exact b.dm x y e
      · rw [b.keep x o q y] at e
        cases e
theorem Go.ex {H H' : Hp} {Z T : AS} (e : Ex H H') (d : ∀ a, T a → H a ≠ none) : Go H Z T H' Z T := ⟨fun a o h _ => e a o h, fun _ h => h, fun _ h => .inl h, fun _ h => .inl h, fun a t => e.ne (d a t)⟩
/-- a weaker end -/
theorem Go.less {H H' : Hp} {Z T Z' T' T'' : AS} (g : Go H Z T H' Z' T') (h : ∀ a, T'' a → T' a) : Go H Z T H' Z' T'' := ⟨g.keep, g.zm, g.nz, fun a t => g.nt a (h a t), g.dm⟩

section
variable {pm : Par} {H H' : Hp} {Z Z' S : AS} {ρ ρ' : Sl} {σ : L2.St} {F F' : FA}
theorem Sta.dm (s : Sta pm H Z S ρ σ F) : ∀ a, un F a → H a ≠ none := fun a ⟨i, h⟩ => (s.own i a h).1.some
/-- all objects kept -/
theorem Sta.ex (s : Sta pm H Z S ρ σ F) (e : Ex H H') : Sta pm H' Z S ρ σ F :=
  ⟨s.len, fun i sl h => (s.slot i sl h).stay e.staysF (fun _ q => q) fun _ q => q, s.disj, fun i a h => ⟨e.own (s.own i a h).1, (s.own i a h).2⟩, fun a h => e.ne (s.dom a h)⟩
/-- more is frozen -/
theorem Sta.zup (s : Sta pm H Z S ρ σ F) (z : ∀ a, Z a → Z' a) (n : ∀ a, Z' a → ¬ un F a) (d : ∀ a, Z' a → H a ≠ none) : Sta pm H Z' S ρ σ F :=
  ⟨s.len, fun i sl h => (s.slot i sl h).stay Ex.rfl.staysF z fun _ q => q, s.disj, fun i a h => ⟨(s.own i a h).1, fun q => n a q ⟨i, h⟩, (s.own i a h).2.2⟩, fun a h => h.elim (d a) fun q => s.dom a (.inr q)⟩
theorem Sta.goEx (s : Sta pm H Z S ρ σ F) (e : Ex H H') : Go H Z (un F) H' Z (un F) := Go.ex e s.dm
/-- what does not touch T keeps a held value -/
theorem Go.staysF {T T' G : AS} (g : Go H Z T H' Z' T') (hz : ∀ a, Z a → ¬ T a) (hT : ∀ a, T a → Own H a) (hG : ∀ a, G a → ¬ T a) : StaysF Z G H H' := fun a o h q => g.keep a o h fun t => by
  rcases q with q | q | q
  · exact hz a q t
  · exact hG a q t
  · obtain ⟨u, e, m⟩ := hT a t
    rw [h] at e
    cases e
    exact q m
theorem Sta.go_staysF (s : Sta pm H Z S ρ σ F) {T' G : AS} (g : Go H Z (un F) H' Z' T') (hG : ∀ a, G a → ¬ un F a) : StaysF Z G H H' :=
  g.staysF (fun a z ⟨i, h⟩ => (s.own i a h).2.1 z) (fun a ⟨i, h⟩ => (s.own i a h).1) hG
end

/-- a value as it lies there: G its own cells -/
def valR (pm : Par) (Z : AS) (H : Hp) (S : AS) (F : FA) : Val → V → AS → Prop
  | .own d, v, G => rep true pm.K Z H d v G ∧ ∀ a, G a → Own H a ∧ ¬ Z a ∧ ¬ S a ∧ ¬ un F a
  | .bor d x, v, G => rep false pm.K Z H d v (fun a => F x a ∨ S a) ∧ ∀ a, ¬ G a
theorem valR.view {pm : Par} {Z : AS} {H : Hp} {S : AS} {F : FA} {val : Val} {v : V} {G : AS} (h : valR pm Z H S F val v G) : rep false pm.K Z H val.d v (fun _ => True) := by
  cases val with
  | own d => exact (h.1.ro).stay Ex.rfl.staysF (fun _ q => q) fun _ _ => True.intro
  | bor d x => exact h.1.stay Ex.rfl.staysF (fun _ q => q) fun _ _ => True.intro
theorem valR.imm {pm : Par} {Z : AS} {H : Hp} {S : AS} {F : FA} {p : P} {v : V} (h : conP pm.K Z H p v) : valR pm Z H S F (.own (.imm p)) v (fun _ => False) := by
  refine ⟨?_, fun a q => q.elim⟩
  simp only [rep]
  exact h

/-- what is lent, and what is read only, stays at its name (the slots' values are the same) -/
def KeepE (ρ ρ' : Sl) : Prop := ∀ i : Nat, (∀ d, ρ[i]? = some (.pin d) → ∃ d', ρ'[i]? = some (.pin d')) ∧ (∀ d, ρ[i]? = some (.ro d) → ρ'[i]? = some (.ro d)) ∧ (∀ d, ρ'[i]? = some (.ro d) → ρ[i]? = some (.ro d))
theorem KeepE.rfl {ρ : Sl} : KeepE ρ ρ := fun i => ⟨fun d h => ⟨d, h⟩, fun d h => h, fun d h => h⟩
theorem KeepE.trans {ρ ρ1 ρ2 : Sl} (a : KeepE ρ ρ1) (b : KeepE ρ1 ρ2) : KeepE ρ ρ2 := fun i => ⟨fun d h => by
    obtain ⟨d1, h1⟩ := (a i).1 d h
    exact (b i).1 d1 h1, fun d h => (b i).2.1 d ((a i).2.1 d h), fun d h => (a i).2.2 d ((b i).2.2 d h)⟩
structure OkE (pm : Par) (S : AS) (σ : L2.St) (q : Bool) (H : Hp) (Z : AS) (F : FA) (ρ : Sl) (val : Val) (ρ' : Sl) (v : V) (H' : Hp) (Z' : AS) (F' : FA) (G : AS) : Prop where
  sta : Sta pm H' Z' S ρ' σ F'
  val : valR pm Z' H' S F' val v G
  go : Go H Z (un F) H' Z' (fun a => un F' a ∨ G a)
  qt : q = true → Ex H H' ∧ F' = F
  kp : KeepE ρ ρ'
structure XcE (pm : Par) (S : AS) (σ : L2.St) (H : Hp) (Z : AS) (F : FA) (ρ : Sl) (x : Exc) (ρ' : Sl) (c : Value) (dd : Option Addr) (H' : Hp) (Z' : AS) (F' : FA) : Prop where
  sta : Sta pm H' Z' S ρ' σ F'
  exc : excR pm Z' H' x c dd
  go : Go H Z (un F) H' Z' (un F')
  kp : KeepE ρ ρ'

def postE (pm : Par) (W : WX) (S : AS) (σ : L2.St) (q : Bool) (H : Hp) (Z : AS) (F : FA) (ρ : Sl) (Q : VK) : R Val → Prop
  | .ok val ρ' => ∀ v H' Z' F' G, OkE pm S σ q H Z F ρ val ρ' v H' Z' F' G → Q v H'
  | .exc x ρ' => ∀ c dd H' Z' F', XcE pm S σ H Z F ρ x ρ' c dd H' Z' F' → W c dd σ H'
  | .stuck => False
def tE (pm : Par) (W : WX) (q : Bool) (m : ME) : TE := fun σ H Q => ∃ ρ Z S F, Sta pm H Z S ρ σ F ∧ postE pm W S σ q H Z F ρ Q (m ρ)

/-- the judgement of an expression -/
def DE (X : Cx) (I : Option (Addr × Value × Option Addr)) (W : WX) (q : Bool) (e : Expr) (m : ME) : Prop := PE X e (tE ⟨X.K, X.mg, I⟩ W q m)
theorem PE.imp {X : Cx} {e : Expr} {t t' : TE} (h : PE X e t) (f : ∀ σ H Q, t' σ H Q → t σ H Q) : PE X e t' := ⟨fun pins s σ H Q I q => h.run pins s σ H Q I (f σ H Q q)⟩

/-- an immediate end: nothing done but objects made -/
theorem postE.done {pm : Par} {W : WX} {S : AS} {σ : L2.St} {q : Bool} {H H' : Hp} {Z : AS} {F : FA} {Q : VK} {ρ : Sl} {p : P} {v : V} (s : Sta pm H Z S ρ σ F) (h : postE pm W S σ q H Z F ρ Q (.ok (.own (.imm p)) ρ)) (e : Ex H H') (c : conP pm.K Z H' p v) : Q v H' :=
  h v H' Z F (fun _ => False) ⟨s.ex e, valR.imm c, (s.goEx e).less fun a t => t.elim id False.elim, fun _ => ⟨e, Eq.refl F⟩, KeepE.rfl⟩

/-- one operand, then k of its value: what the reading of the operand asks -/
theorem tE.bind {pm : Par} {W : WX} {q qa : Bool} {ma : ME} {k : Val → Sl → R Val} {σ : L2.St} {H : Hp} {Q : VK} {Q1 : VK} (h : tE pm W q (fun ρ => (ma ρ).bind k) σ H Q)
    (hk : ∀ (Z S : AS) (F : FA) (ρ : Sl) (val : Val) (ρ1 : Sl) (v : V) (H1 : Hp) (Z1 : AS) (F1 : FA) (G : AS), OkE pm S σ qa H Z F ρ val ρ1 v H1 Z1 F1 G → postE pm W S σ q H Z F ρ Q (k val ρ1) → Q1 v H1) : tE pm W qa ma σ H Q1 := by
  obtain ⟨ρ, Z, S, F, s, h⟩ := h
  refine ⟨ρ, Z, S, F, s, ?_⟩
  have h : postE pm W S σ q H Z F ρ Q ((ma ρ).bind k) := h
  revert h
  cases ma ρ with
  | ok val ρ1 => exact fun h v H1 Z1 F1 G ok => hk Z S F ρ val ρ1 v H1 Z1 F1 G ok h
  | exc x ρ1 => exact fun h => h
  | stuck => exact fun h => h
end MV

set_option Elab.async false
set_option linter.all false
set_option maxRecDepth 100000
set_option maxHeartbeats 4000000
/-! MV2: expressions: constants, names, operators, argument lists, displays, built-in functions. -/
namespace MV
open PySem L2 PyProof.Rows

/-- two steps, what was held stays held -/
theorem Go.cut {H H1 H2 : Hp} {Z Z1 Z2 T T1 T1' T2 T' : AS} (a : Go H Z T H1 Z1 T1') (b : Go H1 Z1 T1 H2 Z2 T2) (h1 : ∀ a, T1 a → T1' a) (h2 : ∀ a, T' a → T2 a ∨ T1' a) : Go H Z T H2 Z2 T' := by
  have g := (a.less h1).trans b
  refine ⟨g.keep, g.zm, g.nz, fun x t => ?_, g.dm⟩
  rcases h2 x t with q | q
  · exact g.nt x q
  · exact a.nt x q

/-- a new value over H: what is wanted of it -/
def Fresh (K : PySem.W.Frag) (Z : AS) (H : Hp) (d : D) (Q : VK) : Prop := ∀ v H' G, Ex H H' → rep true K Z H' d v G → (∀ a, G a → H a = none ∧ Own H' a) → Q v H'
theorem Fresh.imm {K : PySem.W.Frag} {Z : AS} {H H' : Hp} {p : P} {Q : VK} {v : V} (f : Fresh K Z H (.imm p) Q) (e : Ex H H') (c : conP K Z H' p v) : Q v H' :=
  f v H' (fun _ => False) e (by simp only [rep]; exact c) fun _ q => q.elim
theorem Fresh.here {K : PySem.W.Frag} {Z : AS} {H : Hp} {p : P} {Q : VK} {v : V} (f : Fresh K Z H (.imm p) Q) (c : conP K Z H p v) : Q v H := f.imm Ex.rfl c
theorem Fresh.tup {K : PySem.W.Frag} {Z : AS} {H : Hp} {ps : List P} {Q : VK} {vs : List V} {p : Addr} (f : Fresh K Z H (.imm (.tup ps)) Q) (c : conPs K Z H ps vs) (hp : H p = none) : Q (.ref p) (upd H p (.tup vs)) :=
  f.imm (Ex.new hp) (by
    simp only [conP]
    exact ⟨p, vs, Eq.refl _, SqT.of upd_same, c.stay (Ex.new hp).stays fun _ q => q⟩)
theorem Fresh.lst {K : PySem.W.Frag} {Z : AS} {H : Hp} {ds : List D} {Q : VK} {vs : List V} {p : Addr} {G : AS} (f : Fresh K Z H (.lst ds) Q) (c : reps true K Z H ds vs G) (g : ∀ a, ¬ G a) (hp : H p = none) : Q (.ref p) (upd H p (.lst vs)) := by
  refine f _ _ (fun a => a = p) (Ex.new hp) ?_ fun a q => by
    subst q
    exact ⟨hp, _, upd_same, True.intro⟩
  simp only [rep]
  exact ⟨p, vs, Eq.refl _, Eq.refl _, upd_same, c.stay (Ex.new hp).staysF (fun _ q => q) fun a q => (g a q).elim⟩

section
variable {pm : Par} {W : WX} {S : AS} {σ : L2.St} {q : Bool} {H H' : Hp} {Z : AS} {F : FA} {Q : VK} {ρ ρ0 : Sl}
theorem Sta.fresh_none (s : Sta pm H Z S ρ σ F) {a : Addr} (h : H a = none) : ¬ Z a ∧ ¬ S a ∧ ¬ un F a :=
  ⟨fun z => s.dom a (.inl z) h, fun z => s.dom a (.inr z) h, fun z => s.dm a z h⟩
theorem postE.fresh {d : D} (s : Sta pm H Z S ρ σ F) (h : postE pm W S σ q H Z F ρ Q (.ok (.own d) ρ)) : Fresh pm.K Z H d Q := fun v H' G e r g =>
  h v H' Z F G ⟨s.ex e, ⟨r, fun a x => ⟨(g a x).2, s.fresh_none (g a x).1⟩⟩, ⟨fun a o h _ => e a o h, fun _ x => x, fun _ x => .inl x, fun a t => t.elim .inl fun x => .inr (g a x).1, fun a t => e.ne (s.dm a t)⟩, fun _ => ⟨e, Eq.refl F⟩, KeepE.rfl⟩
/-- .. seen from an earlier state -/
theorem postE.freshAt {H1 : Hp} {Z1 : AS} {F1 : FA} {T1 : AS} {d : D} (s : Sta pm H1 Z1 S ρ σ F1) (g : Go H Z (un F) H1 Z1 T1) (ht : ∀ a, un F1 a → T1 a) (e : q = true → Ex H H1 ∧ F1 = F) (kp : KeepE ρ0 ρ) (h : postE pm W S σ q H Z F ρ0 Q (.ok (.own d) ρ)) : Fresh pm.K Z1 H1 d Q := fun v H' G e' r g' => by
  have b : Go H1 Z1 (un F1) H' Z1 (fun a => un F1 a ∨ G a) := ⟨fun a o h _ => e' a o h, fun _ x => x, fun _ x => .inl x, fun a t => t.elim .inl fun x => .inr (g' a x).1, fun a t => e'.ne (s.dm a t)⟩
  exact h v H' Z1 F1 G ⟨s.ex e', ⟨r, fun a x => ⟨(g' a x).2, s.fresh_none (g' a x).1⟩⟩, g.cut b ht fun a t => .inl t, fun z => ⟨(e z).1.trans e', (e z).2⟩, kp⟩

/-! ### names and constants -/
def eC (p : P) : ME := fun ρ => .ok (.own (.imm p)) ρ
/-- a name that is read -/
def rdSlot (i : Nat) : Slot → Option Val
  | .own (.imm p) => some (.own (.imm p))
  | .pin (.imm p) => some (.own (.imm p))
  | .ro (.imm p) => some (.own (.imm p))
  | .own d => some (.bor d i)
  | .pin d => some (.bor d i)
  | .ro d => some (.bor d i)
  | _ => none
def eN (i : Nat) : ME := fun ρ => match ρ[i]? with
  | some s => (match rdSlot i s with
    | some v => .ok v ρ
    | none => .stuck)
  | none => .stuck
/-- a name whose data moves away -/
def eM (i : Nat) : ME := fun ρ => match ρ[i]? with
  | some (.own (.imm p)) => .ok (.own (.imm p)) ρ
  | some (.pin (.imm p)) => .ok (.own (.imm p)) ρ
  | some (.ro (.imm p)) => .ok (.own (.imm p)) ρ
  | some (.own d) => .ok (.own d) (ρ.set i .no)
  | _ => .stuck
theorem rep_imm {m : Bool} {K : PySem.W.Frag} {Z F : AS} {H : Hp} {p : P} {v : V} (h : rep m K Z H (.imm p) v F) : conP K Z H p v := by
  simp only [rep] at h
  exact h
theorem Sta.ok_imm {p : P} {v : V} (s : Sta pm H Z S ρ σ F) (c : conP pm.K Z H p v) : OkE pm S σ q H Z F ρ (.own (.imm p)) ρ v H Z F (fun _ => False) :=
  ⟨s, valR.imm c, (Go.rfl s.dm).less fun a t => t.elim id False.elim, fun _ => ⟨Ex.rfl, Eq.refl F⟩, KeepE.rfl⟩
theorem Sta.ok_bor {d : D} {i : Nat} {v : V} (s : Sta pm H Z S ρ σ F) (c : rep false pm.K Z H d v (fun a => F i a ∨ S a)) : OkE pm S σ q H Z F ρ (.bor d i) ρ v H Z F (fun _ => False) :=
  ⟨s, ⟨c, fun _ x => x⟩, (Go.rfl s.dm).less fun a t => t.elim id False.elim, fun _ => ⟨Ex.rfl, Eq.refl F⟩, KeepE.rfl⟩
theorem Sta.rd {i : Nat} {sl : Slot} {val : Val} (s : Sta pm H Z S ρ σ F) (h : ρ[i]? = some sl) (r : rdSlot i sl = some val) : ∃ v, σ[i]? = some (some v) ∧ OkE pm S σ q H Z F ρ val ρ v H Z F (fun _ => False) := by
  have hs := s.slot i sl h
  have get : ∀ {v : V}, at_ σ i = some v → σ[i]? = some (some v) := fun {v} e => by
    unfold at_ at e
    cases z : σ[i]? with
    | none => rw [z] at e; cases e
    | some o =>
      rw [z] at e
      cases o with
      | none => cases e
      | some w => cases e; rfl
  have up : ∀ {d : D} {v : V}, rep true pm.K Z H d v (F i) → rep false pm.K Z H d v (fun a => F i a ∨ S a) := fun r => r.ro.stay Ex.rfl.staysF (fun _ q => q) fun _ q => .inl q
  cases sl with
  | no => cases r
  | ex e => cases r
  | own d =>
    obtain ⟨v, e, c⟩ := hs
    refine ⟨v, get e, ?_⟩
    cases d with
    | imm p => cases r; exact s.ok_imm (rep_imm c)
    | lst ds => cases r; exact s.ok_bor (up c)
    | dct ks ds => cases r; exact s.ok_bor (up c)
  | pin d =>
    obtain ⟨v, e, c⟩ := hs
    refine ⟨v, get e, ?_⟩
    cases d with
    | imm p => cases r; exact s.ok_imm (rep_imm c)
    | lst ds => cases r; exact s.ok_bor (up c)
    | dct ks ds => cases r; exact s.ok_bor (up c)
  | ro d =>
    obtain ⟨v, e, c⟩ := hs
    refine ⟨v, get e, ?_⟩
    have c' : rep false pm.K Z H d v (fun a => F i a ∨ S a) := c.stay Ex.rfl.staysF (fun _ q => q) fun _ q => .inr q
    cases d with
    | imm p => cases r; exact s.ok_imm (rep_imm c)
    | lst ds => cases r; exact s.ok_bor c'
    | dct ks ds => cases r; exact s.ok_bor c'
/-- slot i without its cells -/
def clr (F : FA) (i : Nat) : FA := fun j a => j ≠ i ∧ F j a
theorem Sta.take {i : Nat} (s : Sta pm H Z S ρ σ F) : Sta pm H Z S (ρ.set i .no) σ (clr F i) := by
  refine ⟨by rw [List.length_set]; exact s.len, fun j sl h => ?_, fun j k a h1 h2 => s.disj j k a h1.2 h2.2, fun j a h => s.own j a h.2, s.dom⟩
  by_cases e : j = i
  · subst e
    by_cases l : j < ρ.length
    · rw [List.getElem?_set_self l] at h
      cases h
      exact True.intro
    · rw [List.getElem?_eq_none (by rw [List.length_set]; omega)] at h
      cases h
  · rw [List.getElem?_set_ne (Ne.symm e)] at h
    exact (s.slot j sl h).stay Ex.rfl.staysF (fun _ q => q) fun a q => ⟨e, q⟩
theorem KeepE.set {i : Nat} {d : D} {sl : Slot} (h : ρ[i]? = some (.own d)) (hs : ∀ d, sl ≠ .ro d) : KeepE ρ (ρ.set i sl) := fun j => by
  by_cases e : j = i
  · subst e
    rw [h]
    refine ⟨fun d q => (by cases q), fun d q => (by cases q), fun d q => ?_⟩
    rw [List.getElem?_set_self (List.getElem?_eq_some_iff.mp h).1] at q
    exact absurd (Option.some.inj q) (hs d)
  · rw [List.getElem?_set_ne (Ne.symm e)]
    exact ⟨fun d q => ⟨d, q⟩, fun d q => q, fun d q => q⟩
theorem Sta.mv {i : Nat} {d : D} (s : Sta pm H Z S ρ σ F) (h : ρ[i]? = some (.own d)) : ∃ v, σ[i]? = some (some v) ∧ OkE pm S σ false H Z F ρ (.own d) (ρ.set i .no) v H Z (clr F i) (F i) := by
  obtain ⟨v, e, c⟩ := s.slot i _ h
  refine ⟨v, ?_, s.take, ⟨c, fun a x => ⟨(s.own i a x).1, (s.own i a x).2.1, (s.own i a x).2.2, fun ⟨j, n, y⟩ => n (s.disj j i a y x)⟩⟩, ⟨fun _ _ h _ => h, fun _ h => h, fun _ h => .inl h, fun a t => ?_, s.dm⟩, fun z => (nomatch z), KeepE.set h (fun d z => by cases z)⟩
  · unfold at_ at e
    cases z : σ[i]? with
    | none => rw [z] at e; cases e
    | some o =>
      rw [z] at e
      cases o with
      | none => cases e
      | some w => cases e; rfl
  · rcases t with ⟨j, _, y⟩ | y
    · exact .inl ⟨j, y⟩
    · exact .inl ⟨i, y⟩
end

section
variable {X : Cx} {I : Option (Addr × Value × Option Addr)} {W : WX} {q qa qb : Bool} {pos : Pos} {e a b : Expr} {m ma mb : ME}
theorem DE.name (i : Nat) {x : Str} (hN : X.N[i]? = some x := by rfl) (hv : Vis X.env.scope x := by first | exact Or.inl rfl | exact Or.inr (Or.inl rfl) | exact Or.inr (Or.inr rfl)) (hd : (x == ("__debug__" : Str)) = false := by decide)
    (hcd : (x == ("__classdict__" : Str)) = false := by decide) : DE X I W true (.Name x pos) (eN i) := by
  refine PE.imp (pe_var hN hv hd hcd) fun σ H Q h => ?_
  obtain ⟨ρ, Z, S, F, s, h⟩ := h
  unfold eN at h
  split at h
  · rename_i sl hs
    split at h
    · rename_i val hr
      obtain ⟨v, e1, ok⟩ := s.rd (q := true) hs hr
      exact ⟨v, e1, h v H Z F _ ok⟩
    · exact h.elim
  · exact h.elim
theorem DE.move (i : Nat) {x : Str} (hN : X.N[i]? = some x := by rfl) (hv : Vis X.env.scope x := by first | exact Or.inl rfl | exact Or.inr (Or.inl rfl) | exact Or.inr (Or.inr rfl)) (hd : (x == ("__debug__" : Str)) = false := by decide)
    (hcd : (x == ("__classdict__" : Str)) = false := by decide) : DE X I W false (.Name x pos) (eM i) := by
  refine PE.imp (pe_var hN hv hd hcd) fun σ H Q h => ?_
  obtain ⟨ρ, Z, S, F, s, h⟩ := h
  unfold eM at h
  split at h
  · rename_i p hs
    obtain ⟨v, e1, ok⟩ := s.rd (q := false) (val := .own (.imm p)) hs (Eq.refl _)
    exact ⟨v, e1, h v H Z F _ ok⟩
  · rename_i p hs
    obtain ⟨v, e1, ok⟩ := s.rd (q := false) (val := .own (.imm p)) hs (Eq.refl _)
    exact ⟨v, e1, h v H Z F _ ok⟩
  · rename_i p hs
    obtain ⟨v, e1, ok⟩ := s.rd (q := false) (val := .own (.imm p)) hs (Eq.refl _)
    exact ⟨v, e1, h v H Z F _ ok⟩
  · rename_i d _ hs
    obtain ⟨v, e1, ok⟩ := s.mv hs
    exact ⟨v, e1, h v H Z _ _ ok⟩
  · exact h.elim
theorem DE.const {p : P} {v : V} (h : PE X e (tC v)) (hc : ∀ Z H, conP X.K Z H p v) : DE X I W true e (eC p) := by
  refine PE.imp h fun σ H Q h => ?_
  obtain ⟨ρ, Z, S, F, s, h⟩ := h
  exact postE.done s h Ex.rfl (hc Z H)
theorem DE.int {i : Int} {j} : DE X I W true (.Constant (.int i) j pos) (eC (.int i)) := DE.const pe_int fun Z H => by simp only [conP]
theorem DE.str {x : Str} {j} : DE X I W true (.Constant (.str x) j pos) (eC (.str x)) := DE.const pe_str fun Z H => by simp only [conP]
theorem DE.bool {k : Bool} {j} : DE X I W true (.Constant (.bool k) j pos) (eC (.bl k)) := DE.const pe_bl fun Z H => by simp only [conP]
theorem DE.non {j} : DE X I W true (.Constant .none j pos) (eC .non) := DE.const pe_non fun Z H => by simp only [conP]
theorem DE.glob {x : Str} {p : P} {v : V} {u : Value} (hg : Gl X x) (hm : X.mg x = some u) (r : RelV v u) (hc : ∀ Z H, conP X.K Z H p v) (hd : (x == ("__debug__" : Str)) = false := by decide) : DE X I W true (.Name x pos) (eC p) := DE.const (pe_glob hg hm r hd) hc

/-! ### two operands -/
def okq : Val → Bool → Bool
  | .own _, _ => true
  | .bor _ _, q => q
def e2 (qb : Bool) (f : D → D → Option D) (ma mb : ME) : ME := fun ρ => (ma ρ).bind fun va ρ1 => (mb ρ1).bind fun vb ρ2 =>
  if okq va qb = true then (match f va.d vb.d with
    | some d => .ok (.own d) ρ2
    | none => .stuck) else .stuck
/-- an operation of two values, as data -/
def OpD (K : PySem.W.Frag) (r : R2) (f : D → D → Option D) : Prop := ∀ (Z : AS) (H : Hp) (d1 d2 d : D) (x y : V) (Q : VK), rep false K Z H d1 x (fun _ => True) → rep false K Z H d2 y (fun _ => True) → f d1 d2 = some d → Fresh K Z H d Q → r x y H Q

/-- the first operand, held over the second -/
theorem valR.later {pm : Par} {S : AS} {σ : L2.St} {H1 H2 : Hp} {Z1 Z2 : AS} {F1 F2 : FA} {va vb : Val} {ρ1 ρ2 : Sl} {x y : V} {G1 G2 : AS} (s1 : Sta pm H1 Z1 S ρ1 σ F1) (h1 : valR pm Z1 H1 S F1 va x G1) (ok2 : OkE pm S σ q H1 Z1 F1 ρ1 vb ρ2 y H2 Z2 F2 G2) (hq : okq va q = true) :
    rep false pm.K Z2 H2 va.d x (fun _ => True) := by
  cases va with
  | own d =>
    have st : StaysF Z1 G1 H1 H2 := s1.go_staysF ok2.go fun a g => (h1.2 a g).2.2.2
    exact (h1.1.ro).stay st ok2.go.zm fun _ _ => True.intro
  | bor d i => exact h1.1.stay (ok2.qt hq).1.staysF ok2.go.zm fun _ _ => True.intro
theorem two {pm : Par} {f : D → D → Option D} {σ : L2.St} {H : Hp} {Q : VK} (h : tE pm W (qa && qb) (e2 qb f ma mb) σ H Q) :
    tE pm W qa ma σ H fun x H1 => tE pm W qb mb σ H1 fun y H2 => ∃ Z d1 d2 d, rep false pm.K Z H2 d1 x (fun _ => True) ∧ rep false pm.K Z H2 d2 y (fun _ => True) ∧ f d1 d2 = some d ∧ Fresh pm.K Z H2 d Q := by
  refine h.bind fun Z S F ρ va ρ1 x H1 Z1 F1 G1 ok1 h1 => ?_
  refine ⟨ρ1, Z1, S, F1, ok1.sta, ?_⟩
  revert h1
  cases mb ρ1 with
  | stuck => exact fun h1 => h1
  | exc z ρ2 => exact fun h1 c dd H' Z' F' y => h1 c dd H' Z' F' ⟨y.sta, y.exc, (ok1.go.less fun a t => .inl t).trans y.go, ok1.kp.trans y.kp⟩
  | ok vb ρ2 =>
    intro h1 y H2 Z2 F2 G2 ok2
    have h1 : postE pm W S σ (qa && qb) H Z F ρ Q (if okq va qb = true then (match f va.d vb.d with
      | some d => .ok (.own d) ρ2
      | none => .stuck) else .stuck) := h1
    split at h1
    · rename_i hq
      split at h1
      · rename_i d hd
        refine ⟨Z2, va.d, vb.d, d, ok1.val.later ok1.sta ok2 hq, ok2.val.view, hd, ?_⟩
        refine postE.freshAt (T1 := fun a => un F2 a ∨ G2 a) ok2.sta ((ok1.go.less fun a t => .inl t).trans ok2.go) (fun a t => .inl t) (fun z => ?_) (ok1.kp.trans ok2.kp) h1
        obtain ⟨z1, z2⟩ := Bool.and_eq_true_iff.mp z
        exact ⟨(ok1.qt z1).1.trans (ok2.qt z2).1, (ok2.qt z2).2.trans (ok1.qt z1).2⟩
      · exact h1.elim
    · exact h1.elim
theorem tE.mono {pm : Par} {W : WX} {q : Bool} {m : ME} {σ : L2.St} {H : Hp} {Q Q' : VK} (h : tE pm W q m σ H Q) (f : ∀ v H', Q v H' → Q' v H') : tE pm W q m σ H Q' := by
  obtain ⟨ρ, Z, S, F, s, h⟩ := h
  refine ⟨ρ, Z, S, F, s, ?_⟩
  revert h
  cases m ρ with
  | stuck => exact fun h => h
  | exc z ρ2 => exact fun h => h
  | ok va ρ1 => exact fun h v H1 Z1 F1 G1 ok1 => f v H1 (h v H1 Z1 F1 G1 ok1)
theorem two_op {pm : Par} {r : R2} {f : D → D → Option D} {σ : L2.St} {H : Hp} {Q : VK} (hf : OpD pm.K r f) (h : tE pm W (qa && qb) (e2 qb f ma mb) σ H Q) : tOp r (tE pm W qa ma) (tE pm W qb mb) σ H Q :=
  (two h).mono fun x H1 h1 => h1.mono fun y H2 h2 => by
    obtain ⟨Z, d1, d2, d, c1, c2, hd, fr⟩ := h2
    exact hf Z H2 d1 d2 d x y Q c1 c2 hd fr
theorem DE.bin {op : Operator} {r : R2} {f : D → D → Option D} (ho : OpR X (binaryOp op) r) (hf : OpD X.K r f) (ha : DE X I W qa a ma) (hb : DE X I W qb b mb) : DE X I W (qa && qb) (.BinOp a op b pos) (e2 qb f ma mb) :=
  PE.imp (pe_op ho ha hb) fun σ H Q h => two_op hf h
theorem DE.cmp {op : CmpOp} {r : R2} {f : D → D → Option D} (ho : OpR X (compareOp op) r) (hf : OpD X.K r f) (ha : DE X I W qa a ma) (hb : DE X I W qb b mb) (hm : behindInMarks op b = false) : DE X I W (qa && qb) (.Compare a [op] [b] pos) (e2 qb f ma mb) :=
  PE.imp (pe_cmpR ho ha hb hm) fun σ H Q h => two_op hf h
end
end MV

set_option Elab.async false
set_option linter.all false
set_option maxRecDepth 100000
set_option maxHeartbeats 4000000
/-! MV3: tests, one-place operations, and/or/not, conditional expressions, chains; items and slices. -/
namespace MV
open PySem L2 PyProof.Rows

/-! ### tests -/
abbrev MT := Sl → R Bool
structure OkT (pm : Par) (S : AS) (σ : L2.St) (q : Bool) (H : Hp) (Z : AS) (F : FA) (ρ ρ' : Sl) (H' : Hp) (Z' : AS) (F' : FA) : Prop where
  sta : Sta pm H' Z' S ρ' σ F'
  go : Go H Z (un F) H' Z' (un F')
  qt : q = true → Ex H H' ∧ F' = F
  kp : KeepE ρ ρ'
def postT (pm : Par) (W : WX) (S : AS) (σ : L2.St) (q : Bool) (H : Hp) (Z : AS) (F : FA) (ρ : Sl) (Q : Bool → Hp → Prop) : R Bool → Prop
  | .ok b ρ' => ∀ H' Z' F', OkT pm S σ q H Z F ρ ρ' H' Z' F' → Q b H'
  | .exc x ρ' => ∀ c dd H' Z' F', XcE pm S σ H Z F ρ x ρ' c dd H' Z' F' → W c dd σ H'
  | .stuck => False
def tT (pm : Par) (W : WX) (q : Bool) (m : MT) : TT := fun σ H Q => ∃ ρ Z S F, Sta pm H Z S ρ σ F ∧ postT pm W S σ q H Z F ρ Q (m ρ)
def DT (X : Cx) (I : Option (Addr × Value × Option Addr)) (W : WX) (q : Bool) (e : Expr) (m : MT) : Prop := PT X e (tT ⟨X.K, X.mg, I⟩ W q m)
theorem PT.imp {X : Cx} {e : Expr} {t t' : TT} (h : PT X e t) (f : ∀ σ H Q, t' σ H Q → t σ H Q) : PT X e t' := ⟨fun pins s σ H Q I q => h.run pins s σ H Q I (f σ H Q q)⟩

theorem OkE.t {pm : Par} {S : AS} {σ : L2.St} {q : Bool} {H H' : Hp} {Z Z' : AS} {F F' : FA} {val : Val} {ρ ρ' : Sl} {v : V} {G : AS} (h : OkE pm S σ q H Z F ρ val ρ' v H' Z' F' G) : OkT pm S σ q H Z F ρ ρ' H' Z' F' := ⟨h.sta, h.go.less fun a t => .inl t, h.qt, h.kp⟩
theorem OkT.after {pm : Par} {S : AS} {σ : L2.St} {q q1 q2 : Bool} {H H1 H' : Hp} {Z Z1 Z' : AS} {F F1 F' : FA} {ρ ρ1 ρ' : Sl} (a : OkT pm S σ q1 H Z F ρ ρ1 H1 Z1 F1) (b : OkT pm S σ q2 H1 Z1 F1 ρ1 ρ' H' Z' F') (h1 : q = true → q1 = true) (h2 : q = true → q2 = true) : OkT pm S σ q H Z F ρ ρ' H' Z' F' :=
  ⟨b.sta, a.go.trans b.go, fun z => ⟨(a.qt (h1 z)).1.trans (b.qt (h2 z)).1, (b.qt (h2 z)).2.trans (a.qt (h1 z)).2⟩, a.kp.trans b.kp⟩
theorem OkT.afterE {pm : Par} {S : AS} {σ : L2.St} {q q1 q2 : Bool} {H H1 H' : Hp} {Z Z1 Z' : AS} {F F1 F' : FA} {ρ ρ1 ρ' : Sl} {val : Val} {v : V} {G : AS} (a : OkT pm S σ q1 H Z F ρ ρ1 H1 Z1 F1) (b : OkE pm S σ q2 H1 Z1 F1 ρ1 val ρ' v H' Z' F' G) (h1 : q = true → q1 = true) (h2 : q = true → q2 = true) : OkE pm S σ q H Z F ρ val ρ' v H' Z' F' G :=
  ⟨b.sta, b.val, a.go.trans b.go, fun z => ⟨(a.qt (h1 z)).1.trans (b.qt (h2 z)).1, (b.qt (h2 z)).2.trans (a.qt (h1 z)).2⟩, a.kp.trans b.kp⟩
theorem OkT.afterX {pm : Par} {S : AS} {σ : L2.St} {q1 : Bool} {H H1 H' : Hp} {Z Z1 Z' : AS} {F F1 F' : FA} {ρ ρ1 ρ' : Sl} {x : Exc} {c : Value} {dd : Option Addr} (a : OkT pm S σ q1 H Z F ρ ρ1 H1 Z1 F1) (b : XcE pm S σ H1 Z1 F1 ρ1 x ρ' c dd H' Z' F') : XcE pm S σ H Z F ρ x ρ' c dd H' Z' F' := ⟨b.sta, b.exc, a.go.trans b.go, a.kp.trans b.kp⟩
theorem Sta.okT {pm : Par} {S : AS} {σ : L2.St} {q : Bool} {H : Hp} {Z : AS} {F : FA} {ρ : Sl} (s : Sta pm H Z S ρ σ F) : OkT pm S σ q H Z F ρ ρ H Z F := ⟨s, Go.rfl s.dm, fun _ => ⟨Ex.rfl, Eq.refl F⟩, KeepE.rfl⟩

def truth : D → Option Bool
  | .imm .non => some false
  | .imm (.bl b) => some b
  | .imm (.int i) => some (i != 0)
  | .imm (.str x) => if x.length ≤ sizeLine then some ((x.length : Int) != 0) else none
  | .imm (.tup ps) => some (!ps.isEmpty)
  | .imm (.lst ps) => some (!ps.isEmpty)
  | .imm (.dct _ _) => none
  | .lst ds => some (!ds.isEmpty)
  | .dct _ _ => none
theorem reps.length {m : Bool} {K : PySem.W.Frag} {Z : AS} {H : Hp} : ∀ {ds : List D} {vs : List V} {F : AS}, reps m K Z H ds vs F → ds.length = vs.length
  | [], vs, F, h => by simp only [reps] at h; rw [h]; rfl
  | d :: ds, vs, F, h => by
    simp only [reps] at h
    obtain ⟨v, r, F1, F2, e, _, _, _, _, h5⟩ := h
    rw [e, List.length_cons, List.length_cons, reps.length h5]
theorem emp_eq {α β : Type} {xs : List α} {ys : List β} (h : xs.length = ys.length) : xs.isEmpty = ys.isEmpty := by
  cases xs with
  | nil => cases ys with
    | nil => rfl
    | cons => cases h
  | cons => cases ys with
    | nil => cases h
    | cons => rfl
theorem truth_ok {K : PySem.W.Frag} {Z F : AS} {H : Hp} {d : D} {v : V} {k : Bool} (r : rep false K Z H d v F) (h : truth d = some k) : TruV K v H k := by
  cases d with
  | imm p =>
    simp only [rep] at r
    cases p with
    | non => simp only [conP] at r; subst r; cases h; exact Eq.refl _
    | bl b => simp only [conP] at r; subst r; cases h; exact Eq.refl _
    | int i => simp only [conP] at r; subst r; cases h; exact Eq.refl _
    | str x =>
      simp only [conP] at r
      subst r
      have h : (if x.length ≤ sizeLine then some ((x.length : Int) != 0) else none) = some k := h
      split at h
      · rename_i z; cases h; exact ⟨z, Eq.refl _⟩
      · cases h
    | tup ps =>
      simp only [conP] at r
      obtain ⟨a, vs, e, h1, h2⟩ := r
      subst e
      cases h
      exact .inr (.inl ⟨vs, h1, by rw [emp_eq h2.length]⟩)
    | lst ps =>
      simp only [conP] at r
      obtain ⟨a, vs, e, h1, h2⟩ := r
      subst e
      cases h
      exact .inl ⟨vs, h1.sq, by rw [emp_eq h2.length]⟩
    | dct ks ps => cases h
  | lst ds =>
    simp only [rep] at r
    obtain ⟨a, vs, e, _, h1, h2⟩ := r
    subst e
    cases h
    exact .inl ⟨vs, .inl h1.rd, by rw [emp_eq h2.length]⟩
  | dct ks ds => cases h

def eTru (m : ME) : MT := fun ρ => (m ρ).bind fun v ρ1 => match truth v.d with
  | some b => .ok b ρ1
  | none => .stuck
def toB (m : ME) : MT := fun ρ => (m ρ).bind fun v ρ1 => match v with
  | .own (.imm (.bl b)) => .ok b ρ1
  | _ => .stuck
section
variable {X : Cx} {I : Option (Addr × Value × Option Addr)} {W : WX} {q qa qb qc : Bool} {pos : Pos} {e a b c : Expr} {m ma mb mc : ME} {t ta tb : MT} {pm : Par} {σ : L2.St} {H : Hp}
theorem tT.ofE {Q : Bool → Hp → Prop} (h : tT pm W q (toB m) σ H Q) : tE pm W q m σ H fun x H' => ∃ k, x = .bl k ∧ Q k H' := by
  obtain ⟨ρ, Z, S, F, s, h⟩ := h
  refine ⟨ρ, Z, S, F, s, ?_⟩
  have h : postT pm W S σ q H Z F ρ Q ((m ρ).bind fun v ρ1 => match v with
    | .own (.imm (.bl b)) => .ok b ρ1
    | _ => .stuck) := h
  revert h
  cases m ρ with
  | stuck => exact fun h => h
  | exc z ρ2 => exact fun h => h
  | ok va ρ1 =>
    intro h v H1 Z1 F1 G1 ok1
    rw [R.bind_ok] at h
    split at h
    · rename_i b
      have c := rep_imm ok1.val.1
      simp only [conP] at c
      exact ⟨b, c, h H1 Z1 F1 ok1.t⟩
    · exact h.elim
theorem DT.tru (h : DE X I W q e m) (he : ∀ whole, isTrue e X.env whole = (do let v ← whole; standAt e.pos; holding [v] (truthy v)) := by intro _; rfl) : DT X I W q e (eTru m) := by
  refine PT.imp (pt_truth h he) fun σ H Q h => ?_
  obtain ⟨ρ, Z, S, F, s, h⟩ := h
  refine ⟨ρ, Z, S, F, s, ?_⟩
  have h : postT _ W S σ q H Z F ρ Q ((m ρ).bind fun v ρ1 => match truth v.d with
    | some b => .ok b ρ1
    | none => .stuck) := h
  revert h
  cases m ρ with
  | stuck => exact fun h => h
  | exc z ρ2 => exact fun h => h
  | ok va ρ1 =>
    intro h v H1 Z1 F1 G1 ok1
    rw [R.bind_ok] at h
    split at h
    · rename_i b hb
      exact ⟨b, truth_ok ok1.val.view hb, h H1 Z1 F1 ok1.t⟩
    · exact h.elim
theorem DT.val (h : DE X I W q e m) (he : ∀ whole, isTrue e X.env whole = (do let v ← whole; standAt e.pos; holding [v] (truthy v)) := by intro _; rfl) : DT X I W q e (toB m) :=
  PT.imp (pt_val h he) fun σ H Q h => h.ofE
theorem DT.cmp {op : CmpOp} {r : R2} {f : D → D → Option D} (ho : OpR X (compareOp op) r) (hf : OpD X.K r f) (ha : DE X I W qa a ma) (hb : DE X I W qb b mb) (hm : behindInMarks op b = false) : DT X I W (qa && qb) (.Compare a [op] [b] pos) (toB (e2 qb f ma mb)) :=
  PT.imp (pt_cmpR ho ha hb hm) fun σ H Q h => two_op hf h.ofE

def tAnd' (ta tb : MT) : MT := fun ρ => (ta ρ).bind fun b ρ1 => if b = true then tb ρ1 else .ok false ρ1
def tOr' (ta tb : MT) : MT := fun ρ => (ta ρ).bind fun b ρ1 => if b = true then .ok true ρ1 else tb ρ1
def tNot' (ta : MT) : MT := fun ρ => (ta ρ).bind fun b ρ1 => .ok (!b) ρ1
def DW (X : Cx) (I : Option (Addr × Value × Option Addr)) (W : WX) (q : Bool) (e : Expr) (m : MT) : Prop := PW X e (tT ⟨X.K, X.mg, I⟩ W q m)
theorem PW.imp {X : Cx} {e : Expr} {t t' : TT} (h : PW X e t) (f : ∀ σ H Q, t' σ H Q → t σ H Q) : PW X e t' := ⟨fun wh pins s σ H Q I q => h.run wh pins s σ H Q I (f σ H Q q)⟩
theorem tT.bind {Q Q1 : Bool → Hp → Prop} {k : Bool → Sl → R Bool} (h : tT pm W q (fun ρ => (ta ρ).bind k) σ H Q)
    (hk : ∀ (Z S : AS) (F : FA) (ρ : Sl) (b : Bool) (ρ1 : Sl) (H1 : Hp) (Z1 : AS) (F1 : FA), OkT pm S σ qa H Z F ρ ρ1 H1 Z1 F1 → postT pm W S σ q H Z F ρ Q (k b ρ1) → Q1 b H1) : tT pm W qa ta σ H Q1 := by
  obtain ⟨ρ, Z, S, F, s, h⟩ := h
  refine ⟨ρ, Z, S, F, s, ?_⟩
  have h : postT pm W S σ q H Z F ρ Q ((ta ρ).bind k) := h
  revert h
  cases ta ρ with
  | ok val ρ1 => exact fun h H1 Z1 F1 ok => hk Z S F ρ val ρ1 H1 Z1 F1 ok h
  | exc x ρ1 => exact fun h => h
  | stuck => exact fun h => h
/-- the second test, seen from its own start -/
theorem postT.after {Q : Bool → Hp → Prop} {Z Z1 S : AS} {F F1 : FA} {ρ ρ1 : Sl} {H1 : Hp} {r : R Bool} (o : OkT pm S σ qa H Z F ρ ρ1 H1 Z1 F1) (h : postT pm W S σ q H Z F ρ Q r) (h1 : q = true → qa = true) (h2 : q = true → qb = true) : postT pm W S σ qb H1 Z1 F1 ρ1 Q r := by
  revert h
  cases r with
  | ok b ρ2 => exact fun h H2 Z2 F2 ok2 => h H2 Z2 F2 (o.after ok2 h1 h2)
  | exc x ρ2 => exact fun h c dd H2 Z2 F2 y => h c dd H2 Z2 F2 (o.afterX y)
  | stuck => exact fun h => h
theorem and_l {a b : Bool} (h : (a && b) = true) : a = true := (Bool.and_eq_true_iff.mp h).1
theorem and_r {a b : Bool} (h : (a && b) = true) : b = true := (Bool.and_eq_true_iff.mp h).2
theorem DW.and1 (h : DT X I W q a t) : DW X I W q (.BoolOp .And [a] pos) t := pw_and1 h
theorem DW.or1 (h : DT X I W q a t) : DW X I W q (.BoolOp .Or [a] pos) t := pw_or1 h
theorem DW.and {rest : List Expr} (ha : DT X I W qa a ta) (hb : DW X I W qb (.BoolOp .And (b :: rest) pos) tb) : DW X I W (qa && qb) (.BoolOp .And (a :: b :: rest) pos) (tAnd' ta tb) :=
  PW.imp (pw_and ha hb) fun σ H Q h => tT.bind h fun Z S F ρ k ρ1 H1 Z1 F1 ok h1 => by
    cases k with
    | true => exact ⟨ρ1, Z1, S, F1, ok.sta, postT.after ok h1 and_l and_r⟩
    | false =>
      have h2 : postT _ W S σ (qa && qb) H Z F ρ Q (.ok false ρ1) := h1
      exact h2 H1 Z1 F1 ⟨ok.sta, ok.go, fun z => ok.qt (and_l z), ok.kp⟩
theorem DW.or {rest : List Expr} (ha : DT X I W qa a ta) (hb : DW X I W qb (.BoolOp .Or (b :: rest) pos) tb) : DW X I W (qa && qb) (.BoolOp .Or (a :: b :: rest) pos) (tOr' ta tb) :=
  PW.imp (pw_or ha hb) fun σ H Q h => tT.bind h fun Z S F ρ k ρ1 H1 Z1 F1 ok h1 => by
    cases k with
    | false => exact ⟨ρ1, Z1, S, F1, ok.sta, postT.after ok h1 and_l and_r⟩
    | true =>
      have h2 : postT _ W S σ (qa && qb) H Z F ρ Q (.ok true ρ1) := h1
      exact h2 H1 Z1 F1 ⟨ok.sta, ok.go, fun z => ok.qt (and_l z), ok.kp⟩
theorem DW.dt (h : DW X I W q e t) : DT X I W q e t := PW.pt h
theorem DT.not (h : DT X I W q a t) : DT X I W q (.UnaryOp .Not a pos) (tNot' t) :=
  PT.imp (pt_not h) fun σ H Q h => tT.bind h fun Z S F ρ k ρ1 H1 Z1 F1 ok h1 => by
    have h2 : postT _ W S σ q H Z F ρ Q (.ok (!k) ρ1) := h1
    exact h2 H1 Z1 F1 ok

/-! ### values of tests, conditional expressions -/
theorem tE.bindT {Q : VK} {Q1 : Bool → Hp → Prop} {k : Bool → Sl → R Val} (h : tE pm W q (fun ρ => (ta ρ).bind k) σ H Q)
    (hk : ∀ (Z S : AS) (F : FA) (ρ : Sl) (b : Bool) (ρ1 : Sl) (H1 : Hp) (Z1 : AS) (F1 : FA), OkT pm S σ qa H Z F ρ ρ1 H1 Z1 F1 → postE pm W S σ q H Z F ρ Q (k b ρ1) → Q1 b H1) : tT pm W qa ta σ H Q1 := by
  obtain ⟨ρ, Z, S, F, s, h⟩ := h
  refine ⟨ρ, Z, S, F, s, ?_⟩
  have h : postE pm W S σ q H Z F ρ Q ((ta ρ).bind k) := h
  revert h
  cases ta ρ with
  | ok val ρ1 => exact fun h H1 Z1 F1 ok => hk Z S F ρ val ρ1 H1 Z1 F1 ok h
  | exc x ρ1 => exact fun h => h
  | stuck => exact fun h => h
theorem postE.afterT {Q : VK} {Z Z1 S : AS} {F F1 : FA} {ρ ρ1 : Sl} {H1 : Hp} {r : R Val} (o : OkT pm S σ qa H Z F ρ ρ1 H1 Z1 F1) (h : postE pm W S σ q H Z F ρ Q r) (h1 : q = true → qa = true) (h2 : q = true → qb = true) : postE pm W S σ qb H1 Z1 F1 ρ1 Q r := by
  revert h
  cases r with
  | ok b ρ2 => exact fun h v H2 Z2 F2 G ok2 => h v H2 Z2 F2 G (o.afterE ok2 h1 h2)
  | exc x ρ2 => exact fun h c dd H2 Z2 F2 y => h c dd H2 Z2 F2 (o.afterX y)
  | stuck => exact fun h => h
def eIf (t : MT) (ma mb : ME) : ME := fun ρ => (t ρ).bind fun b ρ1 => if b = true then ma ρ1 else mb ρ1
theorem DE.ite (hc : DT X I W qc c t) (ha : DE X I W qa a ma) (hb : DE X I W qb b mb) : DE X I W (qc && (qa && qb)) (.IfExp c a b pos) (eIf t ma mb) :=
  PE.imp (pe_ifExp hc ha hb) fun σ H Q h => tE.bindT h fun Z S F ρ k ρ1 H1 Z1 F1 ok h1 => by
    cases k with
    | true => exact ⟨ρ1, Z1, S, F1, ok.sta, postE.afterT ok h1 and_l fun z => and_l (and_r z)⟩
    | false => exact ⟨ρ1, Z1, S, F1, ok.sta, postE.afterT ok h1 and_l fun z => and_r (and_r z)⟩
def isBl : Val → Option Bool
  | .own (.imm (.bl b)) => some b
  | _ => none
theorem isBl_ok {Z S G : AS} {F : FA} {v : V} {val : Val} {k : Bool} (h : valR pm Z H S F val v G) (e : isBl val = some k) : v = .bl k := by
  unfold isBl at e
  split at e
  · cases e
    have c := rep_imm h.1
    simp only [conP] at c
    exact c
  · cases e
def eAnd (ma mb : ME) : ME := fun ρ => (ma ρ).bind fun v ρ1 => match isBl v with
  | some true => mb ρ1
  | some false => .ok (.own (.imm (.bl false))) ρ1
  | none => .stuck
def eOr (ma mb : ME) : ME := fun ρ => (ma ρ).bind fun v ρ1 => match isBl v with
  | some true => .ok (.own (.imm (.bl true))) ρ1
  | some false => mb ρ1
  | none => .stuck
def eNot (ma : ME) : ME := fun ρ => (ma ρ).bind fun v ρ1 => match isBl v with
  | some k => .ok (.own (.imm (.bl (!k)))) ρ1
  | none => .stuck
theorem conP_bl {K : PySem.W.Frag} {Z : AS} {H : Hp} {k : Bool} : conP K Z H (.bl k) (.bl k) := by simp only [conP]
theorem OkT.imm {Z Z1 S : AS} {F F1 : FA} {ρ ρ1 : Sl} {H1 : Hp} {p : P} {v : V} (o : OkT pm S σ qa H Z F ρ ρ1 H1 Z1 F1) (h : q = true → qa = true) (c : conP pm.K Z1 H1 p v) : OkE pm S σ q H Z F ρ (.own (.imm p)) ρ1 v H1 Z1 F1 (fun _ => False) :=
  ⟨o.sta, valR.imm c, o.go.less fun a t => t.elim id False.elim, fun z => o.qt (h z), o.kp⟩
theorem DE.and1 (h : DE X I W q a m) {op} : DE X I W q (.BoolOp op [a] pos) m := pe_one h
theorem DE.and {rest : List Expr} (ha : DE X I W qa a ma) (hb : DE X I W qb (.BoolOp .And (b :: rest) pos) mb) : DE X I W (qa && qb) (.BoolOp .And (a :: b :: rest) pos) (eAnd ma mb) :=
  PE.imp (pe_and ha hb) fun σ H Q h => tE.bind h fun Z S F ρ val ρ1 v H1 Z1 F1 G ok h1 => by
    split at h1
    · rename_i e
      exact ⟨true, isBl_ok ok.val e, ρ1, Z1, S, F1, ok.sta, postE.afterT ok.t h1 and_l and_r⟩
    · rename_i e
      exact ⟨false, isBl_ok ok.val e, h1 _ H1 Z1 F1 _ (ok.t.imm and_l conP_bl)⟩
    · exact h1.elim
theorem DE.or {rest : List Expr} (ha : DE X I W qa a ma) (hb : DE X I W qb (.BoolOp .Or (b :: rest) pos) mb) : DE X I W (qa && qb) (.BoolOp .Or (a :: b :: rest) pos) (eOr ma mb) :=
  PE.imp (pe_or ha hb) fun σ H Q h => tE.bind h fun Z S F ρ val ρ1 v H1 Z1 F1 G ok h1 => by
    split at h1
    · rename_i e
      exact ⟨true, isBl_ok ok.val e, h1 _ H1 Z1 F1 _ (ok.t.imm and_l conP_bl)⟩
    · rename_i e
      exact ⟨false, isBl_ok ok.val e, ρ1, Z1, S, F1, ok.sta, postE.afterT ok.t h1 and_l and_r⟩
    · exact h1.elim
theorem DE.not (ha : DE X I W q a m) : DE X I W q (.UnaryOp .Not a pos) (eNot m) :=
  PE.imp (pe_not ha) fun σ H Q h => tE.bind h fun Z S F ρ val ρ1 v H1 Z1 F1 G ok h1 => by
    split at h1
    · rename_i k e
      exact ⟨k, isBl_ok ok.val e, h1 _ H1 Z1 F1 _ (ok.t.imm id conP_bl)⟩
    · exact h1.elim

/-! ### one operand -/
def e1 (f : D → Option D) (ma : ME) : ME := fun ρ => (ma ρ).bind fun va ρ1 => match f va.d with
  | some d => .ok (.own d) ρ1
  | none => .stuck
def UnD (K : PySem.W.Frag) (r : V → Hp → VK → Prop) (f : D → Option D) : Prop := ∀ (Z : AS) (H : Hp) (d1 d : D) (x : V) (Q : VK), rep false K Z H d1 x (fun _ => True) → f d1 = some d → Fresh K Z H d Q → r x H Q
theorem one_op {r : V → Hp → VK → Prop} {f : D → Option D} {Q : VK} (hf : UnD pm.K r f) (h : tE pm W q (e1 f m) σ H Q) : tUn r (tE pm W q m) σ H Q :=
  tE.bind h fun Z S F ρ val ρ1 v H1 Z1 F1 G ok h1 => by
    split at h1
    · rename_i d hd
      exact hf Z1 H1 val.d d v Q ok.val.view hd (postE.freshAt ok.sta ok.go (fun a t => .inl t) ok.qt ok.kp h1)
    · exact h1.elim
theorem DE.un {op : UnaryOp} {r : V → Hp → VK → Prop} {f : D → Option D} (ho : UnR X (unaryOp op) r) (hf : UnD X.K r f) (ha : DE X I W q a m) : DE X I W q (.UnaryOp op a pos) (e1 f m) :=
  PE.imp (pe_un ho ha) fun σ H Q h => one_op hf h

/-! ### chains a < b < c -/
def eChain (qb qc : Bool) (f g : D → D → Option D) (ma mb mc : ME) : ME := fun ρ => (ma ρ).bind fun va ρ1 => (mb ρ1).bind fun vb ρ2 =>
  if okq va qb = true then (match f va.d vb.d with
    | some (.imm (.bl true)) => (mc ρ2).bind fun vc ρ3 => if okq vb qc = true then (match g vb.d vc.d with
        | some d => .ok (.own d) ρ3
        | none => .stuck) else .stuck
    | some (.imm (.bl false)) => .ok (.own (.imm (.bl false))) ρ2
    | _ => .stuck) else .stuck
theorem chain_op {r r' : R2} {f g : D → D → Option D} {Q : VK} (hf : OpD pm.K r f) (hg : OpD pm.K r' g) (h : tE pm W (qa && (qb && qc)) (eChain qb qc f g ma mb mc) σ H Q) :
    tChain r r' (tE pm W qa ma) (tE pm W qb mb) (tE pm W qc mc) σ H Q := by
  refine tE.bind h fun Z S F ρ va ρ1 x H1 Z1 F1 G1 ok1 h1 => ?_
  refine ⟨ρ1, Z1, S, F1, ok1.sta, ?_⟩
  revert h1
  cases mb ρ1 with
  | stuck => exact fun h1 => h1
  | exc z ρ2 => exact fun h1 c dd H' Z' F' y => h1 c dd H' Z' F' (ok1.t.afterX y)
  | ok vb ρ2 =>
    intro h1 y H2 Z2 F2 G2 ok2
    rw [R.bind_ok] at h1
    split at h1
    case isFalse => exact h1.elim
    rename_i hq
    have ok12 : OkT pm S σ (qa && qb) H Z F ρ ρ2 H2 Z2 F2 := ok1.t.after ok2.t and_l and_r
    split at h1
    · rename_i hfe
      refine hf Z2 H2 va.d vb.d _ x y _ (ok1.val.later ok1.sta ok2 hq) ok2.val.view hfe fun v H3 G3 e3 r3 g3 => ?_
      have c := rep_imm r3
      simp only [conP] at c
      refine ⟨true, c, ?_⟩
      show tE pm W qc mc σ H3 _
      refine ⟨ρ2, Z2, S, F2, ok2.sta.ex e3, ?_⟩
      have ok13 : OkT pm S σ (qa && qb) H Z F ρ ρ2 H3 Z2 F2 := ⟨ok2.sta.ex e3, ok12.go.trans (ok2.sta.goEx e3), fun z => ⟨(ok12.qt z).1.trans e3, (ok12.qt z).2⟩, ok12.kp⟩
      revert h1
      cases mc ρ2 with
      | stuck => exact fun h1 => h1
      | exc z ρ3 => exact fun h1 c dd H' Z' F' y => h1 c dd H' Z' F' (ok13.afterX y)
      | ok vc ρ3 =>
        intro h1 w H4 Z4 F4 G4 ok4
        rw [R.bind_ok] at h1
        split at h1
        case isFalse => exact h1.elim
        rename_i hq2
        split at h1
        · rename_i d hd
          have vy : valR pm Z2 H3 S F2 vb y G2 := by
            have hv := ok2.val
            cases vb with
            | own dd => exact ⟨hv.1.stay e3.staysF (fun _ q => q) fun _ q => q, fun a g => ⟨e3.own (hv.2 a g).1, (hv.2 a g).2⟩⟩
            | bor dd i => exact ⟨hv.1.stay e3.staysF (fun _ q => q) fun _ q => q, hv.2⟩
          have ok14 := OkT.afterE (q := qa && (qb && qc)) ok13 ok4 (fun z => Bool.and_eq_true_iff.mpr ⟨and_l z, and_l (and_r z)⟩) fun z => and_r (and_r z)
          exact hg Z4 H4 vb.d vc.d d y w Q (vy.later (ok2.sta.ex e3) ok4 hq2) ok4.val.view hd (postE.freshAt ok14.sta ok14.go (fun a t => .inl t) ok14.qt ok14.kp h1)
        · exact h1.elim
    · rename_i hfe
      refine hf Z2 H2 va.d vb.d _ x y _ (ok1.val.later ok1.sta ok2 hq) ok2.val.view hfe fun v H3 G3 e3 r3 g3 => ?_
      have c := rep_imm r3
      simp only [conP] at c
      refine ⟨false, c, ?_⟩
      show Q (.bl false) H3
      have ok13 : OkT pm S σ (qa && qb) H Z F ρ ρ2 H3 Z2 F2 := ⟨ok2.sta.ex e3, ok12.go.trans (ok2.sta.goEx e3), fun z => ⟨(ok12.qt z).1.trans e3, (ok12.qt z).2⟩, ok12.kp⟩
      exact h1 _ H3 Z2 F2 _ (OkT.imm (qa := qa && qb) ok13 (fun z => Bool.and_eq_true_iff.mpr ⟨and_l z, and_l (and_r z)⟩) conP_bl)
    · exact h1.elim
theorem DE.chain {op op' : CmpOp} {r r' : R2} {f g : D → D → Option D} (ho : OpR X (compareOp op) r) (ho' : OpR X (compareOp op') r') (hf : OpD X.K r f) (hg : OpD X.K r' g) (ha : DE X I W qa a ma) (hb : DE X I W qb b mb) (hc : DE X I W qc c mc)
    (hm : lastMarks [op, op'] [b, c] = false := by with_unfolding_all rfl) : DE X I W (qa && (qb && qc)) (.Compare a [op, op'] [b, c] pos) (eChain qb qc f g ma mb mc) :=
  PE.imp (pe_chain ho ho' ha hb hc hm) fun σ H Q h => chain_op hf hg h
theorem DT.chain {op op' : CmpOp} {r r' : R2} {f g : D → D → Option D} (ho : OpR X (compareOp op) r) (ho' : OpR X (compareOp op') r') (hf : OpD X.K r f) (hg : OpD X.K r' g) (ha : DE X I W qa a ma) (hb : DE X I W qb b mb) (hc : DE X I W qc c mc)
    (hm : lastMarks [op, op'] [b, c] = false := by with_unfolding_all rfl) : DT X I W (qa && (qb && qc)) (.Compare a [op, op'] [b, c] pos) (toB (eChain qb qc f g ma mb mc)) :=
  PT.imp (pt_chain ho ho' ha hb hc hm) fun σ H Q h => chain_op hf hg h.ofE

/-! ### items -/
/-- a name's data, asked behind the index -/
def e2N (i : Nat) (f : D → D → Option D) (mb : ME) : ME := fun ρ => match (ρ[i]?).bind (rdSlot i) with
  | none => .stuck
  | some _ => (mb ρ).bind fun vb ρ2 => match (ρ2[i]?).bind (rdSlot i) with
    | some va => (match f va.d vb.d with
      | some d => .ok (.own d) ρ2
      | none => .stuck)
    | none => .stuck
theorem twoN {i : Nat} {r : R2} {f : D → D → Option D} {Q : VK} (hf : OpD pm.K r f) (h : tE pm W q (e2N i f mb) σ H Q) : tOp r (tVar i) (tE pm W q mb) σ H Q := by
  obtain ⟨ρ, Z, S, F, s, h⟩ := h
  unfold e2N at h
  split at h
  · exact h.elim
  · rename_i va0 hv0
    obtain ⟨sl0, hs0, hr0⟩ := Option.bind_eq_some_iff.mp hv0
    obtain ⟨v, e, _⟩ := s.rd (q := true) hs0 hr0
    refine ⟨v, e, ρ, Z, S, F, s, ?_⟩
    revert h
    cases mb ρ with
    | stuck => exact fun h => h
    | exc z ρ2 => exact fun h => h
    | ok vb ρ2 =>
      intro h y H2 Z2 F2 G2 ok2
      rw [R.bind_ok] at h
      split at h
      · rename_i va hv
        obtain ⟨sl, hs, hr⟩ := Option.bind_eq_some_iff.mp hv
        obtain ⟨v2, e2, okv⟩ := ok2.sta.rd (q := true) hs hr
        rw [e] at e2
        cases e2
        split at h
        · rename_i d hd
          exact hf Z2 H2 va.d vb.d d v y Q okv.val.view ok2.val.view hd (postE.freshAt ok2.sta ok2.go (fun a t => .inl t) ok2.qt ok2.kp h)
        · exact h.elim
      · exact h.elim
theorem DE.ixN (i : Nat) {x : Str} {r : R2} {f : D → D → Option D} {p : Pos} (hr : IxR X r) (hf : OpD X.K r f) (hb : DE X I W q b mb) (hs : PlainIx b := by exact fun _ _ => rfl) (hN : X.N[i]? = some x := by rfl) (hv : Vis X.env.scope x := by first | exact Or.inl rfl | exact Or.inr (Or.inl rfl) | exact Or.inr (Or.inr rfl))
    (hd : (x == ("__debug__" : Str)) = false := by decide) (hcd : (x == ("__classdict__" : Str)) = false := by decide) : DE X I W q (.Subscript (.Name x p) b pos) (e2N i f mb) :=
  PE.imp (pe_ix hr (pe_var hN hv hd hcd) hb hs) fun σ H Q h => twoN hf h
theorem DE.ix {r : R2} {f : D → D → Option D} (hr : IxR X r) (hf : OpD X.K r f) (ha : DE X I W qa a ma) (hb : DE X I W qb b mb) (hs : PlainIx b := by exact fun _ _ => rfl) : DE X I W (qa && qb) (.Subscript a b pos) (e2 qb f ma mb) :=
  PE.imp (pe_ix hr ha hb hs) fun σ H Q h => two_op hf h
end
end MV

set_option Elab.async false
set_option linter.all false
set_option maxRecDepth 100000
set_option maxHeartbeats 4000000
/-! MV4: statements. -/
namespace MV
open PySem L2 PyProof.Rows

/-- what is lent, and what is read only, stays at its name -/
def Keep (ρ : Sl) (σ : L2.St) (ρ' : Sl) (σ' : L2.St) : Prop := ∀ i : Nat,
  (∀ d, ρ[i]? = some (.pin d) → at_ σ' i = at_ σ i ∧ ∃ d', ρ'[i]? = some (.pin d')) ∧ (∀ d, ρ[i]? = some (.ro d) → at_ σ' i = at_ σ i ∧ ρ'[i]? = some (.ro d)) ∧ (∀ d, ρ'[i]? = some (.ro d) → ρ[i]? = some (.ro d))
theorem Keep.rfl {ρ : Sl} {σ : L2.St} : Keep ρ σ ρ σ := fun i => ⟨fun d h => ⟨Eq.refl _, d, h⟩, fun d h => ⟨Eq.refl _, h⟩, fun d h => h⟩
theorem Keep.trans {ρ ρ1 ρ2 : Sl} {σ σ1 σ2 : L2.St} (a : Keep ρ σ ρ1 σ1) (b : Keep ρ1 σ1 ρ2 σ2) : Keep ρ σ ρ2 σ2 := fun i => ⟨fun d h => by
    obtain ⟨e1, d1, h1⟩ := (a i).1 d h
    obtain ⟨e2, d2, h2⟩ := (b i).1 d1 h1
    exact ⟨e2.trans e1, d2, h2⟩, fun d h => by
    obtain ⟨e1, h1⟩ := (a i).2.1 d h
    obtain ⟨e2, h2⟩ := (b i).2.1 d h1
    exact ⟨e2.trans e1, h2⟩, fun d h => (a i).2.2 d ((b i).2.2 d h)⟩
theorem KeepE.keep {ρ ρ' : Sl} {σ : L2.St} (h : KeepE ρ ρ') : Keep ρ σ ρ' σ := fun i => ⟨fun d e => ⟨Eq.refl _, (h i).1 d e⟩, fun d e => ⟨Eq.refl _, (h i).2.1 d e⟩, (h i).2.2⟩

structure OkS (pm : Par) (S : AS) (σ : L2.St) (H : Hp) (Z : AS) (F : FA) (ρ ρ' : Sl) (σ' : L2.St) (H' : Hp) (Z' : AS) (F' : FA) : Prop where
  sta : Sta pm H' Z' S ρ' σ' F'
  go : Go H Z (un F) H' Z' (un F')
  keep : Keep ρ σ ρ' σ'
structure OkR (pm : Par) (S : AS) (σ : L2.St) (H : Hp) (Z : AS) (F : FA) (ρ : Sl) (d : D) (ρ' : Sl) (v : V) (σ' : L2.St) (H' : Hp) (Z' : AS) (F' : FA) (G : AS) : Prop where
  sta : Sta pm H' Z' S ρ' σ' F'
  val : valR pm Z' H' S F' (.own d) v G
  go : Go H Z (un F) H' Z' (fun a => un F' a ∨ G a)
  keep : Keep ρ σ ρ' σ'
structure XcS (pm : Par) (S : AS) (σ : L2.St) (H : Hp) (Z : AS) (F : FA) (ρ : Sl) (x : Exc) (ρ' : Sl) (c : Value) (dd : Option Addr) (σ' : L2.St) (H' : Hp) (Z' : AS) (F' : FA) : Prop where
  sta : Sta pm H' Z' S ρ' σ' F'
  exc : excR pm Z' H' x c dd
  go : Go H Z (un F) H' Z' (un F')
  keep : Keep ρ σ ρ' σ'
def postS (pm : Par) (W : WX) (S : AS) (σ : L2.St) (H : Hp) (Z : AS) (F : FA) (ρ : Sl) (N : Ends) : SR → Prop
  | .nx ρ' => ∀ σ' H' Z' F', OkS pm S σ H Z F ρ ρ' σ' H' Z' F' → N.nx σ' H'
  | .bk ρ' => ∀ σ' H' Z' F', OkS pm S σ H Z F ρ ρ' σ' H' Z' F' → N.bk σ' H'
  | .ct ρ' => ∀ σ' H' Z' F', OkS pm S σ H Z F ρ ρ' σ' H' Z' F' → N.ct σ' H'
  | .rt d ρ' => ∀ v σ' H' Z' F' G, OkR pm S σ H Z F ρ d ρ' v σ' H' Z' F' G → N.rt v H'
  | .exc x ρ' => ∀ c dd σ' H' Z' F', XcS pm S σ H Z F ρ x ρ' c dd σ' H' Z' F' → W c dd σ' H'
  | .stuck => False
def tS (pm : Par) (W : WX) (m : MS) : TS := fun N σ H => ∃ ρ Z S F, Sta pm H Z S ρ σ F ∧ postS pm W S σ H Z F ρ N (m ρ)
def DS (X : Cx) (I : Option (Addr × Value × Option Addr)) (W : WX) (st : Stmt) (m : MS) : Prop := PS X st (tS ⟨X.K, X.mg, I⟩ W m)
def DB (X : Cx) (I : Option (Addr × Value × Option Addr)) (W : WX) (st : List Stmt) (m : MS) : Prop := PSs X st (tS ⟨X.K, X.mg, I⟩ W m)
theorem PS.imp {X : Cx} {e : Stmt} {t t' : TS} (h : PS X e t) (f : ∀ N σ H, t' N σ H → t N σ H) : PS X e t' := ⟨fun pins s σ H N I q => h.run pins s σ H N I (f N σ H q)⟩
theorem PSs.imp {X : Cx} {e : List Stmt} {t t' : TS} (h : PSs X e t) (f : ∀ N σ H, t' N σ H → t N σ H) : PSs X e t' := ⟨fun pins s σ H N I q => h.run pins s σ H N I (f N σ H q)⟩

section
variable {pm : Par} {W : WX} {S : AS} {σ σ1 σ' : L2.St} {H H1 H' : Hp} {Z Z1 Z' : AS} {F F1 F' : FA} {ρ ρ1 ρ' : Sl} {N N' : Ends} {r : SR}
theorem Sta.okS (s : Sta pm H Z S ρ σ F) : OkS pm S σ H Z F ρ ρ σ H Z F := ⟨s, Go.rfl s.dm, Keep.rfl⟩
theorem OkS.trans {ρ2 : Sl} {σ2 : L2.St} {H2 : Hp} {Z2 : AS} {F2 : FA} (a : OkS pm S σ H Z F ρ ρ1 σ1 H1 Z1 F1) (b : OkS pm S σ1 H1 Z1 F1 ρ1 ρ2 σ2 H2 Z2 F2) : OkS pm S σ H Z F ρ ρ2 σ2 H2 Z2 F2 := ⟨b.sta, a.go.trans b.go, a.keep.trans b.keep⟩
theorem OkS.transR {ρ2 : Sl} {σ2 : L2.St} {H2 : Hp} {Z2 : AS} {F2 : FA} {d : D} {v : V} {G : AS} (a : OkS pm S σ H Z F ρ ρ1 σ1 H1 Z1 F1) (b : OkR pm S σ1 H1 Z1 F1 ρ1 d ρ2 v σ2 H2 Z2 F2 G) : OkR pm S σ H Z F ρ d ρ2 v σ2 H2 Z2 F2 G := ⟨b.sta, b.val, a.go.trans b.go, a.keep.trans b.keep⟩
theorem OkS.transX {ρ2 : Sl} {σ2 : L2.St} {H2 : Hp} {Z2 : AS} {F2 : FA} {x : Exc} {c : Value} {dd : Option Addr} (a : OkS pm S σ H Z F ρ ρ1 σ1 H1 Z1 F1) (b : XcS pm S σ1 H1 Z1 F1 ρ1 x ρ2 c dd σ2 H2 Z2 F2) : XcS pm S σ H Z F ρ x ρ2 c dd σ2 H2 Z2 F2 := ⟨b.sta, b.exc, a.go.trans b.go, a.keep.trans b.keep⟩
/-- what is wanted, seen from a later state -/
theorem postS.after (o : OkS pm S σ H Z F ρ ρ1 σ1 H1 Z1 F1) (h : postS pm W S σ H Z F ρ N r) : postS pm W S σ1 H1 Z1 F1 ρ1 N r := by
  revert h
  cases r with
  | nx ρ2 => exact fun h σ2 H2 Z2 F2 q => h σ2 H2 Z2 F2 (o.trans q)
  | bk ρ2 => exact fun h σ2 H2 Z2 F2 q => h σ2 H2 Z2 F2 (o.trans q)
  | ct ρ2 => exact fun h σ2 H2 Z2 F2 q => h σ2 H2 Z2 F2 (o.trans q)
  | rt d ρ2 => exact fun h v σ2 H2 Z2 F2 G q => h v σ2 H2 Z2 F2 G (o.transR q)
  | exc x ρ2 => exact fun h c dd σ2 H2 Z2 F2 q => h c dd σ2 H2 Z2 F2 (o.transX q)
  | stuck => exact fun h => h
end

def sSeq (m1 m2 : MS) : MS := fun ρ => match m1 ρ with
  | .nx ρ1 => m2 ρ1
  | r => r
def sNx : MS := fun ρ => .nx ρ
section
variable {X : Cx} {I : Option (Addr × Value × Option Addr)} {W : WX} {q : Bool} {pos : Pos} {e c : Expr} {m : ME} {t : MT} {ms ms1 ms2 : MS} {st : Stmt} {rest : List Stmt} {pm : Par} {σ : L2.St} {H : Hp} {N : Ends}
theorem tS.seq (h : tS pm W (sSeq ms1 ms2) N σ H) : tS pm W ms1 { N with nx := tS pm W ms2 N } σ H := by
  obtain ⟨ρ, Z, S, F, s, h⟩ := h
  refine ⟨ρ, Z, S, F, s, ?_⟩
  have h : postS pm W S σ H Z F ρ N (match ms1 ρ with
    | .nx ρ1 => ms2 ρ1
    | r => r) := h
  revert h
  cases ms1 ρ with
  | nx ρ1 => exact fun h σ1 H1 Z1 F1 o => ⟨ρ1, Z1, S, F1, o.sta, h.after o⟩
  | bk ρ1 => exact fun h => h
  | ct ρ1 => exact fun h => h
  | rt d ρ1 => exact fun h => h
  | exc x ρ1 => exact fun h => h
  | stuck => exact fun h => h
theorem DB.nil : DB X I W [] sNx := PSs.imp pss_nil fun N σ H ⟨ρ, Z, S, F, s, h⟩ => h σ H Z F s.okS
theorem DB.cons (h1 : DS X I W st ms1) (h2 : DB X I W rest ms2) : DB X I W (st :: rest) (sSeq ms1 ms2) := PSs.imp (pss_cons h1 h2) fun N σ H h => tS.seq h
theorem DB.one (h1 : DS X I W st ms1) : DB X I W [st] ms1 := pss_one h1
theorem DS.pass : DS X I W (.Pass pos) sNx := PS.imp ps_pass fun N σ H ⟨ρ, Z, S, F, s, h⟩ => h σ H Z F s.okS
def sBk : MS := fun ρ => .bk ρ
def sCt : MS := fun ρ => .ct ρ
theorem DS.brk : DS X I W (.Break pos) sBk := PS.imp ps_break fun N σ H ⟨ρ, Z, S, F, s, h⟩ => h σ H Z F s.okS
theorem DS.cont : DS X I W (.Continue pos) sCt := PS.imp ps_continue fun N σ H ⟨ρ, Z, S, F, s, h⟩ => h σ H Z F s.okS
theorem DS.doc {x j} {p2 : Pos} : DS X I W (.Expr (.Constant (.str x) j pos) p2) sNx := PS.imp ps_doc fun N σ H ⟨ρ, Z, S, F, s, h⟩ => h σ H Z F s.okS

theorem tE.bindS {k : Val → Sl → SR} {Q1 : VK} {q : Bool} (h : tS pm W (fun ρ => (m ρ).bindS k) N σ H)
    (hk : ∀ (Z S : AS) (F : FA) (ρ : Sl) (val : Val) (ρ1 : Sl) (v : V) (H1 : Hp) (Z1 : AS) (F1 : FA) (G : AS), OkE pm S σ q H Z F ρ val ρ1 v H1 Z1 F1 G → postS pm W S σ H Z F ρ N (k val ρ1) → Q1 v H1) : tE pm W q m σ H Q1 := by
  obtain ⟨ρ, Z, S, F, s, h⟩ := h
  refine ⟨ρ, Z, S, F, s, ?_⟩
  have h : postS pm W S σ H Z F ρ N ((m ρ).bindS k) := h
  revert h
  cases m ρ with
  | ok val ρ1 => exact fun h v H1 Z1 F1 G ok => hk Z S F ρ val ρ1 v H1 Z1 F1 G ok h
  | exc x ρ1 => exact fun h c dd H1 Z1 F1 y => h c dd σ H1 Z1 F1 ⟨y.sta, y.exc, y.go, y.kp.keep⟩
  | stuck => exact fun h => h
theorem tT.bindS {k : Bool → Sl → SR} {Q1 : Bool → Hp → Prop} {q : Bool} (h : tS pm W (fun ρ => (t ρ).bindS k) N σ H)
    (hk : ∀ (Z S : AS) (F : FA) (ρ : Sl) (b : Bool) (ρ1 : Sl) (H1 : Hp) (Z1 : AS) (F1 : FA), OkT pm S σ q H Z F ρ ρ1 H1 Z1 F1 → postS pm W S σ H Z F ρ N (k b ρ1) → Q1 b H1) : tT pm W q t σ H Q1 := by
  obtain ⟨ρ, Z, S, F, s, h⟩ := h
  refine ⟨ρ, Z, S, F, s, ?_⟩
  have h : postS pm W S σ H Z F ρ N ((t ρ).bindS k) := h
  revert h
  cases t ρ with
  | ok val ρ1 => exact fun h H1 Z1 F1 ok => hk Z S F ρ val ρ1 H1 Z1 F1 ok h
  | exc x ρ1 => exact fun h c dd H1 Z1 F1 y => h c dd σ H1 Z1 F1 ⟨y.sta, y.exc, y.go, y.kp.keep⟩
  | stuck => exact fun h => h
theorem OkT.okS {q : Bool} {S Z Z1 : AS} {F F1 : FA} {ρ ρ1 : Sl} {H1 : Hp} (o : OkT pm S σ q H Z F ρ ρ1 H1 Z1 F1) : OkS pm S σ H Z F ρ ρ1 σ H1 Z1 F1 := ⟨o.sta, o.go, o.kp.keep⟩
theorem OkE.okS {q : Bool} {S Z Z1 : AS} {F F1 : FA} {ρ ρ1 : Sl} {H1 : Hp} {val : Val} {v : V} {G : AS} (o : OkE pm S σ q H Z F ρ val ρ1 v H1 Z1 F1 G) : OkS pm S σ H Z F ρ ρ1 σ H1 Z1 F1 := o.t.okS

/-! ### e;  return e;  if -/
def sExpr (m : ME) : MS := fun ρ => (m ρ).bindS fun _ ρ1 => .nx ρ1
theorem DS.expr (h : DE X I W q e m) (hs : swapsWith e none pos.line X.env = pure false := by rfl) : DS X I W (.Expr e pos) (sExpr m) :=
  PS.imp (ps_expr h hs) fun N σ H h => tE.bindS h fun Z S F ρ val ρ1 v H1 Z1 F1 G ok h1 => h1 σ H1 Z1 F1 ok.okS
def sRet (m : ME) : MS := fun ρ => (m ρ).bindS fun v ρ1 => match v with
  | .own d => .rt d ρ1
  | .bor _ _ => .stuck
theorem DS.ret (h : DE X I W q e m) : DS X I W (.Return (some e) pos) (sRet m) :=
  PS.imp (ps_ret h) fun N σ H h => tE.bindS h fun Z S F ρ val ρ1 v H1 Z1 F1 G ok h1 => by
    split at h1
    · exact h1 v σ H1 Z1 F1 G ⟨ok.sta, ok.val, ok.go, ok.kp.keep⟩
    · exact h1.elim
def sRetN : MS := fun ρ => .rt (.imm .non) ρ
theorem DS.retN : DS X I W (.Return none pos) sRetN := PS.imp ps_retN fun N σ H ⟨ρ, Z, S, F, s, h⟩ =>
  h .non σ H Z F (fun _ => False) ⟨s, valR.imm (by simp only [conP]), (Go.rfl s.dm).less fun a t => t.elim id False.elim, Keep.rfl⟩
def sIf (t : MT) (m1 m2 : MS) : MS := fun ρ => (t ρ).bindS fun b ρ1 => if b = true then m1 ρ1 else m2 ρ1
theorem DS.ite {a b : List Stmt} (hc : DT X I W q c t) (ha : DB X I W a ms1) (hb : DB X I W b ms2) : DS X I W (.If c a b pos) (sIf t ms1 ms2) :=
  PS.imp (ps_if hc ha hb) fun N σ H h => tT.bindS h fun Z S F ρ k ρ1 H1 Z1 F1 ok h1 => by
    cases k with
    | true => exact ⟨ρ1, Z1, S, F1, ok.sta, h1.after ok.okS⟩
    | false => exact ⟨ρ1, Z1, S, F1, ok.sta, h1.after ok.okS⟩

/-! ### names that take a value -/
def frees : Option Slot → Bool
  | some (.own _) => true
  | some .no => true
  | some (.ex _) => true
  | _ => false
def putF (F : FA) (i : Nat) (G : AS) : FA := fun j a => (j ≠ i ∧ F j a) ∨ (j = i ∧ G a)
theorem frees_lt {ρ : Sl} {i : Nat} (h : frees ρ[i]? = true) : i < ρ.length := by
  cases e : ρ[i]? with
  | none => rw [e] at h; cases h
  | some s => exact (List.getElem?_eq_some_iff.mp e).1
theorem Keep.put {ρ : Sl} {σ : L2.St} {i : Nat} {s : Slot} {x : Option V} (h : frees ρ[i]? = true) (hs : ∀ d, s ≠ .ro d := by intro d z; cases z) : Keep ρ σ (ρ.set i s) (σ.set i x) := fun j => by
  by_cases e : j = i
  · subst e
    refine ⟨fun d q => ?_, fun d q => ?_, fun d q => ?_⟩
    · rw [q] at h; cases h
    · rw [q] at h; cases h
    · rw [List.getElem?_set_self (frees_lt h)] at q
      exact absurd (Option.some.inj q) (hs d)
  · have e1 : at_ (σ.set i x) j = at_ σ j := by unfold at_; rw [List.getElem?_set_ne (Ne.symm e)]
    rw [e1, List.getElem?_set_ne (Ne.symm e)]
    exact ⟨fun d q => ⟨Eq.refl _, d, q⟩, fun d q => ⟨Eq.refl _, q⟩, fun d q => q⟩
theorem Sta.put {S Z : AS} {F : FA} {ρ : Sl} {i : Nat} {d : D} {v : V} {G : AS} (s : Sta pm H Z S ρ σ F) (h : frees ρ[i]? = true) (c : valR pm Z H S F (.own d) v G) : Sta pm H Z S (ρ.set i (.own d)) (σ.set i (some v)) (putF F i G) := by
  have hi := frees_lt h
  refine ⟨by rw [List.length_set, List.length_set]; exact s.len, fun j sl q => ?_, fun j k a h1 h2 => ?_, fun j a h1 => ?_, s.dom⟩
  · by_cases e : j = i
    · subst e
      rw [List.getElem?_set_self hi] at q
      cases q
      refine ⟨v, ?_, c.1.stay Ex.rfl.staysF (fun _ x => x) fun a x => .inr ⟨Eq.refl _, x⟩⟩
      unfold at_
      rw [List.getElem?_set_self (by rw [s.len]; exact hi)]
      rfl
    · rw [List.getElem?_set_ne (Ne.symm e)] at q
      have e1 : at_ (σ.set i (some v)) j = at_ σ j := by unfold at_; rw [List.getElem?_set_ne (Ne.symm e)]
      rw [e1]
      exact (s.slot j sl q).stay Ex.rfl.staysF (fun _ x => x) fun a x => .inl ⟨e, x⟩
  · rcases h1 with ⟨n1, h1⟩ | ⟨e1, h1⟩
    · rcases h2 with ⟨n2, h2⟩ | ⟨e2, h2⟩
      · exact s.disj j k a h1 h2
      · exact absurd ⟨j, h1⟩ (c.2 a h2).2.2.2
    · rcases h2 with ⟨n2, h2⟩ | ⟨e2, h2⟩
      · exact absurd ⟨k, h2⟩ (c.2 a h1).2.2.2
      · rw [e1, e2]
  · rcases h1 with ⟨n1, h1⟩ | ⟨e1, h1⟩
    · exact s.own j a h1
    · exact ⟨(c.2 a h1).1, (c.2 a h1).2.1, (c.2 a h1).2.2.1⟩
theorem un_put {F : FA} {i : Nat} {G : AS} {a : Addr} (h : un (putF F i G) a) : un F a ∨ G a := by
  obtain ⟨j, h⟩ := h
  rcases h with ⟨_, h⟩ | ⟨_, h⟩
  · exact .inl ⟨j, h⟩
  · exact .inr h

/-- targets: one name; a tuple of names -/
inductive Tg where
  | nm (i : Nat) | tup (is : List Nat)
def bindN : List Nat → List P → Sl → Option Sl
  | [], [], ρ => some ρ
  | i :: is, p :: ps, ρ => if frees ρ[i]? = true then bindN is ps (ρ.set i (.own (.imm p))) else none
  | _, _, _ => none
def bindG : Tg → D → Sl → Option Sl
  | .nm i, d, ρ => if frees ρ[i]? = true then some (ρ.set i (.own d)) else none
  | .tup is, .imm (.tup ps), ρ => bindN is ps ρ
  | _, _, _ => none
def gNames : List Nat → TGs
  | [] => gNil
  | i :: is => gCons (gName i) (gNames is)
def tG (K : PySem.W.Frag) : Tg → TG
  | .nm i => gName i
  | .tup is => gTup K is.length (gNames is)
structure OkG (pm : Par) (S : AS) (σ : L2.St) (H : Hp) (Z : AS) (F : FA) (ρ : Sl) (G : AS) (ρ' : Sl) (σ' : L2.St) (F' : FA) : Prop where
  sta : Sta pm H Z S ρ' σ' F'
  sub : ∀ a, un F' a → un F a ∨ G a
  keep : Keep ρ σ ρ' σ'
def Tg.slots : Tg → List Nat
  | .nm i => [i]
  | .tup is => is
theorem bindN_ok {S Z : AS} {Q : L2.St → Hp → Prop} : ∀ {is : List Nat} {ps : List P} {vs : List V} {ρ ρ' : Sl} {σ : L2.St} {F : FA}, Sta pm H Z S ρ σ F → conPs pm.K Z H ps vs → bindN is ps ρ = some ρ' →
    (∀ σ' F', OkG pm S σ H Z F ρ (fun _ => False) ρ' σ' F' → (∀ f : L2.St → L2.St, (∀ i ∈ is, ∀ x τ, f (τ.set i x) = f τ) → f σ' = f σ) → Q σ' H) → gNames is vs σ H Q
  | [], [], vs, ρ, ρ', σ, F, s, c, h, k => by
    simp only [conPs] at c
    simp only [bindN] at h
    cases h
    exact ⟨c, k σ F ⟨s, fun a t => .inl t, Keep.rfl⟩ fun f _ => rfl⟩
  | [], p :: ps, vs, ρ, ρ', σ, F, s, c, h, k => by simp only [bindN] at h; cases h
  | i :: is, [], vs, ρ, ρ', σ, F, s, c, h, k => by simp only [bindN] at h; cases h
  | i :: is, p :: ps, vs, ρ, ρ', σ, F, s, c, h, k => by
    simp only [conPs] at c
    obtain ⟨v, r, e, c1, c2⟩ := c
    simp only [bindN] at h
    split at h
    · rename_i hf
      refine ⟨v, r, e, ?_⟩
      show gNames is r (σ.set i (some v)) H Q
      refine bindN_ok (s.put hf (valR.imm c1)) c2 h fun σ' F' o out => k σ' F' ⟨o.sta, fun a t => ?_, (Keep.put hf).trans o.keep⟩ fun f hf => ?_
      · rcases o.sub a t with t | t
        · exact un_put t
        · exact .inr t
      · rw [out f fun i hi => hf i (List.mem_cons_of_mem _ hi), hf i List.mem_cons_self]
    · cases h
theorem bindG_ok {S Z : AS} {F : FA} {ρ ρ' : Sl} {tg : Tg} {d : D} {v : V} {G : AS} {Q : L2.St → Hp → Prop} (s : Sta pm H Z S ρ σ F) (c : valR pm Z H S F (.own d) v G) (h : bindG tg d ρ = some ρ')
    (k : ∀ σ' F', OkG pm S σ H Z F ρ G ρ' σ' F' → (∀ f : L2.St → L2.St, (∀ i ∈ tg.slots, ∀ x τ, f (τ.set i x) = f τ) → f σ' = f σ) → Q σ' H) : tG pm.K tg v σ H Q := by
  cases tg with
  | nm i =>
    simp only [bindG] at h
    split at h
    · rename_i hf
      cases h
      exact k _ _ ⟨s.put hf c, fun a t => un_put t, Keep.put hf⟩ fun f hf => hf i (List.mem_singleton.mpr rfl) _ _
    · cases h
  | tup is =>
    cases d with
    | imm p =>
      cases p with
      | tup ps =>
        have c1 := rep_imm c.1
        simp only [conP] at c1
        obtain ⟨a, vs, e, c2, c3⟩ := c1
        have hl : vs.length = is.length := by
          have : ∀ {is : List Nat} {ps : List P} {ρ ρ' : Sl}, bindN is ps ρ = some ρ' → is.length = ps.length := by
            intro is
            induction is with
            | nil => intro ps ρ ρ' h; cases ps with
              | nil => rfl
              | cons => simp only [bindN] at h; cases h
            | cons i is ih => intro ps ρ ρ' h; cases ps with
              | nil => simp only [bindN] at h; cases h
              | cons p ps =>
                simp only [bindN] at h
                split at h
                · rw [List.length_cons, List.length_cons, ih h]
                · cases h
          rw [← c3.length, this h]
        exact ⟨a, vs, e, c2, hl, bindN_ok s c3 h fun σ' F' o out => k σ' F' ⟨o.sta, fun a t => (o.sub a t).elim .inl False.elim, o.keep⟩ out⟩
      | _ => simp only [bindG] at h; cases h
    | _ => simp only [bindG] at h; cases h
def DG (X : Cx) (e : Expr) (tg : Tg) : Prop := PG X e (tG X.K tg)
theorem DG.nm (i : Nat) {x : Str} (hN : X.N.Nodup) (hi : X.N[i]? = some x := by rfl) (hx : Loc X.env.scope x := by first | exact Or.inl rfl | exact Or.inr rfl) (hf : X.fn x = true ∨ X.env.scope.names.lookup x = some .local := by first | exact .inl rfl | exact .inr rfl) : DG X (.Name x pos) (.nm i) := pg_name hN hi hx hf
def DGs (X : Cx) (es : List Expr) (is : List Nat) : Prop := PGs X es (gNames is)
theorem DGs.nil : DGs X [] [] := pgs_nil
theorem DGs.cons {e : Expr} {es : List Expr} {i : Nat} {is : List Nat} (h1 : DG X e (.nm i)) (h2 : DGs X es is) (hs : (assignEach (e :: es) X.env).map (·.2) = assign e X.env :: (assignEach es X.env).map (·.2) := by rfl) : DGs X (e :: es) (i :: is) := pgs_cons h1 h2 hs
theorem DG.tup {es : List Expr} {k : Nat} {is : List Nat} (hc : X.calm = true) (h : DGs X es is) (hn : (assignEach es X.env).length = is.length := by rfl) (hst : (assignEach es X.env).findIdx? (·.1) = none := by rfl) : DG X (.Tuple es k pos) (.tup is) := pg_tup hc h hn hst
def sAsg (tg : Tg) (m : ME) : MS := fun ρ => (m ρ).bindS fun v ρ1 => match v with
  | .own d => (match bindG tg d ρ1 with
    | some ρ2 => .nx ρ2
    | none => .stuck)
  | .bor _ _ => .stuck
theorem asg_ok {tg : Tg} (h : tS pm W (sAsg tg m) N σ H) : tAsg (tE pm W q m) (tG pm.K tg) N σ H :=
  tE.bindS h fun Z S F ρ val ρ1 v H1 Z1 F1 G ok h1 => by
    split at h1
    · split at h1
      · rename_i d ρ2 hb
        exact bindG_ok ok.sta ok.val hb fun σ' F' o _ => h1 σ' H1 Z1 F' ⟨o.sta, ok.go.less fun a t => (o.sub a t), ok.kp.keep.trans o.keep⟩
      · exact h1.elim
    · exact h1.elim
theorem DS.set (i : Nat) {x : Str} {p2 : Pos} (hN : X.N.Nodup) (he : DE X I W q e m) (hi : X.N[i]? = some x := by rfl) (hx : Loc X.env.scope x := by first | exact Or.inl rfl | exact Or.inr rfl) (hs : swapsWith e (some (.Name x p2)) pos.line X.env = pure false := by rfl)
    (hf : X.fn x = true ∨ X.env.scope.names.lookup x = some .local := by first | exact .inl rfl | exact .inr rfl) : DS X I W (.Assign [.Name x p2] e pos) (sAsg (.nm i) m) :=
  PS.imp (ps_set hN hi hx he hs hf) fun N σ H h => asg_ok h
theorem DS.asg {tg : Expr} {g : Tg} (he : DE X I W q e m) (hg : DG X tg g) (hs : swapsWithSole [tg] e pos.line X.env = pure false := by rfl) (hw : swappedStores [tg] e X.env = pure none := by rfl) (h1 : (assignEach [tg] X.env).map (·.2) = [assign tg X.env] := by rfl) : DS X I W (.Assign [tg] e pos) (sAsg g m) :=
  PS.imp (ps_asg he hg hs hw h1) fun N σ H h => asg_ok h

/-! ### x op= e, of plain data -/
def sAug (i : Nat) (f : D → D → Option D) (m : ME) : MS := fun ρ => match (ρ[i]?).bind (rdSlot i) with
  | some (.own (.imm p)) => (m ρ).bindS fun v ρ1 => (match f (.imm p) v.d with
    | some (.imm r) => if frees ρ1[i]? = true then .nx (ρ1.set i (.own (.imm r))) else .stuck
    | _ => .stuck)
  | _ => .stuck
theorem DS.aug (i : Nat) {x : Str} {op : Operator} {r : R2} {f : D → D → Option D} {p2 : Pos} (hN : X.N.Nodup) (ho : OpR X (inplaceOp op) r) (hf : OpD X.K r f) (he : DE X I W q e m) (hi : X.N[i]? = some x := by rfl) (hx : Loc X.env.scope x := by first | exact Or.inl rfl | exact Or.inr rfl)
    (hl : X.fn x = true ∨ X.env.scope.names.lookup x = some .local := by first | exact .inl rfl | exact .inr rfl) : DS X I W (.AugAssign (.Name x p2) op e pos) (sAug i f m) := by
  refine PS.imp (ps_aug (ti := r) hN hi hx he ho hl) fun N σ H h => ?_
  obtain ⟨ρ, Z, S, F, s, h⟩ := h
  unfold sAug at h
  split at h
  · rename_i p hp
    obtain ⟨sl0, hs0, hr0⟩ := Option.bind_eq_some_iff.mp hp
    obtain ⟨v, e, ok0⟩ := s.rd (q := true) hs0 hr0
    have cp := rep_imm ok0.val.1
    refine ⟨v, e, ρ, Z, S, F, s, ?_⟩
    revert h
    cases m ρ with
    | stuck => exact fun h => h
    | exc x ρ1 => exact fun h c dd H1 Z1 F1 y => h c dd σ H1 Z1 F1 ⟨y.sta, y.exc, y.go, y.kp.keep⟩
    | ok va ρ1 =>
      intro h y H1 Z1 F1 G ok
      rw [R.bindS_ok] at h
      split at h
      · rename_i r0 hfr
        split at h
        · rename_i hfree
          have st := s.go_staysF ok.go (G := fun _ => False) fun _ x => x.elim
          have c1 : conP X.K Z1 H1 p v := cp.stay st.base ok.go.zm
          refine hf Z1 H1 (.imm p) va.d _ v y _ (by simp only [rep]; exact c1) ok.val.view hfr fun w H2 G2 e2 r2 g2 => ?_
          have c2 := rep_imm r2
          have s2 := (ok.sta.ex e2).put hfree (valR.imm (pm := ⟨X.K, X.mg, I⟩) (S := S) (F := F1) c2)
          refine h _ H2 Z1 _ ⟨s2, ((ok.go.less fun a t => .inl t).trans (ok.sta.goEx e2)).less fun a t => (un_put t).elim id False.elim, ok.kp.keep.trans (Keep.put hfree)⟩
        · exact h.elim
      · exact h.elim
  · exact h.elim

/-! ### while -/
def whileL (t : MT) (b : MS) : Nat → MS
  | 0, _ => .stuck
  | n + 1, ρ => (t ρ).bindS fun k ρ1 => if k = true then (match b ρ1 with
      | .nx ρ2 => whileL t b n ρ2
      | .ct ρ2 => whileL t b n ρ2
      | .bk ρ2 => .nx ρ2
      | r => r) else .nx ρ1
theorem DS.while {b : List Stmt} (n : Nat) (hp : PassesOwn (model X.prog X.w) X.A X.env X.xe) (hc : DT X I W q c t) (hb : DB X I W b ms) : DS X I W (.While c b [] pos) (whileL t ms n) := by
  refine PS.imp (ps_while hp hc hb) fun N σ H h => ?_
  refine ⟨fun m σ H => tS ⟨X.K, X.mg, I⟩ W (whileL t ms m) N σ H, ⟨n, h⟩, fun m σ H h => ?_⟩
  cases m with
  | zero =>
    obtain ⟨ρ, Z, S, F, s, h⟩ := h
    exact h.elim
  | succ m =>
    refine tT.bindS (k := fun k ρ1 => if k = true then (match ms ρ1 with
      | .nx ρ2 => whileL t ms m ρ2
      | .ct ρ2 => whileL t ms m ρ2
      | .bk ρ2 => .nx ρ2
      | r => r) else .nx ρ1) h fun Z S F ρ k ρ1 H1 Z1 F1 ok h1 => ?_
    cases k with
    | false => exact h1 σ H1 Z1 F1 ok.okS
    | true =>
      refine ⟨tS ⟨X.K, X.mg, I⟩ W (whileL t ms m) N, fun σ' H' h' => ⟨m, Nat.lt_succ_self m, h'⟩, ρ1, Z1, S, F1, ok.sta, ?_⟩
      have h2 : postS ⟨X.K, X.mg, I⟩ W S σ H1 Z1 F1 ρ1 N (match ms ρ1 with
        | .nx ρ2 => whileL t ms m ρ2
        | .ct ρ2 => whileL t ms m ρ2
        | .bk ρ2 => .nx ρ2
        | r => r) := h1.after ok.okS
      revert h2
      cases ms ρ1 with
      | nx ρ2 => exact fun h2 σ2 H2 Z2 F2 o => ⟨ρ2, Z2, S, F2, o.sta, h2.after o⟩
      | ct ρ2 => exact fun h2 σ2 H2 Z2 F2 o => ⟨ρ2, Z2, S, F2, o.sta, h2.after o⟩
      | bk ρ2 => exact fun h2 => h2
      | rt d ρ2 => exact fun h2 => h2
      | exc x ρ2 => exact fun h2 => h2
      | stuck => exact fun h2 => h2
end
end MV

set_option Elab.async false
set_option linter.all false
set_option maxRecDepth 100000
set_option maxHeartbeats 4000000
/-! MV5: argument lists, displays, calls of built-ins, calls of defs, a def's body. -/
namespace MV
open PySem L2 PyProof.Rows

/-! ### argument lists: own values; looks -/
abbrev MA := Sl → R (List D)
structure OkA (pm : Par) (S : AS) (σ : L2.St) (q : Bool) (H : Hp) (Z : AS) (F : FA) (ρ : Sl) (ds : List D) (ρ' : Sl) (vs : List V) (H' : Hp) (Z' : AS) (F' : FA) (G : AS) : Prop where
  sta : Sta pm H' Z' S ρ' σ F'
  val : reps true pm.K Z' H' ds vs G
  dis : ∀ a, G a → Own H' a ∧ ¬ Z' a ∧ ¬ S a ∧ ¬ un F' a
  go : Go H Z (un F) H' Z' (fun a => un F' a ∨ G a)
  qt : q = true → Ex H H' ∧ F' = F
  kp : KeepE ρ ρ'
def postA (pm : Par) (W : WX) (S : AS) (σ : L2.St) (q : Bool) (H : Hp) (Z : AS) (F : FA) (ρ : Sl) (Q : List V → Hp → Prop) : R (List D) → Prop
  | .ok ds ρ' => ∀ vs H' Z' F' G, OkA pm S σ q H Z F ρ ds ρ' vs H' Z' F' G → Q vs H'
  | .exc x ρ' => ∀ c dd H' Z' F', XcE pm S σ H Z F ρ x ρ' c dd H' Z' F' → W c dd σ H'
  | .stuck => False
def tA (pm : Par) (W : WX) (q : Bool) (m : MA) : TA := fun σ H Q => ∃ ρ Z S F, Sta pm H Z S ρ σ F ∧ postA pm W S σ q H Z F ρ Q (m ρ)
def DA (X : Cx) (I : Option (Addr × Value × Option Addr)) (W : WX) (q : Bool) (es : List Expr) (m : MA) : Prop := PA X es (tA ⟨X.K, X.mg, I⟩ W q m)
theorem PA.imp {X : Cx} {e : List Expr} {t t' : TA} (h : PA X e t) (f : ∀ σ H Q, t' σ H Q → t σ H Q) : PA X e t' := ⟨fun pos pins s σ H Q I q => h.run pos pins s σ H Q I (f σ H Q q)⟩
def aNil : MA := fun ρ => .ok [] ρ
def aCons (m : ME) (ms : MA) : MA := fun ρ => (m ρ).bind fun v ρ1 => match v with
  | .own d => (ms ρ1).bind fun ds ρ2 => .ok (d :: ds) ρ2
  | .bor _ _ => .stuck
/-- looks -/
def vws (K : PySem.W.Frag) (Z : AS) (H : Hp) : List D → List V → Prop
  | [], vs => vs = []
  | d :: ds, vs => ∃ v r, vs = v :: r ∧ rep false K Z H d v (fun _ => True) ∧ vws K Z H ds r
structure OkV (pm : Par) (S : AS) (σ : L2.St) (q : Bool) (H : Hp) (Z : AS) (F : FA) (ρ : Sl) (ds : List D) (ρ' : Sl) (vs : List V) (H' : Hp) (Z' : AS) (F' : FA) : Prop where
  sta : Sta pm H' Z' S ρ' σ F'
  val : vws pm.K Z' H' ds vs
  go : Go H Z (un F) H' Z' (un F')
  qt : q = true → Ex H H' ∧ F' = F
  kp : KeepE ρ ρ'
def postV (pm : Par) (W : WX) (S : AS) (σ : L2.St) (q : Bool) (H : Hp) (Z : AS) (F : FA) (ρ : Sl) (Q : List V → Hp → Prop) : R (List D) → Prop
  | .ok ds ρ' => ∀ vs H' Z' F', OkV pm S σ q H Z F ρ ds ρ' vs H' Z' F' → Q vs H'
  | .exc x ρ' => ∀ c dd H' Z' F', XcE pm S σ H Z F ρ x ρ' c dd H' Z' F' → W c dd σ H'
  | .stuck => False
def tV (pm : Par) (W : WX) (q : Bool) (m : MA) : TA := fun σ H Q => ∃ ρ Z S F, Sta pm H Z S ρ σ F ∧ postV pm W S σ q H Z F ρ Q (m ρ)
def DV (X : Cx) (I : Option (Addr × Value × Option Addr)) (W : WX) (q : Bool) (es : List Expr) (m : MA) : Prop := PA X es (tV ⟨X.K, X.mg, I⟩ W q m)
def vCons (q : Bool) (m : ME) (ms : MA) : MA := fun ρ => (m ρ).bind fun v ρ1 => (ms ρ1).bind fun ds ρ2 => if okq v q = true then .ok (v.d :: ds) ρ2 else .stuck

/-- held cells stay over what does not touch them -/
theorem held {pm : Par} {S Z1 Z2 G1 T : AS} {σ : L2.St} {H1 H2 : Hp} {F1 : FA} {ρ1 : Sl} (s1 : Sta pm H1 Z1 S ρ1 σ F1) (d : ∀ a, G1 a → Own H1 a ∧ ¬ Z1 a ∧ ¬ S a ∧ ¬ un F1 a) (g : Go H1 Z1 (un F1) H2 Z2 T) : (∀ a, G1 a → Own H2 a ∧ ¬ Z2 a ∧ ¬ S a ∧ ¬ T a) := fun a h => by
  obtain ⟨⟨o, e, m⟩, nz, ns, nf⟩ := d a h
  refine ⟨⟨o, g.keep a o e nf, m⟩, fun z => ?_, ns, fun t => ?_⟩
  · rcases g.nz a z with q | q | q
    · exact nz q
    · exact nf q
    · rw [q] at e; cases e
  · rcases g.nt a t with q | q
    · exact nf q
    · rw [q] at e; cases e

section
variable {X : Cx} {I : Option (Addr × Value × Option Addr)} {W : WX} {q qa qb : Bool} {pos : Pos} {e : Expr} {es : List Expr} {m : ME} {ms : MA} {pm : Par} {σ : L2.St} {H : Hp}
theorem Sta.okA {S Z : AS} {F : FA} {ρ : Sl} (s : Sta pm H Z S ρ σ F) : OkA pm S σ q H Z F ρ [] ρ [] H Z F (fun _ => False) :=
  ⟨s, by simp only [reps], fun a h => h.elim, (Go.rfl s.dm).less fun a t => t.elim id False.elim, fun _ => ⟨Ex.rfl, Eq.refl F⟩, KeepE.rfl⟩
theorem DA.nil : DA X I W true [] aNil := PA.imp pa_nil fun σ H Q ⟨ρ, Z, S, F, s, h⟩ => h [] H Z F _ s.okA
theorem aCons_op {Q : List V → Hp → Prop} (h : tA pm W (qa && qb) (aCons m ms) σ H Q) : tE pm W qa m σ H fun x H1 => tA pm W qb ms σ H1 fun vs H2 => Q (x :: vs) H2 := by
  obtain ⟨ρ, Z, S, F, s, h⟩ := h
  refine ⟨ρ, Z, S, F, s, ?_⟩
  have h : postA pm W S σ (qa && qb) H Z F ρ Q ((m ρ).bind fun v ρ1 => match v with
    | .own d => (ms ρ1).bind fun ds ρ2 => .ok (d :: ds) ρ2
    | .bor _ _ => .stuck) := h
  revert h
  cases m ρ with
  | stuck => exact fun h => h
  | exc x ρ1 => exact fun h => h
  | ok va ρ1 =>
    intro h x H1 Z1 F1 G1 ok1
    rw [R.bind_ok] at h
    cases va with
    | bor d i => exact h.elim
    | own d =>
      refine ⟨ρ1, Z1, S, F1, ok1.sta, ?_⟩
      have h : postA pm W S σ (qa && qb) H Z F ρ Q ((ms ρ1).bind fun ds ρ2 => .ok (d :: ds) ρ2) := h
      revert h
      cases ms ρ1 with
      | stuck => exact fun h => h
      | exc x ρ2 => exact fun h c dd H2 Z2 F2 y => h c dd H2 Z2 F2 (ok1.t.afterX y)
      | ok ds ρ2 =>
        intro h vs H2 Z2 F2 G2 ok2
        have hd := held ok1.sta ok1.val.2 ok2.go
        refine h (x :: vs) H2 Z2 F2 (fun a => G1 a ∨ G2 a) ⟨ok2.sta, ?_, fun a g => ?_, ?_, fun z => ⟨(ok1.qt (and_l z)).1.trans (ok2.qt (and_r z)).1, (ok2.qt (and_r z)).2.trans (ok1.qt (and_l z)).2⟩, ok1.kp.trans ok2.kp⟩
        · simp only [reps]
          exact ⟨x, vs, G1, G2, Eq.refl _, fun a g => .inl g, fun a g => .inr g, fun a g g2 => (hd a g).2.2.2 (.inr g2), ok1.val.1.stay (ok1.sta.go_staysF ok2.go fun a g => (ok1.val.2 a g).2.2.2) ok2.go.zm fun _ z => z, ok2.val⟩
        · rcases g with g | g
          · exact ⟨(hd a g).1, (hd a g).2.1, (hd a g).2.2.1, fun t => (hd a g).2.2.2 (.inl t)⟩
          · exact ok2.dis a g
        · refine ok1.go.cut ok2.go (fun a t => .inl t) fun a t => ?_
          rcases t with t | t | t
          · exact .inl (.inl t)
          · exact .inr (.inr t)
          · exact .inl (.inr t)
theorem DA.cons (h1 : DE X I W qa e m) (h2 : DA X I W qb es ms) (hs : starEach (e :: es) X.env = (false, eval e X.env) :: starEach es X.env := by rfl) : DA X I W (qa && qb) (e :: es) (aCons m ms) :=
  PA.imp (pa_cons h1 h2 hs) fun σ H Q h => aCons_op h
theorem DV.nil : DV X I W true [] aNil := PA.imp pa_nil fun σ H Q ⟨ρ, Z, S, F, s, h⟩ => h [] H Z F ⟨s, by simp only [vws], Go.rfl s.dm, fun _ => ⟨Ex.rfl, Eq.refl F⟩, KeepE.rfl⟩
theorem valR.laterV {pm : Par} {S : AS} {σ : L2.St} {H1 H2 : Hp} {Z1 Z2 : AS} {F1 F2 : FA} {va : Val} {ds : List D} {ρ1 ρ2 : Sl} {x : V} {vs : List V} {G1 : AS} (s1 : Sta pm H1 Z1 S ρ1 σ F1) (h1 : valR pm Z1 H1 S F1 va x G1) (ok2 : OkV pm S σ q H1 Z1 F1 ρ1 ds ρ2 vs H2 Z2 F2) (hq : okq va q = true) :
    rep false pm.K Z2 H2 va.d x (fun _ => True) := by
  cases va with
  | own d =>
    have st : StaysF Z1 G1 H1 H2 := s1.go_staysF ok2.go fun a g => (h1.2 a g).2.2.2
    exact (h1.1.ro).stay st ok2.go.zm fun _ _ => True.intro
  | bor d i => exact h1.1.stay (ok2.qt hq).1.staysF ok2.go.zm fun _ _ => True.intro
theorem DV.cons (h1 : DE X I W qa e m) (h2 : DV X I W qb es ms) (hs : starEach (e :: es) X.env = (false, eval e X.env) :: starEach es X.env := by rfl) : DV X I W (qa && qb) (e :: es) (vCons qb m ms) := by
  refine PA.imp (pa_cons h1 h2 hs) fun σ H Q h => ?_
  obtain ⟨ρ, Z, S, F, s, h⟩ := h
  refine ⟨ρ, Z, S, F, s, ?_⟩
  have h : postV ⟨X.K, X.mg, I⟩ W S σ (qa && qb) H Z F ρ Q ((m ρ).bind fun v ρ1 => (ms ρ1).bind fun ds ρ2 => if okq v qb = true then .ok (v.d :: ds) ρ2 else .stuck) := h
  revert h
  cases m ρ with
  | stuck => exact fun h => h
  | exc x ρ1 => exact fun h => h
  | ok va ρ1 =>
    intro h x H1 Z1 F1 G1 ok1
    rw [R.bind_ok] at h
    refine ⟨ρ1, Z1, S, F1, ok1.sta, ?_⟩
    revert h
    cases ms ρ1 with
    | stuck => exact fun h => h
    | exc x ρ2 => exact fun h c dd H2 Z2 F2 y => h c dd H2 Z2 F2 (ok1.t.afterX y)
    | ok ds ρ2 =>
      intro h vs H2 Z2 F2 ok2
      rw [R.bind_ok] at h
      split at h
      · rename_i hq
        refine h (x :: vs) H2 Z2 F2 ⟨ok2.sta, ?_, (ok1.go.less fun a t => .inl t).trans ok2.go, fun z => ⟨(ok1.qt (and_l z)).1.trans (ok2.qt (and_r z)).1, (ok2.qt (and_r z)).2.trans (ok1.qt (and_l z)).2⟩, ok1.kp.trans ok2.kp⟩
        simp only [vws]
        exact ⟨x, vs, Eq.refl _, ok1.val.laterV ok1.sta ok2 hq, ok2.val⟩
      · exact h.elim

/-! ### displays -/
def eTup (ms : MA) : ME := fun ρ => (ms ρ).bind fun ds ρ1 => if ds.length ≤ sizeLine then .ok (.own (.imm (.tup (frzs ds)))) ρ1 else .stuck
def eLst (ms : MA) : ME := fun ρ => (ms ρ).bind fun ds ρ1 => if ds.length ≤ sizeLine then .ok (.own (.lst ds)) ρ1 else .stuck
theorem DE.tup {k} (h : DA X I W q es ms) : DE X I W q (.Tuple es k pos) (eTup ms) := by
  refine PE.imp (pe_tup h) fun σ H Q h => ?_
  obtain ⟨ρ, Z, S, F, s, h⟩ := h
  refine ⟨ρ, Z, S, F, s, ?_⟩
  have h : postE ⟨X.K, X.mg, I⟩ W S σ q H Z F ρ Q ((ms ρ).bind fun ds ρ1 => if ds.length ≤ sizeLine then .ok (.own (.imm (.tup (frzs ds)))) ρ1 else .stuck) := h
  revert h
  cases ms ρ with
  | stuck => exact fun h => h
  | exc x ρ1 => exact fun h => h
  | ok ds ρ1 =>
    intro h vs H1 Z1 F1 G1 ok1
    rw [R.bind_ok] at h
    split at h
    · rename_i hz
      refine ⟨by rw [← ok1.val.length]; exact hz, fun p hp => ?_⟩
      have z2 : ∀ a, Z1 a → (Z1 a ∨ G1 a) := fun a z => .inl z
      have s2 : Sta ⟨X.K, X.mg, I⟩ H1 (fun a => Z1 a ∨ G1 a) S ρ1 σ F1 := ok1.sta.zup z2 (fun a z t => z.elim (fun y => by
        obtain ⟨i, t⟩ := t
        exact (ok1.sta.own i a t).2.1 y) fun y => (ok1.dis a y).2.2.2 t) fun a z => z.elim (fun y => ok1.sta.dom a (.inl y)) fun y => (ok1.dis a y).1.some
      have c := ok1.val.frz (Z' := fun a => Z1 a ∨ G1 a) z2 fun a g => .inr g
      refine h (.ref p) _ (fun a => Z1 a ∨ G1 a) F1 (fun _ => False) ⟨s2.ex (Ex.new hp), valR.imm ?_, ?_, fun z => ⟨(ok1.qt z).1.trans (Ex.new hp), (ok1.qt z).2⟩, ok1.kp⟩
      · simp only [conP]
        exact ⟨p, vs, Eq.refl _, SqT.of upd_same, c.stay (Ex.new hp).stays fun _ q => q⟩
      · refine ⟨fun a o e t => Ex.new hp a o (ok1.go.keep a o e t), fun a z => .inl (ok1.go.zm a z), fun a z => ?_, fun a t => ?_, fun a t => (Ex.new hp).ne (ok1.go.dm a t)⟩
        · rcases z with z | z
          · exact ok1.go.nz a z
          · exact .inr (ok1.go.nt a (.inr z))
        · rcases t with t | t
          · exact ok1.go.nt a (.inl t)
          · exact t.elim
    · exact h.elim
theorem DE.lst (h : DA X I W q es ms) : DE X I W q (.List es pos) (eLst ms) := by
  refine PE.imp (pe_lst h) fun σ H Q h => ?_
  obtain ⟨ρ, Z, S, F, s, h⟩ := h
  refine ⟨ρ, Z, S, F, s, ?_⟩
  have h : postE ⟨X.K, X.mg, I⟩ W S σ q H Z F ρ Q ((ms ρ).bind fun ds ρ1 => if ds.length ≤ sizeLine then .ok (.own (.lst ds)) ρ1 else .stuck) := h
  revert h
  cases ms ρ with
  | stuck => exact fun h => h
  | exc x ρ1 => exact fun h => h
  | ok ds ρ1 =>
    intro h vs H1 Z1 F1 G1 ok1
    rw [R.bind_ok] at h
    split at h
    · rename_i hz
      refine ⟨by rw [← ok1.val.length]; exact hz, fun p hp => ?_⟩
      have ex := Ex.new (o := .lst vs) hp
      have np : ∀ a, H1 a ≠ none → a ≠ p := fun a n z => by rw [z] at n; exact n hp
      refine h (.ref p) _ Z1 F1 (fun a => a = p ∨ G1 a) ⟨ok1.sta.ex ex, ⟨?_, fun a g => ?_⟩, ?_, fun z => ⟨(ok1.qt z).1.trans ex, (ok1.qt z).2⟩, ok1.kp⟩
      · simp only [rep]
        exact ⟨p, vs, Eq.refl _, .inl (Eq.refl _), upd_same, ok1.val.stay ex.staysF (fun _ q => q) fun a g => ⟨.inr g, np a (ok1.dis a g).1.some⟩⟩
      · rcases g with g | g
        · subst g
          exact ⟨⟨_, upd_same, True.intro⟩, ok1.sta.fresh_none hp⟩
        · exact ⟨ex.own (ok1.dis a g).1, (ok1.dis a g).2⟩
      · refine ⟨fun a o e t => ex a o (ok1.go.keep a o e t), ok1.go.zm, ok1.go.nz, fun a t => ?_, fun a t => ex.ne (ok1.go.dm a t)⟩
        rcases t with t | t | t
        · exact ok1.go.nt a (.inl t)
        · subst t
          cases e : H a with
          | none => exact .inr (Eq.refl _)
          | some o =>
            rcases Classical.em (MV.un F a) with y | y
            · exact .inl y
            · have := ok1.go.keep a o e y
              rw [hp] at this
              cases this
        · exact ok1.go.nt a (.inr t)
    · exact h.elim

/-! ### built-in functions over looks -/
def CallD (K : PySem.W.Frag) (r : List V → Hp → VK → Prop) (f : List D → Option D) : Prop := ∀ (Z : AS) (H : Hp) (ds : List D) (d : D) (vs : List V) (Q : VK), vws K Z H ds vs → f ds = some d → Fresh K Z H d Q → r vs H Q
def eB (f : List D → Option D) (ms : MA) : ME := fun ρ => (ms ρ).bind fun ds ρ1 => match f ds with
  | some d => .ok (.own d) ρ1
  | none => .stuck
theorem callb_op {r : List V → Hp → VK → Prop} {f : List D → Option D} {Q : VK} (hf : CallD pm.K r f) (h : tE pm W q (eB f ms) σ H Q) : tCB r (tV pm W q ms) σ H Q := by
  obtain ⟨ρ, Z, S, F, s, h⟩ := h
  refine ⟨ρ, Z, S, F, s, ?_⟩
  have h : postE pm W S σ q H Z F ρ Q ((ms ρ).bind fun ds ρ1 => match f ds with
    | some d => .ok (.own d) ρ1
    | none => .stuck) := h
  revert h
  cases ms ρ with
  | stuck => exact fun h => h
  | exc x ρ1 => exact fun h => h
  | ok ds ρ1 =>
    intro h vs H1 Z1 F1 ok1
    rw [R.bind_ok] at h
    split at h
    · rename_i d hd
      exact hf Z1 H1 ds d vs Q ok1.val hd (postE.freshAt ok1.sta ok1.go (fun a t => t) ok1.qt ok1.kp h)
    · exact h.elim
theorem DE.callB {x : Str} {id : String} {p : Pos} {r : List V → Hp → VK → Prop} {f : List D → Option D} (hc : CallR X (.builtin id) r) (hf : CallD X.K r f) (hm : X.mg x = none) (ha : DV X I W q (e :: es) ms) (hg : Gl X x := by rfl) (hv : bootBuiltins x = some (.builtin id) := by decide +kernel) (hn : x ≠ "__name__" := by decide) (hdb : (x == ("__debug__" : Str)) = false := by decide)
    (he : starEach (e :: es) X.env = (false, eval e X.env) :: starEach es X.env := by rfl) (hpl : (backTo pos (starEach es X.env)).any (·.1) = false := by rfl) : DE X I W q (.Call (.Name x p) (e :: es) [] pos) (eB f ms) :=
  PE.imp (pe_callB hc hg hm hv ha hn hdb he hpl) fun σ H Q h => callb_op hf h
theorem DE.callTy {x : Str} {T : String} {p : Pos} {r : List V → Hp → VK → Prop} {f : List D → Option D} (hc : CallR X (.type T) r) (hf : CallD X.K r f) (hm : X.mg x = none) (ha : DV X I W q (e :: es) ms) (hg : Gl X x := by rfl) (hv : bootBuiltins x = some (.type T) := by decide +kernel) (hn : x ≠ "__name__" := by decide) (hdb : (x == ("__debug__" : Str)) = false := by decide)
    (he : starEach (e :: es) X.env = (false, eval e X.env) :: starEach es X.env := by rfl) (hpl : (backTo pos (starEach es X.env)).any (·.1) = false := by rfl) : DE X I W q (.Call (.Name x p) (e :: es) [] pos) (eB f ms) :=
  PE.imp (pe_callTy hc hg hm hv ha hn hdb he hpl) fun σ H Q h => callb_op hf h
end
end MV

set_option Elab.async false
set_option linter.all false
set_option maxRecDepth 100000
set_option maxHeartbeats 4000000
/-! MV6: calls of the program's own defs; a def's body. -/
namespace MV
open PySem L2 PyProof.Rows

/-- a def as data: the parameters' slots in; its value out, with what is lent -/
abbrev FS := Sl → R D
structure OkF (pm : Par) (S : AS) (σ : L2.St) (H : Hp) (Z : AS) (F : FA) (d : D) (ρ' : Sl) (v : V) (H' : Hp) (Z' : AS) (F' : FA) (G : AS) : Prop where
  sta : Sta pm H' Z' S ρ' σ F'
  val : valR pm Z' H' S F' (.own d) v G
  go : Go H Z (un F) H' Z' (fun a => un F' a ∨ G a)
structure XcF (pm : Par) (S : AS) (σ : L2.St) (H : Hp) (Z : AS) (F : FA) (x : Exc) (ρ' : Sl) (c : Value) (dd : Option Addr) (H' : Hp) (Z' : AS) (F' : FA) : Prop where
  sta : Sta pm H' Z' S ρ' σ F'
  exc : excR pm Z' H' x c dd
  go : Go H Z (un F) H' Z' (un F')
def postF (pm : Par) (E : XK) (S : AS) (σ : L2.St) (H : Hp) (Z : AS) (F : FA) (Q : VK) : R D → Prop
  | .ok d ρ' => ∀ v H' Z' F' G, OkF pm S σ H Z F d ρ' v H' Z' F' G → Q v H'
  | .exc x ρ' => ∀ c dd H' Z' F', XcF pm S σ H Z F x ρ' c dd H' Z' F' → E c dd H'
  | .stuck => False
def pmX (K : PySem.W.Frag) (mg : Str → Option Value) : Par := ⟨K, mg, none⟩
def spD (K : PySem.W.Frag) (mg : Str → Option Value) (n : Nat) (f : FS) : Sp := fun vs H Q E => ∃ ss Z S F, ss.length = n ∧ Sta (pmX K mg) H Z S ss (vs.map some) F ∧ postF (pmX K mg) E S (vs.map some) H Z F Q (f ss)
theorem spD_len {K : PySem.W.Frag} {mg : Str → Option Value} {n : Nat} {f : FS} {vs : List V} {H : Hp} {Q : VK} {E : XK} (h : spD K mg n f vs H Q E) : vs.length = n := by
  obtain ⟨ss, Z, S, F, e, s, _⟩ := h
  rw [← e, ← s.len, List.length_map]

/-! ### the body -/
def outs : Sl → Sl → Sl
  | [], _ => []
  | .pin _ :: ss, s :: ρ => s :: outs ss ρ
  | .pin _ :: ss, [] => .no :: outs ss []
  | _ :: ss, ρ => .no :: outs ss ρ.tail
theorem outs_length : ∀ (ss ρ : Sl), (outs ss ρ).length = ss.length
  | [], ρ => rfl
  | .pin _ :: ss, s :: ρ => by simp only [outs, List.length_cons, outs_length ss ρ]
  | .pin _ :: ss, [] => by simp only [outs, List.length_cons, outs_length ss []]
  | .no :: ss, ρ => by simp only [outs, List.length_cons, outs_length ss ρ.tail]
  | .own _ :: ss, ρ => by simp only [outs, List.length_cons, outs_length ss ρ.tail]
  | .ro _ :: ss, ρ => by simp only [outs, List.length_cons, outs_length ss ρ.tail]
  | .ex _ :: ss, ρ => by simp only [outs, List.length_cons, outs_length ss ρ.tail]
theorem outs_get : ∀ {ss ρ : Sl} {i : Nat} {s : Slot}, (outs ss ρ)[i]? = some s → (∃ d, ss[i]? = some (.pin d) ∧ ρ[i]? = some s) ∨ s = .no
  | [], ρ, i, s, h => by simp only [outs] at h; simp at h
  | .pin d :: ss, t :: ρ, 0, s, h => by simp only [outs] at h; simp at h; subst h; exact .inl ⟨d, rfl, rfl⟩
  | .pin d :: ss, t :: ρ, i + 1, s, h => by
    simp only [outs] at h
    rcases outs_get (ss := ss) (ρ := ρ) (i := i) (by simpa using h) with ⟨d', h1, h2⟩ | h
    · exact .inl ⟨d', by simpa using h1, by simpa using h2⟩
    · exact .inr h
  | .pin d :: ss, [], 0, s, h => by simp only [outs] at h; simp at h; exact .inr h.symm
  | .pin d :: ss, [], i + 1, s, h => by
    simp only [outs] at h
    rcases outs_get (ss := ss) (ρ := []) (i := i) (by simpa using h) with ⟨d', h1, h2⟩ | h
    · simp at h2
    · exact .inr h
  | .no :: ss, ρ, i, s, h => outs_get' (by intro d z; cases z) h
  | .own _ :: ss, ρ, i, s, h => outs_get' (by intro d z; cases z) h
  | .ro _ :: ss, ρ, i, s, h => outs_get' (by intro d z; cases z) h
  | .ex _ :: ss, ρ, i, s, h => outs_get' (by intro d z; cases z) h
where
  outs_get' : ∀ {s0 : Slot} {ss ρ : Sl} {i : Nat} {s : Slot}, (∀ d, s0 ≠ .pin d) → (outs (s0 :: ss) ρ)[i]? = some s → (∃ d, (s0 :: ss)[i]? = some (.pin d) ∧ ρ[i]? = some s) ∨ s = .no
  | s0, ss, ρ, i, s, hn, h => by
    have e : outs (s0 :: ss) ρ = .no :: outs ss ρ.tail := by
      cases s0 with
      | pin d => exact absurd rfl (hn d)
      | _ => simp only [outs]
    rw [e] at h
    cases i with
    | zero => simp at h; exact .inr h.symm
    | succ i =>
      rcases outs_get (ss := ss) (ρ := ρ.tail) (i := i) (by simpa using h) with ⟨d', h1, h2⟩ | h
      · exact .inl ⟨d', by simpa using h1, by
          cases ρ with
          | nil => simp at h2
          | cons a r => simpa using h2⟩
      · exact .inr h
@[irreducible] def runF (N : Nat) (m : MS) : FS := fun ss => match m (ss ++ List.replicate (N - ss.length) .no) with
  | .nx ρ => .ok (.imm .non) (outs ss ρ)
  | .rt d ρ => .ok d (outs ss ρ)
  | .exc x ρ => .exc x (outs ss ρ)
  | _ => .stuck
section
variable {K : PySem.W.Frag} {mg : Str → Option Value} {S : AS} {H H' : Hp} {Z Z' : AS} {F F' : FA} {ss ρ ρ' : Sl} {vs : List V} {σ σ' : L2.St}
theorem Sta.start {N : Nat} (s : Sta (pmX K mg) H Z S ss (vs.map some) F) (hN : ss.length ≤ N) : Sta (pmX K mg) H Z S (ss ++ List.replicate (N - ss.length) .no) (vs.map some ++ List.replicate (N - vs.length) none) F := by
  have e : vs.length = ss.length := by rw [← s.len, List.length_map]
  refine ⟨by rw [List.length_append, List.length_append, List.length_map, List.length_replicate, List.length_replicate, e], fun i sl h => ?_, s.disj, s.own, s.dom⟩
  by_cases hi : i < ss.length
  · rw [List.getElem?_append_left hi] at h
    have e1 : at_ (vs.map some ++ List.replicate (N - vs.length) none) i = at_ (vs.map some) i := by
      unfold at_
      rw [List.getElem?_append_left (by rw [List.length_map, e]; exact hi)]
    rw [e1]
    exact s.slot i sl h
  · rw [List.getElem?_append_right (Nat.le_of_not_lt hi), List.getElem?_replicate] at h
    split at h
    · cases h; exact True.intro
    · cases h
/-- the lent slots behind the body -/
theorem Sta.outs (s : Sta (pmX K mg) H' Z' S ρ' σ' F') (l : ss.length = vs.length) (k : ∀ i d, ss[i]? = some (.pin d) → at_ σ' i = at_ (vs.map some) i) : Sta (pmX K mg) H' Z' S (MV.outs ss ρ') (vs.map some) F' := by
  refine ⟨?_, fun i sl h => ?_, s.disj, s.own, s.dom⟩
  · rw [outs_length, List.length_map, l]
  · rcases outs_get h with ⟨d, e1, e2⟩ | e
    · rw [← k i d e1]
      exact s.slot i sl e2
    · subst e
      exact True.intro
end

/-- THE RULE of a def -/
theorem def_ok {P : Program} {w : World} {K : PySem.W.Frag} {mg : Str → Option Value} {base : Heap} {x qual : Str} {st : Stmt} {f : Addr} {fd : FuncData} {N ps : List Str} {k : Nat} {m : MS} (F : Fun K x qual st f fd) (S : FnScope N ps (defScope st))
    (hbody : ∀ (cdv : Value) (A : Around) (outer : List Env) (s : Shared) (H : Hp) (E : XK), Room k (A.deeper (envOfC qual (defScope st) s.heap.objs.size f cdv)) → ∀ X, X = cxOf (L2.CX P w) P w K mg base N qual (defScope st) f cdv A outer s H E →
      Takes (cxOf (L2.CX P w) P w K mg base N qual (defScope st) f cdv A outer s H E) (fun c d _ H => E c d H) → PassesOwn (model P w) (A.deeper (envOfC qual (defScope st) s.heap.objs.size f cdv)) (envOfC qual (defScope st) s.heap.objs.size f cdv) (cxOf (L2.CX P w) P w K mg base N qual (defScope st) f cdv A outer s H E).xe →
      DB (cxOf (L2.CX P w) P w K mg base N qual (defScope st) f cdv A outer s H E) none (fun c d _ H => E c d H) (defBody st) m) :
    FnOk P w K mg base (L2.CX P w) (k + 1) f fd ps (spD K mg ps.length (runF N.length m)) := by
  refine F.okX S (fun vs H Q E h => spD_len h) fun cdv A outer s H vs Q E hr h => ?_
  refine ⟨_, hbody cdv A outer s H E hr _ rfl (takes_of rfl rfl rfl rfl) (passes_of rfl), ?_⟩
  obtain ⟨ss, Z, S0, F0, el, st0, h⟩ := h
  have hle : ss.length ≤ N.length := by
    rw [el]
    have := congrArg List.length S.pre
    rw [List.length_take] at this
    omega
  have lv : vs.length = ss.length := by rw [← st0.len, List.length_map]
  have s1 := st0.start hle
  have s1' : Sta (pmX K mg) H Z S0 (ss ++ List.replicate (N.length - ss.length) .no) (L2.start N vs) F0 := by
    unfold L2.start
    exact s1
  refine ⟨_, Z, S0, F0, s1', ?_⟩
  have pinE : ∀ {i : Nat} {d : D}, ss[i]? = some (.pin d) → (ss ++ List.replicate (N.length - ss.length) Slot.no)[i]? = some (.pin d) := fun {i d} e => by
    rw [List.getElem?_append_left (List.getElem?_eq_some_iff.mp e).1]
    exact e
  have atE : ∀ {i : Nat} {d : D}, ss[i]? = some (.pin d) → at_ (L2.start N vs) i = at_ (vs.map some) i := fun {i d} e => by
    unfold at_ L2.start
    rw [List.getElem?_append_left (by rw [List.length_map, lv]; exact (List.getElem?_eq_some_iff.mp e).1)]
  have lenE : ∀ {ρ' : Sl} {σ' : L2.St}, Keep (ss ++ List.replicate (N.length - ss.length) .no) (L2.start N vs) ρ' σ' → ∀ i d, ss[i]? = some (.pin d) → at_ σ' i = at_ (vs.map some) i := fun {ρ' σ'} kp i d e => ((kp i).1 d (pinE e)).1.trans (atE e)
  have fin : ∀ {H' : Hp} {Z' : AS} {ρ' : Sl} {σ' : L2.St} {F' : FA}, Sta (pmX K mg) H' Z' S0 ρ' σ' F' → Keep (ss ++ List.replicate (N.length - ss.length) .no) (L2.start N vs) ρ' σ' → Sta (pmX K mg) H' Z' S0 (MV.outs ss ρ') (vs.map some) F' := fun {H' Z' ρ' σ' F'} s kp =>
    s.outs lv.symm (lenE kp)
  unfold runF at h
  revert h
  cases m (ss ++ List.replicate (N.length - ss.length) .no) with
  | nx ρ' =>
    intro h σ' H' Z' F' o
    exact h .non H' Z' F' (fun _ => False) ⟨fin o.sta o.keep, valR.imm (by simp only [conP]), o.go.less fun a t => t.elim id False.elim⟩
  | rt d ρ' => exact fun h v σ' H' Z' F' G o => h v H' Z' F' G ⟨fin o.sta o.keep, o.val, o.go⟩
  | exc x ρ' => exact fun h c dd σ' H' Z' F' o => h c dd H' Z' F' ⟨fin o.sta o.keep, o.exc, o.go⟩
  | bk ρ' => exact fun h => h.elim
  | ct ρ' => exact fun h => h.elim
  | stuck => exact fun h => h.elim

/-! ### calls -/
/-- how the arguments are handed over: none: a value of one's own; (i, b): the data of slot i is lent (b: to be changed) -/
abbrev Ln := Option (Nat × Bool)
structure OkL (pm : Par) (S : AS) (σ : L2.St) (q : Bool) (ls : List Ln) (H : Hp) (Z : AS) (F : FA) (ρ : Sl) (ds : List (Option D)) (ρ' : Sl) (vs : List V) (H' : Hp) (Z' : AS) (F' : FA) (G : FA) : Prop where
  sta : Sta pm H' Z' S ρ' σ F'
  len : vs.length = ls.length ∧ ds.length = ls.length
  own : ∀ k : Nat, ls[k]? = some none → ∃ d v, ds[k]? = some (some d) ∧ vs[k]? = some v ∧ rep true pm.K Z' H' d v (G k)
  lent : ∀ (k i : Nat) b, ls[k]? = some (some (i, b)) → ∃ v, vs[k]? = some v ∧ σ[i]? = some (some v) ∧ ds[k]? = some none
  dj : ∀ j k a, G j a → G k a → j = k
  dis : ∀ a, un G a → Own H' a ∧ ¬ Z' a ∧ ¬ S a ∧ ¬ un F' a
  go : Go H Z (un F) H' Z' (fun a => un F' a ∨ un G a)
  qt : q = true → Ex H H' ∧ F' = F
  kp : KeepE ρ ρ'
def postL (pm : Par) (W : WX) (S : AS) (σ : L2.St) (q : Bool) (ls : List Ln) (H : Hp) (Z : AS) (F : FA) (ρ : Sl) (Q : List V → Hp → Prop) : R (List (Option D)) → Prop
  | .ok ds ρ' => ∀ vs H' Z' F' G, OkL pm S σ q ls H Z F ρ ds ρ' vs H' Z' F' G → Q vs H'
  | .exc x ρ' => ∀ c dd H' Z' F', XcE pm S σ H Z F ρ x ρ' c dd H' Z' F' → W c dd σ H'
  | .stuck => False
abbrev ML := Sl → R (List (Option D))
def tL (pm : Par) (W : WX) (q : Bool) (ls : List Ln) (m : ML) : TA := fun σ H Q => ∃ ρ Z S F, Sta pm H Z S ρ σ F ∧ postL pm W S σ q ls H Z F ρ Q (m ρ)
def DL (X : Cx) (I : Option (Addr × Value × Option Addr)) (W : WX) (q : Bool) (es : List Expr) (ls : List Ln) (m : ML) : Prop := PA X es (tL ⟨X.K, X.mg, I⟩ W q ls m)
def lNil : ML := fun ρ => .ok [] ρ
def lOwn (m : ME) (ms : ML) : ML := fun ρ => (m ρ).bind fun v ρ1 => match v with
  | .own d => (ms ρ1).bind fun ds ρ2 => .ok (some d :: ds) ρ2
  | .bor _ _ => .stuck
def isVal : Slot → Bool
  | .own _ => true
  | .pin _ => true
  | .ro _ => true
  | _ => false
def lLent (i : Nat) (ms : ML) : ML := fun ρ => match ρ[i]? with
  | some s => if isVal s = true then (ms ρ).bind fun ds ρ2 => .ok (none :: ds) ρ2 else .stuck
  | none => .stuck
theorem at_some {σ : L2.St} {i : Nat} {v : V} (e : at_ σ i = some v) : σ[i]? = some (some v) := by
  unfold at_ at e
  cases z : σ[i]? with
  | none => rw [z] at e; cases e
  | some o =>
    rw [z] at e
    cases o with
    | none => cases e
    | some w => cases e; rfl
section
variable {X : Cx} {I : Option (Addr × Value × Option Addr)} {W : WX} {q qa qb : Bool} {pos : Pos} {e : Expr} {es : List Expr} {m : ME} {ms : ML} {ls : List Ln} {pm : Par} {σ : L2.St} {H : Hp}
theorem DL.nil : DL X I W true [] [] lNil := PA.imp pa_nil fun σ H Q ⟨ρ, Z, S, F, s, h⟩ => h [] H Z F (fun _ _ => False)
  ⟨s, ⟨rfl, rfl⟩, fun k h => by simp at h, fun k i b h => by simp at h, fun j k a h => h.elim, fun a ⟨k, h⟩ => h.elim, (Go.rfl s.dm).less fun a t => t.elim id fun ⟨k, h⟩ => h.elim, fun _ => ⟨Ex.rfl, Eq.refl F⟩, KeepE.rfl⟩
theorem DL.own (h1 : DE X I W qa e m) (h2 : DL X I W qb es ls ms) (hs : starEach (e :: es) X.env = (false, eval e X.env) :: starEach es X.env := by rfl) : DL X I W (qa && qb) (e :: es) (none :: ls) (lOwn m ms) := by
  refine PA.imp (pa_cons h1 h2 hs) fun σ H Q h => ?_
  obtain ⟨ρ, Z, S, F, s, h⟩ := h
  refine ⟨ρ, Z, S, F, s, ?_⟩
  have h : postL ⟨X.K, X.mg, I⟩ W S σ (qa && qb) (none :: ls) H Z F ρ Q ((m ρ).bind fun v ρ1 => match v with
    | .own d => (ms ρ1).bind fun ds ρ2 => .ok (some d :: ds) ρ2
    | .bor _ _ => .stuck) := h
  revert h
  cases m ρ with
  | stuck => exact fun h => h
  | exc x ρ1 => exact fun h => h
  | ok va ρ1 =>
    intro h x H1 Z1 F1 G1 ok1
    rw [R.bind_ok] at h
    cases va with
    | bor d i => exact h.elim
    | own d =>
      refine ⟨ρ1, Z1, S, F1, ok1.sta, ?_⟩
      have h : postL ⟨X.K, X.mg, I⟩ W S σ (qa && qb) (none :: ls) H Z F ρ Q ((ms ρ1).bind fun ds ρ2 => .ok (some d :: ds) ρ2) := h
      revert h
      cases ms ρ1 with
      | stuck => exact fun h => h
      | exc x ρ2 => exact fun h c dd H2 Z2 F2 y => h c dd H2 Z2 F2 (ok1.t.afterX y)
      | ok ds ρ2 =>
        intro h vs H2 Z2 F2 G2 ok2
        have hd := held ok1.sta ok1.val.2 ok2.go
        have cut : ∀ {a}, un (fun k => match k with
          | 0 => G1
          | k + 1 => G2 k) a → G1 a ∨ un G2 a := fun {a} ⟨k, g⟩ => by
            cases k with
            | zero => exact .inl g
            | succ k => exact .inr ⟨k, g⟩
        refine h (x :: vs) H2 Z2 F2 (fun k => match k with
          | 0 => G1
          | k + 1 => G2 k) ⟨ok2.sta, ⟨by simp [ok2.len.1], by simp [ok2.len.2]⟩, fun k hk => ?_, fun k i b hk => ?_, fun j k a g1 g2 => ?_, fun a g => ?_, ?_, fun z => ⟨(ok1.qt (and_l z)).1.trans (ok2.qt (and_r z)).1, (ok2.qt (and_r z)).2.trans (ok1.qt (and_l z)).2⟩, ok1.kp.trans ok2.kp⟩
        · cases k with
          | zero => exact ⟨d, x, rfl, rfl, ok1.val.1.stay (ok1.sta.go_staysF ok2.go fun a g => (ok1.val.2 a g).2.2.2) ok2.go.zm fun _ z => z⟩
          | succ k =>
            obtain ⟨d', v', e1, e2, r⟩ := ok2.own k (by simpa using hk)
            exact ⟨d', v', by simpa using e1, by simpa using e2, r⟩
        · cases k with
          | zero => simp at hk
          | succ k =>
            obtain ⟨v', e1, e2, e3⟩ := ok2.lent k i b (by simpa using hk)
            exact ⟨v', by simpa using e1, e2, by simpa using e3⟩
        · cases j with
          | zero => cases k with
            | zero => rfl
            | succ k => exact absurd (.inr ⟨k, g2⟩) (hd a g1).2.2.2
          | succ j => cases k with
            | zero => exact absurd (.inr ⟨j, g1⟩) (hd a g2).2.2.2
            | succ k => rw [ok2.dj j k a g1 g2]
        · rcases cut g with g | g
          · exact ⟨(hd a g).1, (hd a g).2.1, (hd a g).2.2.1, fun t => (hd a g).2.2.2 (.inl t)⟩
          · exact ok2.dis a g
        · refine ok1.go.cut ok2.go (fun a t => .inl t) fun a t => ?_
          rcases t with t | t
          · exact .inl (.inl t)
          · rcases cut t with t | t
            · exact .inr (.inr t)
            · exact .inl (.inr t)
theorem DL.lent (i : Nat) (b : Bool) {x : Str} (h2 : DL X I W q es ls ms) (hN : X.N[i]? = some x := by rfl) (hv : Vis X.env.scope x := by first | exact Or.inl rfl | exact Or.inr (Or.inl rfl) | exact Or.inr (Or.inr rfl)) (hd : (x == ("__debug__" : Str)) = false := by decide)
    (hcd : (x == ("__classdict__" : Str)) = false := by decide) (hs : starEach (.Name x pos :: es) X.env = (false, eval (.Name x pos) X.env) :: starEach es X.env := by rfl) : DL X I W q (.Name x pos :: es) (some (i, b) :: ls) (lLent i ms) := by
  refine PA.imp (pa_cons (pe_var hN hv hd hcd) h2 hs) fun σ H Q h => ?_
  obtain ⟨ρ, Z, S, F, s, h⟩ := h
  unfold lLent at h
  split at h
  case h_2 => exact h.elim
  rename_i sl hsl
  split at h
  case isFalse => exact h.elim
  rename_i hv
  have hx : ∃ v, σ[i]? = some (some v) := by
    have := s.slot i sl hsl
    cases sl with
    | own d => obtain ⟨v, e, _⟩ := this; exact ⟨v, at_some e⟩
    | pin d => obtain ⟨v, e, _⟩ := this; exact ⟨v, at_some e⟩
    | ro d => obtain ⟨v, e, _⟩ := this; exact ⟨v, at_some e⟩
    | _ => cases hv
  obtain ⟨v, hx⟩ := hx
  refine ⟨v, hx, ρ, Z, S, F, s, ?_⟩
  revert h
  cases ms ρ with
  | stuck => exact fun h => h
  | exc x ρ2 => exact fun h => h
  | ok ds ρ2 =>
    intro h vs H2 Z2 F2 G2 ok2
    refine h (v :: vs) H2 Z2 F2 (fun k => match k with
      | 0 => fun _ => False
      | k + 1 => G2 k) ⟨ok2.sta, ⟨by simp [ok2.len.1], by simp [ok2.len.2]⟩, fun k hk => ?_, fun k i b hk => ?_, fun j k a g1 g2 => ?_, fun a g => ?_, ok2.go.less fun a t => ?_, ok2.qt, ok2.kp⟩
    · cases k with
      | zero => simp at hk
      | succ k =>
        obtain ⟨d', v', e1, e2, r⟩ := ok2.own k (by simpa using hk)
        exact ⟨d', v', by simpa using e1, by simpa using e2, r⟩
    · cases k with
      | zero =>
        simp at hk
        obtain ⟨e1, e2⟩ := hk
        subst e1
        exact ⟨v, rfl, hx, rfl⟩
      | succ k =>
        obtain ⟨v', e1, e2, e3⟩ := ok2.lent k i b (by simpa using hk)
        exact ⟨v', by simpa using e1, e2, by simpa using e3⟩
    · cases j with
      | zero => exact g1.elim
      | succ j => cases k with
        | zero => exact g2.elim
        | succ k => rw [ok2.dj j k a g1 g2]
    · obtain ⟨k, g⟩ := g
      cases k with
      | zero => exact g.elim
      | succ k => exact ok2.dis a ⟨k, g⟩
    · rcases t with t | ⟨k, t⟩
      · exact .inl t
      · cases k with
        | zero => exact t.elim
        | succ k => exact .inr ⟨k, t⟩
end
end MV

set_option Elab.async false
set_option linter.all false
set_option maxRecDepth 100000
set_option maxHeartbeats 4000000
/-! MV7: the call. -/
namespace MV
open PySem L2 PyProof.Rows

def slotFor (b : Bool) : Slot → Option Slot
  | .own (.imm p) => some (.own (.imm p))
  | .pin (.imm p) => some (.own (.imm p))
  | .ro (.imm p) => some (.own (.imm p))
  | .own d => some (if b = true then .pin d else .ro d)
  | .pin d => some (if b = true then .pin d else .ro d)
  | .ro d => if b = true then none else some (.ro d)
  | _ => none
def bld : List Ln → List (Option D) → Sl → Option Sl
  | [], [], _ => some []
  | none :: ls, some d :: ds, ρ => (bld ls ds ρ).map fun r => .own d :: r
  | some (i, b) :: ls, none :: ds, ρ => ((ρ[i]?).bind (slotFor b)).bind fun s => (bld ls ds ρ).map fun r => s :: r
  | _, _, _ => none
def putBack (ρ : Sl) (i : Nat) (d : D) : Option Sl := match ρ[i]? with
  | some (.own _) => some (ρ.set i (.own d))
  | some (.pin _) => some (ρ.set i (.pin d))
  | _ => none
def back : List Ln → Sl → Sl → Sl → Option Sl
  | some (i, true) :: ls, .pin _ :: ss, .pin d :: os, ρ => (putBack ρ i d).bind fun ρ1 => back ls ss os ρ1
  | some (_, true) :: _, .pin _ :: _, _, _ => none
  | _ :: ls, _ :: ss, _ :: os, ρ => back ls ss os ρ
  | [], [], [], ρ => some ρ
  | _, _, _, _ => none
def lnB : List Ln → Bool
  | [] => true
  | none :: ls => lnB ls
  | some (i, b) :: ls => (ls.all fun l => match l with
      | some (j, c) => decide (j ≠ i) || (!b && !c)
      | none => true) && lnB ls
def noMut (ls : List Ln) : Bool := ls.all fun l => match l with
  | some (_, true) => false
  | _ => true
theorem lnB_head {i : Nat} {b : Bool} {ls : List Ln} (h : lnB (some (i, b) :: ls) = true) {k : Nat} {c : Bool} (hk : ls[k]? = some (some (i, c))) : b = false ∧ c = false := by
  have := List.all_eq_true.mp (and_l (show ((ls.all fun l => match l with
      | some (j, c) => decide (j ≠ i) || (!b && !c)
      | none => true) && lnB ls) = true from h)) _ (List.mem_of_getElem? hk)
  simpa using this
theorem lnB_tail {l : Ln} {ls : List Ln} (h : lnB (l :: ls) = true) : lnB ls = true := by
  cases l with
  | none => exact h
  | some p => exact and_r (show ((ls.all fun l => match l with
      | some (j, c) => decide (j ≠ p.1) || (!p.2 && !c)
      | none => true) && lnB ls) = true from h)
theorem lnB_ok : ∀ {ls : List Ln}, lnB ls = true → ∀ {j k i : Nat} {b : Bool}, ls[j]? = some (some (i, true)) → ls[k]? = some (some (i, b)) → j = k
  | [], _, j, k, i, b, h1, _ => by simp at h1
  | l :: ls, h, j, k, i, b, h1, h2 => by
    cases j with
    | zero =>
      cases k with
      | zero => rfl
      | succ k =>
        have e : l = some (i, true) := by simpa using h1
        subst e
        exact absurd (lnB_head h (show ls[k]? = _ by simpa using h2)).1 (by simp)
    | succ j =>
      cases k with
      | zero =>
        have e : l = some (i, b) := by simpa using h2
        subst e
        exact absurd (lnB_head h (show ls[j]? = _ by simpa using h1)).2 (by simp)
      | succ k => rw [lnB_ok (lnB_tail h) (show ls[j]? = _ by simpa using h1) (show ls[k]? = _ by simpa using h2)]
theorem bld_get : ∀ {ls : List Ln} {ds : List (Option D)} {ρ ss : Sl}, bld ls ds ρ = some ss → ss.length = ls.length ∧ ∀ k : Nat,
    (ls[k]? = some none → ∃ d, ds[k]? = some (some d) ∧ ss[k]? = some (.own d)) ∧ (∀ i b, ls[k]? = some (some (i, b)) → ∃ s0 s, ρ[i]? = some s0 ∧ slotFor b s0 = some s ∧ ss[k]? = some s)
  | [], [], ρ, ss, h => by
    simp only [bld] at h
    cases h
    exact ⟨rfl, fun k => ⟨fun z => by simp at z, fun i b z => by simp at z⟩⟩
  | [], d :: ds, ρ, ss, h => by simp only [bld] at h; cases h
  | none :: ls, some d :: ds, ρ, ss, h => by
    simp only [bld] at h
    obtain ⟨r, hr, e⟩ := Option.map_eq_some_iff.mp h
    subst e
    obtain ⟨l, g⟩ := bld_get hr
    refine ⟨by simp [l], fun k => ?_⟩
    cases k with
    | zero => exact ⟨fun _ => ⟨d, rfl, rfl⟩, fun i b z => by simp at z⟩
    | succ k =>
      obtain ⟨g1, g2⟩ := g k
      exact ⟨fun z => by simpa using g1 (by simpa using z), fun i b z => by simpa using g2 i b (by simpa using z)⟩
  | none :: ls, none :: ds, ρ, ss, h => by simp only [bld] at h; cases h
  | none :: ls, [], ρ, ss, h => by simp only [bld] at h; cases h
  | some (i, b) :: ls, none :: ds, ρ, ss, h => by
    simp only [bld] at h
    obtain ⟨s, hs, h⟩ := Option.bind_eq_some_iff.mp h
    obtain ⟨s0, h0, hs⟩ := Option.bind_eq_some_iff.mp hs
    obtain ⟨r, hr, e⟩ := Option.map_eq_some_iff.mp h
    subst e
    obtain ⟨l, g⟩ := bld_get hr
    refine ⟨by simp [l], fun k => ?_⟩
    cases k with
    | zero => exact ⟨fun z => by simp at z, fun i' b' z => by
        simp at z
        obtain ⟨z1, z2⟩ := z
        subst z1 z2
        exact ⟨s0, s, h0, hs, rfl⟩⟩
    | succ k =>
      obtain ⟨g1, g2⟩ := g k
      exact ⟨fun z => by simpa using g1 (by simpa using z), fun i b z => by simpa using g2 i b (by simpa using z)⟩
  | some (i, b) :: ls, some d :: ds, ρ, ss, h => by simp only [bld] at h; cases h
  | some (i, b) :: ls, [], ρ, ss, h => by simp only [bld] at h; cases h

/-- slot j behind the call -/
def BackAt (ls : List Ln) (ss os ρ : Sl) (j : Nat) (s : Slot) : Prop :=
  (ρ[j]? = some s ∧ ∀ (k : Nat) (d : D), ls[k]? = some (some (j, true)) → ss[k]? ≠ some (Slot.pin d)) ∨
  (∃ (k : Nat) (d d1 : D), ls[k]? = some (some (j, true)) ∧ ss[k]? = some (Slot.pin d1) ∧ os[k]? = some (Slot.pin d) ∧ ((s = .own d ∧ ∃ d0, ρ[j]? = some (Slot.own d0)) ∨ (s = .pin d ∧ ∃ d0, ρ[j]? = some (Slot.pin d0))))
theorem back_skip {l : Ln} {ls : List Ln} {a b : Slot} {ss os ρ ρ' : Sl} (hn : ∀ i d, l = some (i, true) → a ≠ .pin d) (ih : ∀ {ρ ρ' : Sl}, back ls ss os ρ = some ρ' → ρ'.length = ρ.length ∧ ∀ j s, ρ'[j]? = some s → BackAt ls ss os ρ j s)
    (h : back ls ss os ρ = some ρ') : ρ'.length = ρ.length ∧ ∀ j s, ρ'[j]? = some s → BackAt (l :: ls) (a :: ss) (b :: os) ρ j s := by
  obtain ⟨l1, g⟩ := ih h
  refine ⟨l1, fun j s hs => ?_⟩
  rcases g j s hs with ⟨h1, h2⟩ | ⟨k, d, d1, h1, h2, h3, h4⟩
  · refine .inl ⟨h1, fun k d hk => ?_⟩
    cases k with
    | zero =>
      have e : l = some (j, true) := by simpa using hk
      intro z
      exact hn j d e (by simpa using z)
    | succ k => simpa using h2 k d (by simpa using hk)
  · exact .inr ⟨k + 1, d, d1, by simpa using h1, by simpa using h2, by simpa using h3, h4⟩
theorem back_get : ∀ {ls : List Ln} {ss os ρ ρ' : Sl}, lnB ls = true → back ls ss os ρ = some ρ' → ρ'.length = ρ.length ∧ ∀ j s, ρ'[j]? = some s → BackAt ls ss os ρ j s
  | [], [], [], ρ, ρ', _, h => by
    simp only [back] at h
    cases h
    exact ⟨rfl, fun j s hs => .inl ⟨hs, fun k d hk => by simp at hk⟩⟩
  | [], [], _ :: _, ρ, ρ', _, h => by simp only [back] at h; cases h
  | [], _ :: _, os, ρ, ρ', _, h => by simp only [back] at h; cases h
  | l :: ls, [], os, ρ, ρ', _, h => by cases l with
    | none => simp only [back] at h; cases h
    | some p => obtain ⟨i, b⟩ := p; cases b <;> (simp only [back] at h; cases h)
  | none :: ls, a :: ss, [], ρ, ρ', _, h => by simp only [back] at h; cases h
  | none :: ls, a :: ss, b :: os, ρ, ρ', hb, h => by
    simp only [back] at h
    exact back_skip (by intro i d e; cases e) (fun {ρ ρ'} h => back_get (lnB_tail hb) h) h
  | some (i, false) :: ls, a :: ss, [], ρ, ρ', _, h => by simp only [back] at h; cases h
  | some (i, false) :: ls, a :: ss, b :: os, ρ, ρ', hb, h => by
    simp only [back] at h
    exact back_skip (by intro i d e; cases e) (fun {ρ ρ'} h => back_get (lnB_tail hb) h) h
  | some (i, true) :: ls, .no :: ss, [], ρ, ρ', _, h => by simp only [back] at h; cases h
  | some (i, true) :: ls, .own _ :: ss, [], ρ, ρ', _, h => by simp only [back] at h; cases h
  | some (i, true) :: ls, .ro _ :: ss, [], ρ, ρ', _, h => by simp only [back] at h; cases h
  | some (i, true) :: ls, .ex _ :: ss, [], ρ, ρ', _, h => by simp only [back] at h; cases h
  | some (i, true) :: ls, .no :: ss, b :: os, ρ, ρ', hb, h => by
    simp only [back] at h
    exact back_skip (by intro i d e z; cases z) (fun {ρ ρ'} h => back_get (lnB_tail hb) h) h
  | some (i, true) :: ls, .own _ :: ss, b :: os, ρ, ρ', hb, h => by
    simp only [back] at h
    exact back_skip (by intro i d e z; cases z) (fun {ρ ρ'} h => back_get (lnB_tail hb) h) h
  | some (i, true) :: ls, .ro _ :: ss, b :: os, ρ, ρ', hb, h => by
    simp only [back] at h
    exact back_skip (by intro i d e z; cases z) (fun {ρ ρ'} h => back_get (lnB_tail hb) h) h
  | some (i, true) :: ls, .ex _ :: ss, b :: os, ρ, ρ', hb, h => by
    simp only [back] at h
    exact back_skip (by intro i d e z; cases z) (fun {ρ ρ'} h => back_get (lnB_tail hb) h) h
  | some (i, true) :: ls, .pin _ :: ss, [], ρ, ρ', _, h => by simp only [back] at h; cases h
  | some (i, true) :: ls, .pin _ :: ss, .no :: os, ρ, ρ', _, h => by simp only [back] at h; cases h
  | some (i, true) :: ls, .pin _ :: ss, .own _ :: os, ρ, ρ', _, h => by simp only [back] at h; cases h
  | some (i, true) :: ls, .pin _ :: ss, .ro _ :: os, ρ, ρ', _, h => by simp only [back] at h; cases h
  | some (i, true) :: ls, .pin _ :: ss, .ex _ :: os, ρ, ρ', _, h => by simp only [back] at h; cases h
  | some (i, true) :: ls, .pin d1 :: ss, .pin d :: os, ρ, ρ', hb, h => by
    simp only [back] at h
    obtain ⟨ρ1, h1, h⟩ := Option.bind_eq_some_iff.mp h
    obtain ⟨l1, g⟩ := back_get (lnB_tail hb) h
    have notail : ∀ k b, ls[k]? ≠ some (some (i, b)) := fun k b z => absurd (lnB_head hb z).1 (by simp)
    have key : ρ1.length = ρ.length ∧ ∃ s, ρ1 = ρ.set i s ∧ ((s = .own d ∧ ∃ d0, ρ[i]? = some (.own d0)) ∨ (s = .pin d ∧ ∃ d0, ρ[i]? = some (.pin d0))) := by
      unfold putBack at h1
      split at h1
      · rename_i d0 e
        cases h1
        exact ⟨by rw [List.length_set], _, rfl, .inl ⟨rfl, d0, e⟩⟩
      · rename_i d0 e
        cases h1
        exact ⟨by rw [List.length_set], _, rfl, .inr ⟨rfl, d0, e⟩⟩
      · cases h1
    obtain ⟨l2, sn, e1, hs1⟩ := key
    refine ⟨l1.trans l2, fun j s hs => ?_⟩
    by_cases ej : j = i
    · subst ej
      rcases g j s hs with ⟨h2, h3⟩ | ⟨k, d', d1', h2, _⟩
      · have lt : j < ρ.length := by
          rcases hs1 with ⟨_, d0, e⟩ | ⟨_, d0, e⟩
          · exact (List.getElem?_eq_some_iff.mp e).1
          · exact (List.getElem?_eq_some_iff.mp e).1
        rw [e1, List.getElem?_set_self lt] at h2
        cases h2
        exact .inr ⟨0, d, d1, rfl, rfl, rfl, hs1⟩
      · exact absurd h2 (notail k true)
    · rcases g j s hs with ⟨h2, h3⟩ | ⟨k, d', d1', h2, h3, h4, h5⟩
      · rw [e1, List.getElem?_set_ne (Ne.symm ej)] at h2
        refine .inl ⟨h2, fun k d hk => ?_⟩
        cases k with
        | zero =>
          simp at hk
          exact absurd hk.symm ej
        | succ k => simpa using h3 k d (by simpa using hk)
      · rw [e1, List.getElem?_set_ne (Ne.symm ej)] at h5
        exact .inr ⟨k + 1, d', d1', by simpa using h2, by simpa using h3, by simpa using h4, h5⟩

def eCall (ls : List Ln) (f : FS) (ms : ML) : ME := fun ρ => (ms ρ).bind fun ds ρ1 => match bld ls ds ρ1 with
  | none => .stuck
  | some ss => (match f ss with
    | .ok d os => (match back ls ss os ρ1 with
      | some ρ2 => .ok (.own d) ρ2
      | none => .stuck)
    | .exc x os => (match back ls ss os ρ1 with
      | some ρ2 => .exc x ρ2
      | none => .stuck)
    | .stuck => .stuck)

/-- a slot of a def's parameter does not lean on the exception in hand -/
theorem slotR.pmI {pm pm' : Par} {H : Hp} {Z S F : AS} {s : Slot} {x : Option V} (eK : pm.K = pm'.K) (h : slotR pm H Z S F s x) (n : ∀ e, s ≠ .ex e) : slotR pm' H Z S F s x := by
  cases s with
  | no => exact True.intro
  | own d => obtain ⟨v, e, r⟩ := h; exact ⟨v, e, eK ▸ r⟩
  | pin d => obtain ⟨v, e, r⟩ := h; exact ⟨v, e, eK ▸ r⟩
  | ro d => obtain ⟨v, e, r⟩ := h; exact ⟨v, e, eK ▸ r⟩
  | ex e => exact absurd rfl (n e)
section
variable {X : Cx} {I : Option (Addr × Value × Option Addr)} {W : WX} {q : Bool} {σ : L2.St} {H : Hp} {K : PySem.W.Frag} {mg : Str → Option Value} {ls : List Ln} {f : FS} {ms : ML} {S : AS}
/-- the callee's cells -/
def cF (ls : List Ln) (F G : FA) : FA := fun k a => (ls[k]? = some none ∧ G k a) ∨ ∃ i, ls[k]? = some (some (i, true)) ∧ F i a
/-- what the callee must leave: ours, and all that isn't lent to be changed -/
def cS (ls : List Ln) (S : AS) (F : FA) : AS := fun a => S a ∨ ∃ i, F i a ∧ ∀ k : Nat, ls[k]? ≠ some (some (i, true))
/-- our cells behind the call -/
def cB (ls : List Ln) (F F' : FA) : FA := fun j a => (F j a ∧ ∀ k : Nat, ls[k]? ≠ some (some (j, true))) ∨ ∃ k : Nat, ls[k]? = some (some (j, true)) ∧ F' k a
theorem into {Z : AS} {F : FA} {ρ0 ρ : Sl} {H0 : Hp} {Z0 : AS} {F0 : FA} {ds : List (Option D)} {vs : List V} {G : FA} {ss : Sl} (hl : lnB ls = true) (o : OkL ⟨K, mg, I⟩ S σ q ls H0 Z0 F0 ρ0 ds ρ vs H Z F G) (h : bld ls ds ρ = some ss) :
    Sta (pmX K mg) H Z (cS ls S F) ss (vs.map some) (cF ls F G) := by
  obtain ⟨lss, g⟩ := bld_get h
  have atk : ∀ {k : Nat} {v : V}, vs[k]? = some v → at_ (vs.map some) k = some v := fun {k v} e => by
    unfold at_
    rw [List.getElem?_map, e]
    rfl
  refine ⟨by rw [List.length_map, lss, o.len.1], fun k s hs => ?_, fun j k a h1 h2 => ?_, fun k a h1 => ?_, fun a z => ?_⟩
  · have lk : k < ls.length := by rw [← lss]; exact (List.getElem?_eq_some_iff.mp hs).1
    cases hk : ls[k]? with
    | none => rw [List.getElem?_eq_none_iff] at hk; omega
    | some l =>
      cases l with
      | none =>
        obtain ⟨d, v, e1, e2, r⟩ := o.own k hk
        obtain ⟨d', e3, e4⟩ := (g k).1 hk
        rw [e1] at e3
        cases e3
        rw [hs] at e4
        cases e4
        exact ⟨v, atk e2, r.stay Ex.rfl.staysF (fun _ z => z) fun a z => .inl ⟨hk, z⟩⟩
      | some p =>
        obtain ⟨i, b⟩ := p
        obtain ⟨v, e1, e2, e3⟩ := o.lent k i b hk
        obtain ⟨s0, s1, h0, h1, h2⟩ := (g k).2 i b hk
        rw [hs] at h2
        cases h2
        have hsl := o.sta.slot i s0 h0
        have ai : at_ σ i = some v := by unfold at_; rw [e2]; rfl
        have lend : ∀ {d : D}, rep true K Z H d v (F i) → slotR (pmX K mg) H Z (cS ls S F) (cF ls F G k) (if b = true then .pin d else .ro d) (at_ (vs.map some) k) := fun {d} r => by
          cases b with
          | true => exact ⟨v, atk e1, r.stay Ex.rfl.staysF (fun _ z => z) fun a z => .inr ⟨i, hk, z⟩⟩
          | false => exact ⟨v, atk e1, r.ro.stay Ex.rfl.staysF (fun _ z => z) fun a z => .inr ⟨i, z, fun k' e => by
              have := lnB_ok hl e hk
              subst this
              rw [hk] at e
              cases e⟩⟩
        have imm : ∀ {p : P}, conP K Z H p v → slotR (pmX K mg) H Z (cS ls S F) (cF ls F G k) (.own (.imm p)) (at_ (vs.map some) k) := fun {p} c => ⟨v, atk e1, by simp only [rep]; exact c⟩
        cases s0 with
        | no => cases h1
        | ex e => cases h1
        | own d =>
          obtain ⟨w, e, r⟩ := hsl
          rw [ai] at e
          cases e
          cases d with
          | imm p => cases h1; exact imm (rep_imm r)
          | lst ds => cases h1; exact lend r
          | dct ks ds => cases h1; exact lend r
        | pin d =>
          obtain ⟨w, e, r⟩ := hsl
          rw [ai] at e
          cases e
          cases d with
          | imm p => cases h1; exact imm (rep_imm r)
          | lst ds => cases h1; exact lend r
          | dct ks ds => cases h1; exact lend r
        | ro d =>
          obtain ⟨w, e, r⟩ := hsl
          rw [ai] at e
          cases e
          have rr : rep false K Z H d v (cS ls S F) := r.stay Ex.rfl.staysF (fun _ z => z) fun a z => .inl z
          cases d with
          | imm p => cases h1; exact imm (rep_imm r)
          | lst ds => cases b with
            | true => cases h1
            | false => cases h1; exact ⟨v, atk e1, rr⟩
          | dct ks ds => cases b with
            | true => cases h1
            | false => cases h1; exact ⟨v, atk e1, rr⟩
  · rcases h1 with ⟨_, h1⟩ | ⟨i, e1, h1⟩
    · rcases h2 with ⟨_, h2⟩ | ⟨i', e2, h2⟩
      · exact o.dj j k a h1 h2
      · exact absurd ⟨i', h2⟩ (o.dis a ⟨j, h1⟩).2.2.2
    · rcases h2 with ⟨_, h2⟩ | ⟨i', e2, h2⟩
      · exact absurd ⟨i, h1⟩ (o.dis a ⟨k, h2⟩).2.2.2
      · have := o.sta.disj i i' a h1 h2
        subst this
        exact lnB_ok hl e1 e2
  · rcases h1 with ⟨_, h1⟩ | ⟨i, e1, h1⟩
    · obtain ⟨d1, d2, d3, d4⟩ := o.dis a ⟨k, h1⟩
      exact ⟨d1, d2, fun z => z.elim d3 fun ⟨i, y, _⟩ => d4 ⟨i, y⟩⟩
    · obtain ⟨d1, d2, d3⟩ := o.sta.own i a h1
      refine ⟨d1, d2, fun z => z.elim d3 fun ⟨i', y, n⟩ => ?_⟩
      have := o.sta.disj i i' a h1 y
      subst this
      exact n k e1
  · rcases z with z | z | ⟨i, z, _⟩
    · exact o.sta.dom a (.inl z)
    · exact o.sta.dom a (.inr z)
    · exact (o.sta.own i a z).1.some
theorem backAt_slot {pm : Par} {H' : Hp} {Z Z' : AS} {F F' G : FA} {ρ ss os : Sl} {vs : List V} {j : Nat} {s : Slot} (eK : pm.K = K) (sR : Sta pm H Z S ρ σ F) (so : Sta (pmX K mg) H' Z' (cS ls S F) os (vs.map some) F')
    (st : ∀ a, S a ∨ (∃ j, F j a ∧ ∀ k : Nat, ls[k]? ≠ some (some (j, true))) → ∀ o, H a = some o → H' a = some o) (sz : StaysF Z (fun _ => False) H H') (zm : ∀ a, Z a → Z' a)
    (hlent : ∀ (k i : Nat) (b : Bool), ls[k]? = some (some (i, b)) → ∃ v, vs[k]? = some v ∧ σ[i]? = some (some v)) (hss : ∀ (k i : Nat) (b : Bool), ls[k]? = some (some (i, b)) → ∃ s0 s, ρ[i]? = some s0 ∧ slotFor b s0 = some s ∧ ss[k]? = some s) (hb : BackAt ls ss os ρ j s) :
    slotR pm H' Z' S (cB ls F F' j) s (at_ σ j) := by
  rcases hb with ⟨h1, h2⟩ | ⟨k, d, d1, h1, h2, h3, h4⟩
  · have hsl := sR.slot j s h1
    by_cases hm : ∃ k : Nat, ls[k]? = some (some (j, true))
    · obtain ⟨k, hk⟩ := hm
      obtain ⟨s0, s1, e0, e1, e2⟩ := hss k j true hk
      rw [h1] at e0
      cases e0
      have hnp := fun d => h2 k d hk
      have imm : ∀ {p : P} {x : Option V}, (∃ v, x = some v ∧ rep true pm.K Z H (.imm p) v (F j)) → ∃ v, x = some v ∧ rep true pm.K Z' H' (.imm p) v (cB ls F F' j) := fun {p x} ⟨v, e, r⟩ => ⟨v, e, by
        simp only [rep] at r ⊢
        exact r.stay sz.base zm⟩
      cases s with
      | no => exact True.intro
      | ex e => cases e1
      | own d =>
        cases d with
        | imm p => exact imm hsl
        | lst ds => cases e1; exact absurd e2 (hnp _)
        | dct ks ds => cases e1; exact absurd e2 (hnp _)
      | pin d =>
        cases d with
        | imm p => exact imm hsl
        | lst ds => cases e1; exact absurd e2 (hnp _)
        | dct ks ds => cases e1; exact absurd e2 (hnp _)
      | ro d =>
        cases d with
        | imm p =>
          obtain ⟨v, e, r⟩ := hsl
          refine ⟨v, e, ?_⟩
          simp only [rep] at r ⊢
          exact r.stay sz.base zm
        | lst ds => cases e1
        | dct ks ds => cases e1
    · have nm : ∀ k : Nat, ls[k]? ≠ some (some (j, true)) := fun k z => hm ⟨k, z⟩
      refine (hsl.stay (Z' := Z') (F' := cB ls F F' j) (fun a o e z => ?_) zm fun a z => .inl ⟨z, nm⟩)
      rcases z with z | z | z
      · exact sz a o e (.inl z)
      · rcases z with z | z
        · exact st a (.inr ⟨j, z, nm⟩) o e
        · exact st a (.inl z) o e
      · exact sz a o e (.inr (.inr z))
  · obtain ⟨v, e1, e2⟩ := hlent k j true h1
    have ho := so.slot k (.pin d) h3
    obtain ⟨w, e3, r⟩ := ho
    have ew : at_ (vs.map some) k = some v := by unfold at_; rw [List.getElem?_map, e1]; rfl
    rw [ew] at e3
    cases e3
    have ej : at_ σ j = some v := by unfold at_; rw [e2]; rfl
    have r2 : rep true pm.K Z' H' d v (cB ls F F' j) := by
      rw [eK]
      exact r.stay Ex.rfl.staysF (fun _ z => z) fun a z => .inr ⟨k, h1, z⟩
    rcases h4 with ⟨e, _⟩ | ⟨e, _⟩
    · subst e
      exact ⟨v, ej, r2⟩
    · subst e
      exact ⟨v, ej, r2⟩
theorem noMut_ok {ls : List Ln} (h : noMut ls = true) {k i : Nat} (e : ls[k]? = some (some (i, true))) : False := by
  have := List.all_eq_true.mp h _ (List.mem_of_getElem? e)
  simp at this
structure Aft (pm : Par) (S : AS) (σ : L2.St) (q : Bool) (H : Hp) (Z : AS) (F : FA) (ρ ρ' : Sl) (H' : Hp) (Z' : AS) (F' : FA) (G : AS) : Prop where
  sta : Sta pm H' Z' S ρ' σ F'
  go : Go H Z (un F) H' Z' (fun a => un F' a ∨ G a)
  qt : q = true → Ex H H' ∧ F' = F
  kp : KeepE ρ ρ'
  nG : ∀ a, G a → ¬ un F' a
theorem after_call {Z : AS} {F : FA} {ρ0 ρ ρ2 : Sl} {H0 H' : Hp} {Z0 Z' : AS} {F0 F' : FA} {ds : List (Option D)} {vs : List V} {G : FA} {ss os : Sl} {Gr : AS} (hl : lnB ls = true) (o : OkL ⟨K, mg, I⟩ S σ q ls H0 Z0 F0 ρ0 ds ρ vs H Z F G) (h : bld ls ds ρ = some ss)
    (hb : back ls ss os ρ = some ρ2) (so : Sta (pmX K mg) H' Z' (cS ls S F) os (vs.map some) F') (go : Go H Z (un (cF ls F G)) H' Z' (fun a => un F' a ∨ Gr a)) (dG : ∀ a, Gr a → ¬ (cS ls S F) a ∧ ¬ un F' a) :
    Aft ⟨K, mg, I⟩ S σ (q && noMut ls) H0 Z0 F0 ρ0 ρ2 H' Z' (cB ls F F') Gr := by
  obtain ⟨l2, bg⟩ := back_get hl hb
  have ci := into hl o h
  -- cells that are ours and not lent to be changed are no cells of the callee
  have nc : ∀ j a, F j a → (∀ k : Nat, ls[k]? ≠ some (some (j, true))) → ¬ un (cF ls F G) a := fun j a hf nm ⟨k, hk⟩ => by
    rcases hk with ⟨_, hk⟩ | ⟨i, e, hk⟩
    · exact (o.dis a ⟨k, hk⟩).2.2.2 ⟨j, hf⟩
    · have := o.sta.disj j i a hf hk
      subst this
      exact nm k e
  have nS : ∀ a, S a → ¬ un (cF ls F G) a := fun a hs ⟨k, hk⟩ => by
    rcases hk with ⟨_, hk⟩ | ⟨i, e, hk⟩
    · exact (o.dis a ⟨k, hk⟩).2.2.1 hs
    · exact (o.sta.own i a hk).2.2 hs
  have nZ : ∀ a, Z a → ¬ un (cF ls F G) a := fun a hs ⟨k, hk⟩ => (ci.own k a hk).2.1 hs
  have ownC : ∀ a, un (cF ls F G) a → Own H a := fun a ⟨k, hk⟩ => (ci.own k a hk).1
  have sz : StaysF Z (fun _ => False) H H' := go.staysF nZ ownC fun a z => z.elim
  have nF' : ∀ j k a, F j a → (∀ k : Nat, ls[k]? ≠ some (some (j, true))) → F' k a → False := fun j k a hf nm hk => by
    rcases go.nt a (.inl ⟨k, hk⟩) with z | z
    · exact nc j a hf nm z
    · exact (o.sta.own j a hf).1.some z
  have ap : Sta ⟨K, mg, I⟩ H' Z' S ρ2 σ (cB ls F F') := by
    refine ⟨by rw [l2]; exact o.sta.len, fun j s hs => ?_, fun j j' a h1 h2 => ?_, fun j a h1 => ?_, fun a z => so.dom a (z.elim .inl fun y => .inr (.inl y))⟩
    · refine backAt_slot (K := K) (pm := ⟨K, mg, I⟩) (H := H) (Z := Z) (G := G) rfl o.sta so (fun a z ob e => go.keep a ob e ?_) sz go.zm (fun k i b hk => ?_) (fun k i b hk => ((bld_get h).2 k).2 i b hk) (bg j s hs)
      · rcases z with z | ⟨j, z, nm⟩
        · exact nS a z
        · exact nc j a z nm
      · obtain ⟨v, e1, e2, _⟩ := o.lent k i b hk
        exact ⟨v, e1, e2⟩
    · rcases h1 with ⟨h1, n1⟩ | ⟨k, e1, h1⟩
      · rcases h2 with ⟨h2, n2⟩ | ⟨k', e2, h2⟩
        · exact o.sta.disj j j' a h1 h2
        · exact (nF' j k' a h1 n1 h2).elim
      · rcases h2 with ⟨h2, n2⟩ | ⟨k', e2, h2⟩
        · exact (nF' j' k a h2 n2 h1).elim
        · have := so.disj k k' a h1 h2
          subst this
          rw [e1] at e2
          cases e2
          rfl
    · rcases h1 with ⟨h1, n1⟩ | ⟨k, e1, h1⟩
      · obtain ⟨⟨ob, e, m⟩, d2, d3⟩ := o.sta.own j a h1
        refine ⟨⟨ob, go.keep a ob e (nc j a h1 n1), m⟩, fun z => ?_, d3⟩
        rcases go.nz a z with y | y | y
        · exact d2 y
        · exact nc j a h1 n1 y
        · rw [y] at e; cases e
      · obtain ⟨d1, d2, d3⟩ := so.own k a h1
        exact ⟨d1, d2, fun z => d3 (.inl z)⟩
  refine ⟨ap, o.go.cut go (fun a ⟨k, t⟩ => ?_) fun a t => ?_, fun z => ⟨?_, ?_⟩, o.kp.trans fun i => ⟨fun d e => ?_, fun d e => ?_, fun d e => ?_⟩, fun a g ⟨j, t⟩ => ?_⟩
  · rcases t with ⟨_, t⟩ | ⟨i, _, t⟩
    · exact .inr ⟨k, t⟩
    · exact .inl ⟨i, t⟩
  · rcases t with ⟨j, t⟩ | t
    · rcases t with ⟨t, _⟩ | ⟨k, _, t⟩
      · exact .inr (.inl ⟨j, t⟩)
      · exact .inl (.inl ⟨k, t⟩)
    · exact .inl (.inr t)
  · intro a ob e
    obtain ⟨x1, x2⟩ := o.qt (and_l z)
    refine go.keep a ob (x1 a ob e) fun ⟨k, t⟩ => ?_
    rcases t with ⟨_, t⟩ | ⟨i, e2, t⟩
    · rcases o.go.nt a (.inr ⟨k, t⟩) with y | y
      · rw [← x2] at y
        exact (o.dis a ⟨k, t⟩).2.2.2 y
      · rw [e] at y; cases y
    · exact noMut_ok (and_r z) e2
  · rw [← (o.qt (and_l z)).2]
    funext j a
    refine propext ⟨fun t => ?_, fun t => .inl ⟨t, fun k e => noMut_ok (and_r z) e⟩⟩
    rcases t with ⟨t, _⟩ | ⟨k, e, _⟩
    · exact t
    · exact (noMut_ok (and_r z) e).elim
  · have lt : i < ρ2.length := by rw [l2]; exact (List.getElem?_eq_some_iff.mp e).1
    obtain ⟨s, hs⟩ : ∃ s, ρ2[i]? = some s := ⟨ρ2[i], List.getElem?_eq_getElem lt⟩
    rcases bg i s hs with ⟨h1, _⟩ | ⟨k, d', d1, _, _, _, ⟨_, d0, h4⟩ | ⟨h4, _⟩⟩
    · rw [e] at h1; cases h1; exact ⟨d, hs⟩
    · rw [e] at h4; cases h4
    · subst h4; exact ⟨d', hs⟩
  · have lt : i < ρ2.length := by rw [l2]; exact (List.getElem?_eq_some_iff.mp e).1
    obtain ⟨s, hs⟩ : ∃ s, ρ2[i]? = some s := ⟨ρ2[i], List.getElem?_eq_getElem lt⟩
    rcases bg i s hs with ⟨h1, _⟩ | ⟨k, d', d1, _, _, _, ⟨_, d0, h4⟩ | ⟨_, d0, h4⟩⟩
    · rw [e] at h1; cases h1; exact hs
    · rw [e] at h4; cases h4
    · rw [e] at h4; cases h4
  · rcases bg i _ e with ⟨h1, _⟩ | ⟨k, d', d1, _, _, _, ⟨h4, _⟩ | ⟨h4, _⟩⟩
    · exact h1
    · cases h4
    · cases h4
  · rcases t with ⟨t, nm⟩ | ⟨k, _, t⟩
    · exact (dG a g).1 (.inr ⟨j, t, nm⟩)
    · exact (dG a g).2 ⟨k, t⟩
theorem call_op {n : Nat} {Q : VK} (hl : lnB ls = true) (hn : ls.length = n) (h : tE ⟨K, mg, I⟩ W (q && noMut ls) (eCall ls f ms) σ H Q) : tCallS (spD K mg n f) (WE W) (tL ⟨K, mg, I⟩ W q ls ms) σ H Q := by
  obtain ⟨ρ, Z, S, F, s, h⟩ := h
  refine ⟨ρ, Z, S, F, s, ?_⟩
  unfold eCall at h
  revert h
  cases ms ρ with
  | stuck => exact fun h => h
  | exc x ρ1 => exact fun h => h
  | ok ds ρ1 =>
    intro h vs H1 Z1 F1 G o
    rw [R.bind_ok] at h
    split at h
    case h_1 => exact h.elim
    rename_i ss hb
    refine ⟨ss, Z1, cS ls S F1, cF ls F1 G, by rw [(bld_get hb).1]; exact hn, into hl o hb, ?_⟩
    revert h
    cases f ss with
    | stuck => exact fun h => h.elim
    | ok d os =>
      intro h v H' Z' F' Gr of
      have h : postE ⟨K, mg, I⟩ W S σ (q && noMut ls) H Z F ρ Q (match back ls ss os ρ1 with
        | some ρ2 => .ok (.own d) ρ2
        | none => .stuck) := h
      split at h
      case h_2 => exact h.elim
      rename_i ρ2 hk
      have a := after_call hl o hb hk of.sta of.go fun a g => ⟨(of.val.2 a g).2.2.1, (of.val.2 a g).2.2.2⟩
      exact h v H' Z' _ Gr ⟨a.sta, ⟨of.val.1, fun x g => ⟨(of.val.2 x g).1, (of.val.2 x g).2.1, fun z => (of.val.2 x g).2.2.1 (.inl z), a.nG x g⟩⟩, a.go, a.qt, a.kp⟩
    | exc x os =>
      intro h c dd H' Z' F' of
      have h : postE ⟨K, mg, I⟩ W S σ (q && noMut ls) H Z F ρ Q (match back ls ss os ρ1 with
        | some ρ2 => .exc x ρ2
        | none => .stuck) := h
      split at h
      case h_2 => exact h.elim
      rename_i ρ2 hk
      have a := after_call (Gr := fun _ => False) hl o hb hk of.sta (of.go.less fun a t => t.elim id False.elim) fun a g => g.elim
      exact h c dd H' Z' _ ⟨a.sta, of.exc, a.go.less fun a t => .inl t, a.kp⟩
/-- f(e, ..), f a def of the program -/
theorem DE.call {k : Nat} {g : Addr} {fd : FuncData} {ps : List Str} {x : Str} {p pos : Pos} {e : Expr} {es : List Expr} (Fn : FnOk X.prog X.w X.K X.mg X.base (L2.CX X.prog X.w) k g fd ps (spD X.K X.mg ps.length f)) (hr : Room k X.A) (hm : X.mg x = some (.ref g))
    (hk : PySem.W.keepIn X.K (.ref g) = true) (hb : Binds X.K fd ps []) (tk : Takes X W) (ha : DL X I W q (e :: es) ls ms) (hg : Gl X x := by rfl) (hl : lnB ls = true := by rfl) (hn : ls.length = ps.length := by rfl) (hdb : (x == ("__debug__" : Str)) = false := by decide)
    (he : starEach (e :: es) X.env = (false, eval e X.env) :: starEach es X.env := by rfl) (hpl : (backTo pos (starEach es X.env)).any (·.1) = false := by rfl) : DE X I W (q && noMut ls) (.Call (.Name x p) (e :: es) [] pos) (eCall ls f ms) :=
  PE.imp (pe_callS Fn hr hg hm hk hb (fun σ => passAt tk σ) ha hdb he hpl) fun σ H Q h => call_op hl hn h
end
end MV

set_option Elab.async false
set_option linter.all false
set_option maxRecDepth 100000
set_option maxHeartbeats 4000000
/-! MV8: for loops over what stands still; comprehensions. -/
namespace MV
open PySem L2 PyProof.Rows

/-! ### locks: what is walked is only read meanwhile -/
def SR.mapS (f : Sl → Sl) : SR → SR
  | .nx ρ => .nx (f ρ)
  | .bk ρ => .bk (f ρ)
  | .ct ρ => .ct (f ρ)
  | .rt d ρ => .rt d (f ρ)
  | .exc x ρ => .exc x (f ρ)
  | .stuck => .stuck
section
variable {pm : Par} {W : WX} {S L : AS} {σ σ' : L2.St} {H H' : Hp} {Z Z' : AS} {F F' : FA} {ρ ρ' : Sl} {N : Ends} {x : Nat} {s : Slot} {d : D}
/-- what a loop's end is worth outside the lock of a temporary's cells -/
theorem unlockT (s0 : Sta pm H Z S ρ σ F) (hL : ∀ a, L a → Own H a ∧ ¬ Z a ∧ ¬ S a ∧ ¬ un F a) (s1 : Sta pm H' Z' (fun a => S a ∨ L a) ρ' σ' F') (go : Go H Z (un F) H' Z' (un F')) (kp : Keep ρ σ ρ' σ') : Sta pm H' Z' S ρ' σ' F' := by
  refine ⟨s1.len, fun j sl h => ?_, s1.disj, fun j a h => ⟨(s1.own j a h).1, (s1.own j a h).2.1, fun z => (s1.own j a h).2.2 (.inl z)⟩, fun a z => s1.dom a (z.elim .inl fun y => .inr (.inl y))⟩
  have hs := s1.slot j sl h
  cases sl with
  | ro d =>
    have hr := (kp j).2.2 d h
    obtain ⟨e1, _⟩ := (kp j).2.1 d hr
    have h0 := s0.slot j (.ro d) hr
    rw [e1]
    obtain ⟨v, e, r⟩ := h0
    refine ⟨v, e, r.stay (s0.go_staysF go fun a z t => ?_) go.zm fun _ z => z⟩
    obtain ⟨i, t⟩ := t
    exact (s0.own i a t).2.2 z
  | no => exact True.intro
  | own d => exact hs
  | pin d => exact hs
  | ex e => exact hs
theorem lockT (s0 : Sta pm H Z S ρ σ F) (hL : ∀ a, L a → Own H a ∧ ¬ Z a ∧ ¬ S a ∧ ¬ un F a) : Sta pm H Z (fun a => S a ∨ L a) ρ σ F :=
  ⟨s0.len, fun j sl h => by
    have hs := s0.slot j sl h
    cases sl with
    | ro d =>
      obtain ⟨v, e, r⟩ := hs
      exact ⟨v, e, r.stay Ex.rfl.staysF (fun _ z => z) fun _ z => .inl z⟩
    | no => exact True.intro
    | own d => exact hs
    | pin d => exact hs
    | ex e => exact hs, s0.disj, fun j a h => ⟨(s0.own j a h).1, (s0.own j a h).2.1, fun z => z.elim (s0.own j a h).2.2 fun y => (hL a y).2.2.2 ⟨j, h⟩⟩, fun a z => z.elim (fun y => s0.dom a (.inl y)) fun y => y.elim (fun q => s0.dom a (.inr q)) fun q => (hL a q).1.some⟩
/-- a slot of one's own is locked -/
theorem lockS (s0 : Sta pm H Z S ρ σ F) (hx : ρ[x]? = some s) (hs : s = .own d ∨ s = .pin d) : Sta pm H Z (fun a => S a ∨ F x a) (ρ.set x (.ro d)) σ (clr F x) := by
  have lt := (List.getElem?_eq_some_iff.mp hx).1
  have t := s0.take (i := x)
  refine ⟨by rw [List.length_set]; exact s0.len, fun j sl h => ?_, t.disj, fun j a h => ⟨(s0.own j a h.2).1, (s0.own j a h.2).2.1, fun z => z.elim (s0.own j a h.2).2.2 fun y => h.1 (s0.disj j x a h.2 y)⟩,
    fun a z => z.elim (fun y => s0.dom a (.inl y)) fun y => y.elim (fun q => s0.dom a (.inr q)) fun q => (s0.own x a q).1.some⟩
  by_cases e : j = x
  · subst e
    rw [List.getElem?_set_self lt] at h
    cases h
    have h0 := s0.slot j s hx
    have : ∃ v, at_ σ j = some v ∧ rep true pm.K Z H d v (F j) := by
      rcases hs with hs | hs
      · subst hs; exact h0
      · subst hs; exact h0
    obtain ⟨v, e, r⟩ := this
    exact ⟨v, e, r.ro.stay Ex.rfl.staysF (fun _ z => z) fun _ z => .inr z⟩
  · rw [List.getElem?_set_ne (Ne.symm e)] at h
    have h0 := s0.slot j sl h
    cases sl with
    | ro d =>
      obtain ⟨v, e, r⟩ := h0
      exact ⟨v, e, r.stay Ex.rfl.staysF (fun _ z => z) fun _ z => .inl z⟩
    | no => exact True.intro
    | own d => obtain ⟨v, e1, r⟩ := h0; exact ⟨v, e1, r.stay Ex.rfl.staysF (fun _ z => z) fun a z => ⟨e, z⟩⟩
    | pin d => obtain ⟨v, e1, r⟩ := h0; exact ⟨v, e1, r.stay Ex.rfl.staysF (fun _ z => z) fun a z => ⟨e, z⟩⟩
    | ex e => exact h0
def unF (F F' : FA) (x : Nat) : FA := fun j a => (j ≠ x ∧ F' j a) ∨ (j = x ∧ F x a)
structure Unl (pm : Par) (S : AS) (σ : L2.St) (H : Hp) (Z : AS) (F : FA) (ρ : Sl) (x : Nat) (s : Slot) (ρ' : Sl) (σ' : L2.St) (H' : Hp) (Z' : AS) (F' : FA) (G : AS) : Prop where
  sta : Sta pm H' Z' S (ρ'.set x s) σ' (unF F F' x)
  go : Go H Z (un F) H' Z' (fun a => un (unF F F' x) a ∨ G a)
  keep : Keep ρ σ (ρ'.set x s) σ'
  nG : (∀ a, G a → ¬ F x a) → (∀ a, G a → ¬ un F' a) → ∀ a, G a → ¬ un (unF F F' x) a
theorem unlockS {G : AS} (s0 : Sta pm H Z S ρ σ F) (hx : ρ[x]? = some s) (hs : s = .own d ∨ s = .pin d) (s1 : Sta pm H' Z' (fun a => S a ∨ F x a) ρ' σ' F') (go : Go H Z (un (clr F x)) H' Z' (fun a => un F' a ∨ G a)) (kp : Keep (ρ.set x (.ro d)) σ ρ' σ') :
    Unl pm S σ H Z F ρ x s ρ' σ' H' Z' F' G := by
  have lt := (List.getElem?_eq_some_iff.mp hx).1
  have hro : (ρ.set x (.ro d))[x]? = some (.ro d) := List.getElem?_set_self lt
  obtain ⟨eσ, hρ'⟩ := (kp x).2.1 d hro
  have lt' := (List.getElem?_eq_some_iff.mp hρ').1
  have h0 : ∃ v, at_ σ x = some v ∧ rep true pm.K Z H d v (F x) := by
    have h0 := s0.slot x s hx
    rcases hs with hs | hs
    · subst hs; exact h0
    · subst hs; exact h0
  have nx : ∀ a, F x a → ¬ un (clr F x) a := fun a h ⟨i, n, t⟩ => n (s0.disj i x a t h)
  have nS : ∀ a, S a → ¬ un (clr F x) a := fun a h ⟨i, n, t⟩ => (s0.own i a t).2.2 h
  have nZ : ∀ a, Z a → ¬ un (clr F x) a := fun a h ⟨i, n, t⟩ => (s0.own i a t).2.1 h
  have own0 : ∀ a, un (clr F x) a → Own H a := fun a ⟨i, n, t⟩ => (s0.own i a t).1
  have stx : StaysF Z (fun a => F x a ∨ S a) H H' := go.staysF nZ own0 fun a z => z.elim (nx a) (nS a)
  have nox : ∀ j a, j ≠ x → F' j a → ¬ F x a := fun j a n h z => (s1.own j a h).2.2 (.inr z)
  refine ⟨⟨by rw [List.length_set]; exact s1.len, fun j sl h => ?_, fun j k a h1 h2 => ?_, fun j a h => ?_, fun a z => s1.dom a (z.elim .inl fun y => .inr (.inl y))⟩, ⟨fun a o e t => go.keep a o e fun ⟨i, n, y⟩ => t ⟨i, y⟩, go.zm, fun a z => ?_, fun a t => ?_, fun a t => ?_⟩, fun j => ?_, fun hg1 hg2 a g ⟨j, t⟩ => ?_⟩
  · by_cases e : j = x
    · subst e
      rw [List.getElem?_set_self lt'] at h
      cases h
      rw [eσ]
      obtain ⟨v, e, r⟩ := h0
      have r' : rep true pm.K Z' H' d v (unF F F' j j) := r.stay (stx.sub fun a z => .inl z) go.zm fun a z => .inr ⟨Eq.refl _, z⟩
      rcases hs with hs | hs
      · subst hs; exact ⟨v, e, r'⟩
      · subst hs; exact ⟨v, e, r'⟩
    · rw [List.getElem?_set_ne (Ne.symm e)] at h
      have h1 := s1.slot j sl h
      cases sl with
      | ro d' =>
        have hr := (kp j).2.2 d' h
        obtain ⟨e1, _⟩ := (kp j).2.1 d' hr
        rw [List.getElem?_set_ne (Ne.symm e)] at hr
        have h0 := s0.slot j (.ro d') hr
        rw [e1]
        obtain ⟨v, e, r⟩ := h0
        exact ⟨v, e, r.stay (stx.sub fun a z => .inr z) go.zm fun _ z => z⟩
      | no => exact True.intro
      | own d => obtain ⟨v, e1, r⟩ := h1; exact ⟨v, e1, r.stay Ex.rfl.staysF (fun _ z => z) fun a z => .inl ⟨e, z⟩⟩
      | pin d => obtain ⟨v, e1, r⟩ := h1; exact ⟨v, e1, r.stay Ex.rfl.staysF (fun _ z => z) fun a z => .inl ⟨e, z⟩⟩
      | ex e => exact h1
  · rcases h1 with ⟨n1, h1⟩ | ⟨e1, h1⟩
    · rcases h2 with ⟨n2, h2⟩ | ⟨e2, h2⟩
      · exact s1.disj j k a h1 h2
      · exact (nox j a n1 h1 h2).elim
    · rcases h2 with ⟨n2, h2⟩ | ⟨e2, h2⟩
      · exact (nox k a n2 h2 h1).elim
      · rw [e1, e2]
  · rcases h with ⟨n1, h⟩ | ⟨e1, h⟩
    · obtain ⟨a1, a2, a3⟩ := s1.own j a h
      exact ⟨a1, a2, fun z => a3 (.inl z)⟩
    · obtain ⟨⟨o, e, m⟩, a2, a3⟩ := s0.own x a h
      refine ⟨⟨o, go.keep a o e (nx a h), m⟩, fun z => ?_, a3⟩
      rcases go.nz a z with y | y | y
      · exact a2 y
      · exact nx a h y
      · rw [y] at e; cases e
  · rcases go.nz a z with y | ⟨i, n, y⟩ | y
    · exact .inl y
    · exact .inr (.inl ⟨i, y⟩)
    · exact .inr (.inr y)
  · have back : un (clr F x) a ∨ H a = none → un F a ∨ H a = none := fun y => y.elim (fun ⟨i, n, q⟩ => .inl ⟨i, q⟩) .inr
    rcases t with ⟨j, ⟨n, t⟩ | ⟨e, t⟩⟩ | t
    · exact back (go.nt a (.inl ⟨j, t⟩))
    · exact .inl ⟨x, t⟩
    · exact back (go.nt a (.inr t))
  · obtain ⟨i, t⟩ := t
    by_cases e : i = x
    · subst e
      obtain ⟨⟨o, q, m⟩, _⟩ := s0.own i a t
      rw [go.keep a o q (nx a t)]
      exact fun z => nomatch z
    · exact go.dm a ⟨i, e, t⟩
  · by_cases e : j = x
    · subst e
      rw [hx, List.getElem?_set_self lt']
      refine ⟨fun d' q => ?_, fun d' q => ?_, fun d' q => ?_⟩
      · cases q; exact ⟨eσ, d', rfl⟩
      · cases q
        rcases hs with hs | hs <;> cases hs
      · cases q
        rcases hs with hs | hs <;> cases hs
    · have kj := kp j
      rw [List.getElem?_set_ne (Ne.symm e)] at kj
      rw [List.getElem?_set_ne (Ne.symm e)]
      exact kj
  · rcases t with ⟨n, t⟩ | ⟨e, t⟩
    · exact hg2 a g ⟨j, t⟩
    · exact hg1 a g t
end

/-! ### loops -/
structure Stands (K : PySem.W.Frag) (J : It) (ps : List P) (Hst : AS → Hp → Prop) : Prop where
  go : ∀ Z i H, Hst Z H → i < ps.length → J.go i H
  yld : ∀ Z i H x H', Hst Z H → i < ps.length → J.yld i H x H' → H' = H ∧ ∃ p, ps[i]? = some p ∧ conP K Z H p x
  stop : ∀ Z i H, Hst Z H → ps.length ≤ i → J.stop i H
@[irreducible] def forL (tg : Tg) (b : MS) : List P → MS
  | [], ρ => .nx ρ
  | p :: ps, ρ => match bindG tg (.imm p) ρ with
    | none => .stuck
    | some ρ1 => (match b ρ1 with
      | .nx ρ2 => forL tg b ps ρ2
      | .ct ρ2 => forL tg b ps ρ2
      | .bk ρ2 => .nx ρ2
      | r => r)
theorem forL_ok {pm : Par} {W : WX} {S : AS} {J : It} {ps : List P} {Hst : AS → Hp → Prop} {tg : Tg} {b : MS} {N : Ends} {σ : L2.St} {H : Hp} {Z : AS} {F : FA} {ρ : Sl} (st : Stands pm.K J ps Hst)
    (stay : ∀ Z H Z' H', Hst Z H → StaysF Z S H H' → (∀ a, Z a → Z' a) → Hst Z' H') (s : Sta pm H Z S ρ σ F) (h0 : Hst Z H) (h : postS pm W S σ H Z F ρ N (forL tg b ps ρ)) :
    ∃ Wf : Nat → Nat → L2.St → Hp → Prop, (∃ m, Wf 0 m σ H) ∧ ∀ i m σ H, Wf i m σ H →
      (J.stop i H ∧ N.nx σ H) ∨ (J.go i H ∧ ∃ Nx : L2.St → Hp → Prop, (∀ σ' H', Nx σ' H' → ∃ m', m' < m ∧ Wf (i + 1) m' σ' H') ∧ ∀ x H', J.yld i H x H' → tG pm.K tg x σ H' fun σ2 H2 => tS pm W b { N with nx := Nx, ct := Nx, bk := N.nx } σ2 H2) := by
  refine ⟨fun i m σ H => m = ps.length - i ∧ i ≤ ps.length ∧ ∃ ρ Z F, Sta pm H Z S ρ σ F ∧ Hst Z H ∧ postS pm W S σ H Z F ρ N (forL tg b (ps.drop i) ρ), ⟨ps.length, by simp, Nat.zero_le _, ρ, Z, F, s, h0, h⟩, ?_⟩
  rintro i m σ H ⟨rfl, hi, ρ, Z, F, s, h0, h⟩
  by_cases hlt : i < ps.length
  · refine .inr ⟨st.go Z i H h0 hlt, fun σ' H' => ∃ ρ Z F, Sta pm H' Z S ρ σ' F ∧ Hst Z H' ∧ postS pm W S σ' H' Z F ρ N (forL tg b (ps.drop (i + 1)) ρ), fun σ' H' q => ⟨ps.length - (i + 1), by omega, rfl, hlt, q⟩, fun x H' hy => ?_⟩
    obtain ⟨e, p, hp, c⟩ := st.yld Z i H x H' h0 hlt hy
    subst e
    have ed : ps.drop i = p :: ps.drop (i + 1) := by
      have := List.getElem?_eq_some_iff.mp hp
      obtain ⟨l, e⟩ := this
      rw [List.drop_eq_getElem_cons l, e]
    rw [ed] at h
    simp only [forL] at h
    split at h
    case h_1 => exact h.elim
    rename_i ρ1 hb
    refine bindG_ok s (valR.imm c) hb fun σ2 F2 o _ => ⟨ρ1, Z, S, F2, o.sta, ?_⟩
    have o1 : OkS pm S σ H' Z F ρ ρ1 σ2 H' Z F2 := ⟨o.sta, (Go.rfl s.dm).less fun a t => (o.sub a t).elim id False.elim, o.keep⟩
    have h := h.after o1
    have fin : ∀ {ρ2 : Sl} {σ3 : L2.St} {H3 : Hp} {Z3 : AS} {F3 : FA}, OkS pm S σ2 H' Z F2 ρ1 ρ2 σ3 H3 Z3 F3 → postS pm W S σ2 H' Z F2 ρ1 N (forL tg b (ps.drop (i + 1)) ρ2) → ∃ ρ Z F, Sta pm H3 Z S ρ σ3 F ∧ Hst Z H3 ∧ postS pm W S σ3 H3 Z F ρ N (forL tg b (ps.drop (i + 1)) ρ) := fun {ρ2 σ3 H3 Z3 F3} q h =>
      ⟨ρ2, Z3, F3, q.sta, stay Z H' Z3 H3 h0 (o.sta.go_staysF q.go fun a z ⟨j, t⟩ => (o.sta.own j a t).2.2 z) q.go.zm, h.after q⟩
    revert h
    cases b ρ1 with
    | nx ρ2 => exact fun h σ3 H3 Z3 F3 q => fin q h
    | ct ρ2 => exact fun h σ3 H3 Z3 F3 q => fin q h
    | bk ρ2 => exact fun h => h
    | rt d ρ2 => exact fun h => h
    | exc x ρ2 => exact fun h => h
    | stuck => exact fun h => h
  · have e : i = ps.length := by omega
    subst e
    rw [List.drop_length] at h
    simp only [forL] at h
    exact .inl ⟨st.stop Z _ H h0 (Nat.le_refl _), h σ H Z F s.okS⟩

/-! ### what is walked -/
def SeqR (K : PySem.W.Frag) (x : V) (H1 : Hp) (R : It → Hp → Prop) : Prop :=
  (∃ a xs, x = .ref a ∧ SqL K H1 a xs ∧ R (Itl K a) H1) ∨ (∃ a xs, x = .ref a ∧ SqT K H1 a xs ∧ R (Itt K a) H1) ∨ ∃ z, x = .str z ∧ R (Its z) H1
def iSeq (K : PySem.W.Frag) (tl : TE) : TI := fun σ H R => tl σ H fun x H1 => SeqR K x H1 R
theorem pi_seq {X : Cx} {tg l : Expr} {tl : TE} (hl : PE X l tl) : PI X tg l (iSeq X.K tl) := by
  refine ⟨fun pins s σ H R I h => ?_⟩
  refine thn (hl.run pins s σ H _ I h) fun v s1 ⟨x, H1, I1, r1, q1⟩ => ?_
  rcases q1 with ⟨a, xs, e, hq, q⟩ | ⟨a, xs, e, hq, q⟩ | ⟨z, e, q⟩
  · subst e
    cases r1
    obtain ⟨its, rv, p, hz⟩ := I1.list hq
    refine wpAny_pyIter_list p.isList ?_
    refine ⟨s1.heap.objs.size, [s1.heap.objs.size], _, _, H1, rfl, I1.kept (t' := s1.toks) fun b o e => Heap.get?_push_of_some _ e, turn_list a _, ⟨_, Heap.get?_push_size _ rfl, rfl, rfl⟩, fun b hb => ?_, q⟩
    have e : b = s1.heap.objs.size := by simpa using hb
    subst e
    exact I1.fpOk (Nat.le_refl _) (I1.hok.fresh (Nat.le_refl _))
  · subst e
    cases r1
    obtain ⟨its, rv, p, hz⟩ := I1.tuple hq
    refine wpAny_pyIter_tuple (show s1.heap.IsTuple a its.toArray from p) ?_
    refine ⟨s1.heap.objs.size, [s1.heap.objs.size], _, _, H1, rfl, I1.kept (t' := s1.toks) fun b o e => Heap.get?_push_of_some _ e, turn_tuple a _, ⟨_, Heap.get?_push_size _ rfl, rfl, rfl⟩, fun b hb => ?_, q⟩
    have e : b = s1.heap.objs.size := by simpa using hb
    subst e
    exact I1.fpOk (Nat.le_refl _) (I1.hok.fresh (Nat.le_refl _))
  · subst e
    obtain ⟨t, rfl⟩ := r1
    cases ha : z.cps.all (· < 128)
    · exact wpAny_pyIter_wide ha (pi_one (tk := s1.toks) I1 _ (turn_str _ z t "str_iterator" (.inr rfl)) ⟨_, Heap.get?_push_size _ rfl, rfl, rfl⟩ q)
    · exact wpAny_pyIter_ascii ha (pi_one (tk := s1.toks) I1 _ (turn_str _ z t "str_ascii_iterator" (.inl rfl)) ⟨_, Heap.get?_push_size _ rfl, rfl, rfl⟩ q)
theorem conPs.get {K : PySem.W.Frag} {Z : AS} {H : Hp} : ∀ {ps : List P} {vs : List V} {i : Nat} {v : V}, conPs K Z H ps vs → vs[i]? = some v → ∃ p, ps[i]? = some p ∧ conP K Z H p v
  | [], vs, i, v, h, e => by simp only [conPs] at h; rw [h] at e; simp at e
  | p :: ps, vs, 0, v, h, e => by
    simp only [conPs] at h
    obtain ⟨w, r, e1, h1, h2⟩ := h
    rw [e1] at e
    simp at e
    subst e
    exact ⟨p, rfl, h1⟩
  | p :: ps, vs, i + 1, v, h, e => by
    simp only [conPs] at h
    obtain ⟨w, r, e1, h1, h2⟩ := h
    rw [e1] at e
    obtain ⟨q, e2, c⟩ := conPs.get h2 (show r[i]? = some v by simpa using e)
    exact ⟨q, by simpa using e2, c⟩
theorem stands_list {K : PySem.W.Frag} {a : Addr} {ps : List P} {vs : List V} : Stands K (Itl K a) ps (fun Z H => SqL K H a vs ∧ conPs K Z H ps vs) where
  go := fun Z i H ⟨h, c⟩ hi => ⟨vs, vs[i]'(by rw [← c.length]; exact hi), h, by rw [List.getElem?_eq_getElem]⟩
  yld := fun Z i H x H' ⟨h, c⟩ _ ⟨e, y⟩ => by
    subst e
    obtain ⟨p, e1, e2⟩ := c.get (y vs h)
    exact ⟨rfl, p, e1, e2⟩
  stop := fun Z i H ⟨h, c⟩ hi => ⟨vs, h, by rw [← c.length]; exact hi⟩
theorem stands_tup {K : PySem.W.Frag} {a : Addr} {ps : List P} {vs : List V} : Stands K (Itt K a) ps (fun Z H => SqT K H a vs ∧ conPs K Z H ps vs) where
  go := fun Z i H ⟨h, c⟩ hi => ⟨vs, vs[i]'(by rw [← c.length]; exact hi), h, by rw [List.getElem?_eq_getElem]⟩
  yld := fun Z i H x H' ⟨h, c⟩ _ ⟨e, y⟩ => by
    subst e
    obtain ⟨p, e1, e2⟩ := c.get (y vs h)
    exact ⟨rfl, p, e1, e2⟩
  stop := fun Z i H ⟨h, c⟩ hi => ⟨vs, h, by rw [← c.length]; exact hi⟩
def signs (z : Str) : List P := z.cps.toList.map fun c => .str ⟨#[c]⟩
theorem stands_str {K : PySem.W.Frag} {z : Str} : Stands K (Its z) (signs z) (fun _ _ => True) where
  go := fun Z i H _ hi => by
    unfold signs at hi
    rw [List.length_map, Array.length_toList] at hi
    exact hi
  yld := fun Z i H x H' _ _ ⟨e, c, e1, e2⟩ => by
    refine ⟨e, .str ⟨#[c]⟩, ?_, by simp only [conP]; exact e2⟩
    unfold signs
    rw [List.getElem?_map, Array.getElem?_toList, e1]
    rfl
  stop := fun Z i H _ hi => by
    unfold signs at hi
    rw [List.length_map, Array.length_toList] at hi
    exact hi
def rngL (lo : Int) (n : Nat) : List P := (List.range n).map fun (i : Nat) => .int (lo + i)
theorem stands_rng {K : PySem.W.Frag} {lo : Int} {n : Nat} : Stands K (Itr lo n) (rngL lo n) (fun _ _ => True) where
  go := fun Z i H _ hi => by
    unfold rngL at hi
    rw [List.length_map, List.length_range] at hi
    exact hi
  yld := fun Z i H x H' _ hi ⟨e, e1⟩ => by
    refine ⟨e, .int (lo + i), ?_, by simp only [conP]; exact e1⟩
    unfold rngL at hi ⊢
    rw [List.length_map, List.length_range] at hi
    rw [List.getElem?_map, List.getElem?_range hi]
    rfl
  stop := fun Z i H _ hi => by
    unfold rngL at hi
    rw [List.length_map, List.length_range] at hi
    exact hi
def rngC (lo c : Int) (n : Nat) : List P := (List.range n).map fun (i : Nat) => .int (lo + i * c)
theorem stands_rngC {K : PySem.W.Frag} {lo c : Int} {n : Nat} : Stands K (Itc lo c n) (rngC lo c n) (fun _ _ => True) where
  go := fun Z i H _ hi => by
    unfold rngC at hi
    rw [List.length_map, List.length_range] at hi
    exact hi
  yld := fun Z i H x H' _ hi ⟨e, e1⟩ => by
    refine ⟨e, .int (lo + i * c), ?_, by simp only [conP]; exact e1⟩
    unfold rngC at hi ⊢
    rw [List.length_map, List.length_range] at hi
    rw [List.getElem?_map, List.getElem?_range hi]
    rfl
  stop := fun Z i H _ hi => by
    unfold rngC at hi
    rw [List.length_map, List.length_range] at hi
    exact hi

/-! ### the judgement of what is walked: its items; a slot that is locked meanwhile -/
abbrev MI := Sl → R (List P × Option Nat)
def lkL (lk : Option Nat) (F : FA) : AS := match lk with
  | some x => F x
  | none => fun _ => False
structure OkI (pm : Par) (S : AS) (σ : L2.St) (H : Hp) (Z : AS) (F : FA) (ρ : Sl) (ps : List P) (lk : Option Nat) (ρ' : Sl) (J : It) (Hst : AS → Hp → Prop) (H' : Hp) (Z' : AS) (F' : FA) (L : AS) : Prop where
  sta : Sta pm H' Z' S ρ' σ F'
  st : Stands pm.K J ps Hst
  hst : Hst Z' H'
  stay : ∀ Z1 H1 Z2 H2, Hst Z1 H1 → StaysF Z1 (fun a => (S a ∨ lkL lk F' a) ∨ L a) H1 H2 → (∀ a, Z1 a → Z2 a) → Hst Z2 H2
  dis : ∀ a, L a → Own H' a ∧ ¬ Z' a ∧ ¬ S a ∧ ¬ un F' a
  go : Go H Z (un F) H' Z' (fun a => un F' a ∨ L a)
  kp : KeepE ρ ρ'
def postI (pm : Par) (W : WX) (S : AS) (σ : L2.St) (H : Hp) (Z : AS) (F : FA) (ρ : Sl) (Q : It → Hp → Prop) : R (List P × Option Nat) → Prop
  | .ok (ps, lk) ρ' => ∀ J Hst H' Z' F' L, OkI pm S σ H Z F ρ ps lk ρ' J Hst H' Z' F' L → Q J H'
  | .exc x ρ' => ∀ c dd H' Z' F', XcE pm S σ H Z F ρ x ρ' c dd H' Z' F' → W c dd σ H'
  | .stuck => False
def tI (pm : Par) (W : WX) (m : MI) : TI := fun σ H Q => ∃ ρ Z S F, Sta pm H Z S ρ σ F ∧ postI pm W S σ H Z F ρ Q (m ρ)
def DI (X : Cx) (I : Option (Addr × Value × Option Addr)) (W : WX) (tg e : Expr) (m : MI) : Prop := PI X tg e (tI ⟨X.K, X.mg, I⟩ W m)
theorem PI.imp {X : Cx} {tg e : Expr} {t t' : TI} (h : PI X tg e t) (f : ∀ σ H Q, t' σ H Q → t σ H Q) : PI X tg e t' := ⟨fun pins s σ H Q I q => h.run pins s σ H Q I (f σ H Q q)⟩
def allImm : List D → Option (List P)
  | [] => some []
  | .imm p :: ds => (allImm ds).map fun r => p :: r
  | _ => none
theorem allImm_ok {m : Bool} {K : PySem.W.Frag} {Z : AS} {H : Hp} : ∀ {ds : List D} {ps : List P} {vs : List V} {F : AS}, allImm ds = some ps → reps m K Z H ds vs F → conPs K Z H ps vs
  | [], ps, vs, F, h, r => by
    simp only [allImm] at h
    cases h
    simp only [reps] at r
    simp only [conPs]
    exact r
  | .imm p :: ds, ps, vs, F, h, r => by
    simp only [allImm] at h
    obtain ⟨r', h1, e⟩ := Option.map_eq_some_iff.mp h
    subst e
    simp only [reps] at r
    obtain ⟨v, r2, F1, F2, e, _, _, _, h4, h5⟩ := r
    simp only [conPs]
    exact ⟨v, r2, e, rep_imm h4, allImm_ok h1 h5⟩
  | .lst _ :: ds, ps, vs, F, h, r => by simp only [allImm] at h; cases h
  | .dct _ _ :: ds, ps, vs, F, h, r => by simp only [allImm] at h; cases h
def isOwn : Option Slot → Bool
  | some (.own _) => true
  | some (.pin _) => true
  | _ => false
def isRo : Option Slot → Bool
  | some (.ro _) => true
  | _ => false
/-- a tuple, a list, a text -/
def iSq (m : ME) : MI := fun ρ => (m ρ).bind fun v ρ1 => match v with
  | .own (.imm (.tup ps)) => .ok (ps, none) ρ1
  | .own (.imm (.lst ps)) => .ok (ps, none) ρ1
  | .own (.imm (.str z)) => .ok (signs z, none) ρ1
  | .own (.lst ds) => (match allImm ds with
    | some ps => .ok (ps, none) ρ1
    | none => .stuck)
  | .bor (.lst ds) x => (match allImm ds with
    | some ps => if isOwn ρ1[x]? = true then .ok (ps, some x) ρ1 else if isRo ρ1[x]? = true then .ok (ps, none) ρ1 else .stuck
    | none => .stuck)
  | _ => .stuck
theorem cell_sq {m : Bool} {K : PySem.W.Frag} {H : Hp} {a : Addr} {vs : List V} (h : cell m H a (.lst vs)) : SqL K H a vs := .inl h.rd
theorem iSq_ok {pm : Par} {W : WX} {q : Bool} {m : ME} {σ : L2.St} {H : Hp} {Q : It → Hp → Prop} (h : tI pm W (iSq m) σ H Q) : iSeq pm.K (tE pm W q m) σ H Q := by
  obtain ⟨ρ, Z, S, F, s, h⟩ := h
  refine ⟨ρ, Z, S, F, s, ?_⟩
  unfold iSq at h
  revert h
  cases m ρ with
  | stuck => exact fun h => h
  | exc x ρ1 => exact fun h => h
  | ok val ρ1 =>
    intro h v H1 Z1 F1 G ok
    rw [R.bind_ok] at h
    have sqStay : ∀ {a : Addr} {vs : List V} {ps : List P} {L' : AS} (_ : L' a) (Z1 : AS) (H1 : Hp) (Z2 : AS) (H2 : Hp), ((L' a ∧ Rd H1 a (.lst vs)) ∧ conPs pm.K Z1 H1 ps vs) → StaysF Z1 L' H1 H2 → (∀ a, Z1 a → Z2 a) → ((L' a ∧ Rd H2 a (.lst vs)) ∧ conPs pm.K Z2 H2 ps vs) := fun {a vs ps L'} l Z1 H1 Z2 H2 ⟨⟨h1, h2⟩, h3⟩ st zm => by
      refine ⟨⟨h1, ?_⟩, h3.stay st.base zm⟩
      rcases h2 with h2 | ⟨ob, h2⟩
      · exact .inl (st _ _ h2 (.inr (.inl l)))
      · exact .inr ⟨ob, st _ _ h2 (.inr (.inl l))⟩
    split at h
    · -- a tuple
      rename_i ps
      have c := rep_imm ok.val.1
      simp only [conP] at c
      obtain ⟨a, vs, e, h1, h2⟩ := c
      refine .inr (.inl ⟨a, vs, e, h1, h _ (fun Z H => SqT pm.K H a vs ∧ conPs pm.K Z H ps vs) H1 Z1 F1 G ⟨ok.sta, stands_tup, ⟨h1, h2⟩, fun Z1 H1 Z2 H2 hh st zm => ⟨st.base.sqT hh.1, hh.2.stay st.base zm⟩, ok.val.2, ok.go, ok.kp⟩⟩)
    · -- a frozen list
      rename_i ps
      have c := rep_imm ok.val.1
      simp only [conP] at c
      obtain ⟨a, vs, e, h1, h2⟩ := c
      refine .inl ⟨a, vs, e, h1.sq, h _ (fun Z H => frzL pm.K Z H a vs ∧ conPs pm.K Z H ps vs) H1 Z1 F1 G ⟨ok.sta, ⟨fun Z i H hh hi => stands_list.go Z i H ⟨hh.1.sq, hh.2⟩ hi, fun Z i H x H' hh hi y => stands_list.yld Z i H x H' ⟨hh.1.sq, hh.2⟩ hi y, fun Z i H hh hi => stands_list.stop Z i H ⟨hh.1.sq, hh.2⟩ hi⟩, ⟨h1, h2⟩, fun Z1 H1 Z2 H2 hh st zm => ⟨hh.1.stay st.base zm, hh.2.stay st.base zm⟩, ok.val.2, ok.go, ok.kp⟩⟩
    · -- a text
      rename_i z
      have c := rep_imm ok.val.1
      simp only [conP] at c
      exact .inr (.inr ⟨z, c, h _ (fun _ _ => True) H1 Z1 F1 G ⟨ok.sta, stands_str, True.intro, fun _ _ _ _ _ _ _ => True.intro, ok.val.2, ok.go, ok.kp⟩⟩)
    · -- a list of one's own
      rename_i ds
      split at h
      · rename_i ps hp
        obtain ⟨hr, hd⟩ := ok.val
        simp only [rep] at hr
        obtain ⟨a, vs, e, g1, h1, h2⟩ := hr
        refine .inl ⟨a, vs, e, cell_sq h1, h _ (fun Z H => (G a ∧ Rd H a (.lst vs)) ∧ conPs pm.K Z H ps vs) H1 Z1 F1 G ⟨ok.sta, ⟨fun Z i H hh hi => stands_list.go Z i H ⟨.inl hh.1.2, hh.2⟩ hi, fun Z i H x H' hh hi y => stands_list.yld Z i H x H' ⟨.inl hh.1.2, hh.2⟩ hi y, fun Z i H hh hi => stands_list.stop Z i H ⟨.inl hh.1.2, hh.2⟩ hi⟩, ⟨⟨g1, h1.rd⟩, allImm_ok hp h2⟩, fun Z1 H1 Z2 H2 hh st zm => sqStay g1 Z1 H1 Z2 H2 hh (st.sub fun b z => .inr z) zm, hd, ok.go, ok.kp⟩⟩
      · exact h.elim
    · -- a list that is looked at
      rename_i ds x
      split at h
      · rename_i ps hp
        obtain ⟨hr, hd⟩ := ok.val
        simp only [rep] at hr
        obtain ⟨a, vs, e, g1, h1, h2⟩ := hr
        have st2 : ∀ lk, (∀ b, F1 x b ∨ S b → S b ∨ lkL lk F1 b) → OkI pm S σ H Z F ρ ps lk ρ1 (Itl pm.K a) (fun Z H => ((F1 x a ∨ S a) ∧ Rd H a (.lst vs)) ∧ conPs pm.K Z H ps vs) H1 Z1 F1 G := fun lk hlk => ⟨ok.sta, ⟨fun Z i H hh hi => stands_list.go Z i H ⟨.inl hh.1.2, hh.2⟩ hi, fun Z i H x H' hh hi y => stands_list.yld Z i H x H' ⟨.inl hh.1.2, hh.2⟩ hi y, fun Z i H hh hi => stands_list.stop Z i H ⟨.inl hh.1.2, hh.2⟩ hi⟩, ⟨⟨g1, h1.rd⟩, allImm_ok hp h2⟩,
          fun Z1 H1 Z2 H2 hh st zm => sqStay (L' := fun b => F1 x b ∨ S b) g1 Z1 H1 Z2 H2 hh (st.sub fun b z => .inl (hlk b z)) zm, fun b z => (hd b z).elim, ok.go, ok.kp⟩
        split at h
        · exact .inl ⟨a, vs, e, cell_sq h1, h _ _ H1 Z1 F1 G (st2 (some x) fun b z => z.elim .inr .inl)⟩
        · split at h
          · rename_i hro
            refine .inl ⟨a, vs, e, cell_sq h1, h (Itl pm.K a) (fun Z H => ((F1 x a ∨ S a) ∧ Rd H a (.lst vs)) ∧ conPs pm.K Z H ps vs) H1 Z1 (clr F1 x) (F1 x) ?_⟩
            have o1 := st2 (some x) fun b z => z.elim .inr .inl
            refine ⟨?_, o1.st, o1.hst, fun Z1 H1 Z2 H2 hh st zm => o1.stay Z1 H1 Z2 H2 hh (st.sub fun b z => ?_) zm, fun b z => ⟨(ok.sta.own x b z).1, (ok.sta.own x b z).2.1, (ok.sta.own x b z).2.2, fun ⟨j, n, t⟩ => n (ok.sta.disj j x b t z)⟩, ok.go.less fun b t => ?_, ok.kp⟩
            · refine ⟨ok.sta.len, fun j sl hj => ?_, fun j k b h1 h2 => ok.sta.disj j k b h1.2 h2.2, fun j b hb => ok.sta.own j b hb.2, ok.sta.dom⟩
              by_cases ej : j = x
              · subst ej
                rw [hj] at hro
                cases sl with
                | ro d => exact ok.sta.slot j _ hj
                | _ => cases hro
              · exact (ok.sta.slot j sl hj).stay Ex.rfl.staysF (fun _ z => z) fun b z => ⟨ej, z⟩
            · rcases z with (z | z) | z
              · exact .inl (.inl z)
              · exact .inr z
              · exact (hd b z).elim
            · rcases t with ⟨j, n, t⟩ | t
              · exact .inl ⟨j, t⟩
              · exact .inl ⟨x, t⟩
          · exact h.elim
      · exact h.elim
    · exact h.elim
end MV

set_option Elab.async false
set_option linter.all false
set_option maxRecDepth 100000
set_option maxHeartbeats 4000000
/-! MV9: for statements, ranges, list comprehensions. -/
namespace MV
open PySem L2 PyProof.Rows

/-! ### ranges -/
def lim62 (i : Int) : Bool := decide (-(2 ^ 62) ≤ i) && decide (i < 2 ^ 62)
theorem lim62_ok {i : Int} (h : lim62 i = true) : -(2 ^ 62) ≤ i ∧ i < 2 ^ 62 := ⟨of_decide_eq_true (and_l h), of_decide_eq_true (and_r h)⟩
def rng1 : List D → Option (List P)
  | [.imm (.int j)] => if lim62 j = true then some (rngL 0 j.toNat) else none
  | _ => none
def rng2 : List D → Option (List P)
  | [.imm (.int i), .imm (.int j)] => if (lim62 i && lim62 j) = true then some (rngL i (j - i).toNat) else none
  | _ => none
/-- downward by one -/
def rng3 : List D → Option (List P)
  | [.imm (.int i), .imm (.int j), .imm (.int c)] => if (decide (c = -1) && (lim62 i && lim62 j)) = true then some (rngC i c (i - j).toNat) else none
  | _ => none
def iRg (f : List D → Option (List P)) (ms : MA) : MI := fun ρ => (ms ρ).bind fun ds ρ1 => match f ds with
  | some ps => .ok (ps, none) ρ1
  | none => .stuck
theorem vws_cons {K : PySem.W.Frag} {Z : AS} {H : Hp} {d : D} {ds : List D} {vs : List V} (h : vws K Z H (d :: ds) vs) : ∃ v r, vs = v :: r ∧ rep false K Z H d v (fun _ => True) ∧ vws K Z H ds r := by
  simp only [vws] at h
  exact h
theorem vws_nil {K : PySem.W.Frag} {Z : AS} {H : Hp} {vs : List V} (h : vws K Z H [] vs) : vs = [] := by
  simp only [vws] at h
  exact h
theorem vws1 {K : PySem.W.Frag} {Z : AS} {H : Hp} {a : D} {vs : List V} (h : vws K Z H [a] vs) : ∃ x, vs = [x] ∧ rep false K Z H a x (fun _ => True) := by
  obtain ⟨x, r, e, h1, h2⟩ := vws_cons h
  have := vws_nil h2
  subst this
  exact ⟨x, e, h1⟩
theorem vws2 {K : PySem.W.Frag} {Z : AS} {H : Hp} {a b : D} {vs : List V} (h : vws K Z H [a, b] vs) : ∃ x y, vs = [x, y] ∧ rep false K Z H a x (fun _ => True) ∧ rep false K Z H b y (fun _ => True) := by
  obtain ⟨x, r, e, h1, h2⟩ := vws_cons h
  obtain ⟨y, e2, h3⟩ := vws1 h2
  subst e2
  exact ⟨x, y, e, h1, h3⟩
theorem vws3 {K : PySem.W.Frag} {Z : AS} {H : Hp} {a b c : D} {vs : List V} (h : vws K Z H [a, b, c] vs) : ∃ x y z, vs = [x, y, z] ∧ rep false K Z H a x (fun _ => True) ∧ rep false K Z H b y (fun _ => True) ∧ rep false K Z H c z (fun _ => True) := by
  obtain ⟨x, r, e, h1, h2⟩ := vws_cons h
  obtain ⟨y, z, e2, h3, h4⟩ := vws2 h2
  subst e2
  exact ⟨x, y, z, e, h1, h3, h4⟩
theorem rep_int {m : Bool} {K : PySem.W.Frag} {Z F : AS} {H : Hp} {i : Int} {v : V} (h : rep m K Z H (.imm (.int i)) v F) : v = .int i := by
  have := rep_imm h
  simp only [conP] at this
  exact this
section
variable {X : Cx} {I : Option (Addr × Value × Option Addr)} {W : WX} {q : Bool} {pos p : Pos} {e tg : Expr} {es : List Expr} {m : ME} {ms : MA} {pm : Par} {σ : L2.St} {H : Hp}
theorem tI.ofV {f : List D → Option (List P)} {Q : It → Hp → Prop} {Q1 : List V → Hp → Prop} (h : tI pm W (iRg f ms) σ H Q)
    (hk : ∀ (Z : AS) (ds : List D) (ps : List P) (vs : List V) (H1 : Hp), vws pm.K Z H1 ds vs → f ds = some ps → (∀ J Hst, Stands pm.K J ps Hst → (∀ Z H, Hst Z H) → Q J H1) → Q1 vs H1) : tV pm W q ms σ H Q1 := by
  obtain ⟨ρ, Z, S, F, s, h⟩ := h
  refine ⟨ρ, Z, S, F, s, ?_⟩
  unfold iRg at h
  revert h
  cases ms ρ with
  | stuck => exact fun h => h
  | exc x ρ1 => exact fun h => h
  | ok ds ρ1 =>
    intro h vs H1 Z1 F1 ok
    rw [R.bind_ok] at h
    split at h
    · rename_i ps hp
      exact hk Z1 ds ps vs H1 ok.val hp fun J Hst st hh => h J Hst H1 Z1 F1 (fun _ => False) ⟨ok.sta, st, hh _ _, fun _ _ _ _ _ _ _ => hh _ _, fun a z => z.elim, ok.go.less fun a t => t.elim id False.elim, ok.kp⟩
    · exact h.elim
theorem DI.rng1 {a : Expr} (hm : X.mg "range" = none) (ha : DV X I W q [a] ms) (hg : Gl X "range" := by rfl) (hs : starEach [a] X.env = [(false, eval a X.env)] := by rfl) : DI X I W tg (.Call (.Name "range" p) [a] [] pos) (iRg rng1 ms) :=
  PI.imp (pi_range1 hg hm ha hs) fun σ H Q h => tI.ofV h fun Z ds ps vs H1 val hp k => by
    unfold MV.rng1 at hp
    split at hp
    · rename_i j
      split at hp
      · rename_i hj
        cases hp
        obtain ⟨x, e, c⟩ := vws1 val
        rw [rep_int c] at e
        obtain ⟨l1, l2⟩ := lim62_ok hj
        exact ⟨j, e, l1, l2, k _ _ stands_rng fun _ _ => True.intro⟩
      · cases hp
    · cases hp
theorem DI.rng2 {a b : Expr} (hm : X.mg "range" = none) (ha : DV X I W q [a, b] ms) (hg : Gl X "range" := by rfl) (hs : starEach [a, b] X.env = [(false, eval a X.env), (false, eval b X.env)] := by rfl) (hs2 : starEach [b] X.env = [(false, eval b X.env)] := by rfl) : DI X I W tg (.Call (.Name "range" p) [a, b] [] pos) (iRg rng2 ms) :=
  PI.imp (pi_range2 hg hm ha hs hs2) fun σ H Q h => tI.ofV h fun Z ds ps vs H1 val hp k => by
    unfold MV.rng2 at hp
    split at hp
    · rename_i i j
      split at hp
      · rename_i hj
        cases hp
        obtain ⟨x, y, e, c, c2⟩ := vws2 val
        rw [rep_int c, rep_int c2] at e
        obtain ⟨l1, l2⟩ := lim62_ok (and_l hj)
        obtain ⟨l3, l4⟩ := lim62_ok (and_r hj)
        exact ⟨i, j, e, ⟨l1, l2, l3, l4⟩, k _ _ stands_rng fun _ _ => True.intro⟩
      · cases hp
    · cases hp
theorem DI.rng3 {a b c : Expr} (hm : X.mg "range" = none) (ha : DV X I W q [a, b, c] ms) (hg : Gl X "range" := by rfl) (hs : starEach [a, b, c] X.env = (false, eval a X.env) :: starEach [b, c] X.env := by rfl) (hpl : (backTo pos (starEach [b, c] X.env)).any (·.1) = false := by rfl) : DI X I W tg (.Call (.Name "range" p) [a, b, c] [] pos) (iRg rng3 ms) :=
  PI.imp (pi_range3 hg hm ha hs hpl) fun σ H Q h => tI.ofV h fun Z ds ps vs H1 val hp k => by
    unfold MV.rng3 at hp
    split at hp
    · rename_i i j c
      split at hp
      · rename_i hj
        cases hp
        obtain ⟨x, y, z, e, c1, c2, c3⟩ := vws3 val
        rw [rep_int c1, rep_int c2, rep_int c3] at e
        obtain ⟨l1, l2⟩ := lim62_ok (and_l (and_r hj))
        obtain ⟨l3, l4⟩ := lim62_ok (and_r (and_r hj))
        have ec := of_decide_eq_true (and_l hj)
        subst ec
        exact ⟨i, j, -1, (i - j).toNat, e, RgC.neg l1 l2 l3 l4, k _ _ stands_rngC fun _ _ => True.intro⟩
      · cases hp
    · cases hp
theorem DI.seq (h : DE X I W q e m) : DI X I W tg e (iSq m) := PI.imp (pi_seq h) fun σ H Q h => iSq_ok h

/-! ### for -/
def forK (tg : Tg) (b : MS) (ps : List P) : Option Nat → MS
  | none, ρ => forL tg b ps ρ
  | some x, ρ => (match ρ[x]? with
    | some (.own d) => (forL tg b ps (ρ.set x (.ro d))).mapS fun ρ => ρ.set x (.own d)
    | some (.pin d) => (forL tg b ps (ρ.set x (.ro d))).mapS fun ρ => ρ.set x (.pin d)
    | _ => .stuck)
def sFor (tg : Tg) (mi : MI) (b : MS) : MS := fun ρ => (mi ρ).bindS fun pl ρ1 => forK tg b pl.1 pl.2 ρ1
theorem postS.lockT {S L : AS} {Z : AS} {F : FA} {ρ : Sl} {N : Ends} {r : SR} (s0 : Sta pm H Z S ρ σ F) (hL : ∀ a, L a → Own H a ∧ ¬ Z a ∧ ¬ S a ∧ ¬ un F a) (h : postS pm W S σ H Z F ρ N r) : postS pm W (fun a => S a ∨ L a) σ H Z F ρ N r := by
  revert h
  cases r with
  | nx ρ2 => exact fun h σ2 H2 Z2 F2 o => h σ2 H2 Z2 F2 ⟨unlockT s0 hL o.sta o.go o.keep, o.go, o.keep⟩
  | bk ρ2 => exact fun h σ2 H2 Z2 F2 o => h σ2 H2 Z2 F2 ⟨unlockT s0 hL o.sta o.go o.keep, o.go, o.keep⟩
  | ct ρ2 => exact fun h σ2 H2 Z2 F2 o => h σ2 H2 Z2 F2 ⟨unlockT s0 hL o.sta o.go o.keep, o.go, o.keep⟩
  | rt d ρ2 => exact fun h v σ2 H2 Z2 F2 G o => h v σ2 H2 Z2 F2 G ⟨unlockT s0 hL o.sta (o.go.less fun a t => .inl t) o.keep, ⟨o.val.1, fun a g => ⟨(o.val.2 a g).1, (o.val.2 a g).2.1, fun z => (o.val.2 a g).2.2.1 (.inl z), (o.val.2 a g).2.2.2⟩⟩, o.go, o.keep⟩
  | exc x ρ2 => exact fun h c dd σ2 H2 Z2 F2 o => h c dd σ2 H2 Z2 F2 ⟨unlockT s0 hL o.sta o.go o.keep, o.exc, o.go, o.keep⟩
  | stuck => exact fun h => h
theorem postS.lockS {S : AS} {Z : AS} {F : FA} {ρ : Sl} {N : Ends} {r : SR} {x : Nat} {s : Slot} {d : D} (s0 : Sta pm H Z S ρ σ F) (hx : ρ[x]? = some s) (hs : s = .own d ∨ s = .pin d) (h : postS pm W S σ H Z F ρ N (r.mapS fun ρ => ρ.set x s)) : postS pm W (fun a => S a ∨ F x a) σ H Z (clr F x) (ρ.set x (.ro d)) N r := by
  have key : ∀ {σ2 : L2.St} {H2 : Hp} {Z2 : AS} {F2 : FA} {ρ2 : Sl}, OkS pm (fun a => S a ∨ F x a) σ H Z (clr F x) (ρ.set x (.ro d)) ρ2 σ2 H2 Z2 F2 → OkS pm S σ H Z F ρ (ρ2.set x s) σ2 H2 Z2 (unF F F2 x) := fun {σ2 H2 Z2 F2 ρ2} o => by
    have u := unlockS (G := fun _ => False) s0 hx hs o.sta (o.go.less fun a t => t.elim id False.elim) o.keep
    exact ⟨u.sta, u.go.less fun a t => .inl t, u.keep⟩
  revert h
  cases r with
  | nx ρ2 => exact fun h σ2 H2 Z2 F2 o => h σ2 H2 Z2 _ (key o)
  | bk ρ2 => exact fun h σ2 H2 Z2 F2 o => h σ2 H2 Z2 _ (key o)
  | ct ρ2 => exact fun h σ2 H2 Z2 F2 o => h σ2 H2 Z2 _ (key o)
  | rt d2 ρ2 =>
    intro h v σ2 H2 Z2 F2 G o
    have u := unlockS s0 hx hs o.sta o.go o.keep
    refine h v σ2 H2 Z2 (unF F F2 x) G ⟨u.sta, ⟨o.val.1, fun a g => ⟨(o.val.2 a g).1, (o.val.2 a g).2.1, fun z => (o.val.2 a g).2.2.1 (.inl z), u.nG (fun a g z => (o.val.2 a g).2.2.1 (.inr z)) (fun a g => (o.val.2 a g).2.2.2) a g⟩⟩, u.go, u.keep⟩
  | exc y ρ2 =>
    intro h c dd σ2 H2 Z2 F2 o
    have u := unlockS (G := fun _ => False) s0 hx hs o.sta (o.go.less fun a t => t.elim id False.elim) o.keep
    exact h c dd σ2 H2 Z2 _ ⟨u.sta, o.exc, u.go.less fun a t => .inl t, u.keep⟩
  | stuck => exact fun h => h
theorem DS.for {iter : Expr} {body : List Stmt} {g : Tg} {mi : MI} {ms : MS} (hp : PassesOwn (model X.prog X.w) X.A X.env X.xe) (hc : X.calm = true) (hi : DI X I W tg iter mi) (hg : DG X tg g) (hb : DB X I W body ms) (hs : ∀ x, foldedSetIterable iter X.env x = pure x := by intro _; rfl) :
    DS X I W (.For tg iter body [] pos) (sFor g mi ms) := by
  refine PS.imp (ps_for hp hc hi hg hb hs) fun N σ H h => ?_
  obtain ⟨ρ, Z, S, F, s, h⟩ := h
  refine ⟨ρ, Z, S, F, s, ?_⟩
  unfold sFor at h
  revert h
  cases mi ρ with
  | stuck => exact fun h => h
  | exc x ρ1 => exact fun h c dd H1 Z1 F1 y => h c dd σ H1 Z1 F1 ⟨y.sta, y.exc, y.go, y.kp.keep⟩
  | ok pl ρ1 =>
    obtain ⟨ps, lk⟩ := pl
    intro h J Hst H1 Z1 F1 L o
    have okS : OkS ⟨X.K, X.mg, I⟩ S σ H Z F ρ ρ1 σ H1 Z1 F1 := ⟨o.sta, o.go.less fun a t => .inl t, o.kp.keep⟩
    cases lk with
    | none =>
      have h : postS ⟨X.K, X.mg, I⟩ W S σ H Z F ρ N (forL g ms ps ρ1) := h
      have h1 := (postS.after okS h).lockT o.sta o.dis
      exact forL_ok o.st (fun Z1 H1 Z2 H2 hh st zm => o.stay Z1 H1 Z2 H2 hh (st.sub fun a z => z.elim (fun y => y.elim .inl False.elim) .inr) zm) (lockT o.sta o.dis) o.hst h1
    | some x =>
      have h : postS ⟨X.K, X.mg, I⟩ W S σ H Z F ρ N (forK g ms ps (some x) ρ1) := h
      have h := postS.after okS h
      simp only [forK] at h
      have go2 : ∀ {s0 : Slot} {d : D}, ρ1[x]? = some s0 → (s0 = .own d ∨ s0 = .pin d) → postS ⟨X.K, X.mg, I⟩ W S σ H1 Z1 F1 ρ1 N ((forL g ms ps (ρ1.set x (.ro d))).mapS fun ρ => ρ.set x s0) → _ := fun {s0 d} hx hs h => by
        have h2 := h.lockS o.sta hx hs
        have s2 := MV.lockS o.sta hx hs
        have dis2 : ∀ a, L a → Own H1 a ∧ ¬ Z1 a ∧ ¬ (fun a => S a ∨ F1 x a) a ∧ ¬ un (clr F1 x) a := fun a l => ⟨(o.dis a l).1, (o.dis a l).2.1, fun z => z.elim (o.dis a l).2.2.1 fun y => (o.dis a l).2.2.2 ⟨x, y⟩, fun ⟨j, n, y⟩ => (o.dis a l).2.2.2 ⟨j, y⟩⟩
        exact forL_ok (N := N) (tg := g) (b := ms) o.st (fun Z1 H1 Z2 H2 hh st zm => o.stay Z1 H1 Z2 H2 hh st zm) (MV.lockT s2 dis2) o.hst (h2.lockT s2 dis2)
      cases hx : ρ1[x]? with
      | none => rw [hx] at h; exact h.elim
      | some s0 =>
        rw [hx] at h
        cases s0 with
        | own d => exact go2 hx (.inl rfl) h
        | pin d => exact go2 hx (.inr rfl) h
        | no => exact h.elim
        | ro d => exact h.elim
        | ex e => exact h.elim

/-! ### list comprehensions -/
def wipeS (ρ : Sl) : List Nat → Sl
  | [] => ρ
  | v :: vs => (wipeS ρ vs).set v .no
/-- the block's names hold what they held before -/
def restS (ρ ρ0 : Sl) : List Nat → Sl
  | [] => ρ
  | v :: vs => (restS ρ ρ0 vs).set v ((ρ0[v]?).getD .no)
def plainS : Option Slot → Bool
  | some .no => true
  | some (.own (.imm _)) => true
  | _ => false
def lcL (tg : Tg) (vs : List Nat) (t : MT) (m : ME) : List P → List D → Sl → R (List D)
  | [], acc, ρ => .ok acc ρ
  | p :: ps, acc, ρ => match bindG tg (.imm p) ρ with
    | none => .stuck
    | some ρ1 => (t ρ1).bind fun b ρ2 => if b = true then ((m ρ2).bind fun v ρ3 => match v with
        | .own d => if acc.length < sizeLine then lcL tg vs t m ps (acc ++ [d]) (wipeS ρ3 vs) else .stuck
        | .bor _ _ => .stuck) else lcL tg vs t m ps acc (wipeS ρ2 vs)
def noX {α : Type} : R α → R α
  | .exc _ _ => .stuck
  | r => r
/-- the end of a comprehension whose names are vs -/
def lcEnd (ρ0 : Sl) (vs : List Nat) (r : R (List D)) : R Val := match r with
  | .ok acc ρ => .ok (.own (.lst acc)) (restS ρ ρ0 vs)
  | _ => .stuck
theorem wipe_at {σ : L2.St} : ∀ {vs : List Nat} {j : Nat}, j ∉ vs → at_ (wipe σ vs) j = at_ σ j
  | [], j, h => rfl
  | v :: vs, j, h => by
    have h1 : j ≠ v := fun e => h (by rw [e]; exact List.mem_cons_self)
    have h2 : j ∉ vs := fun e => h (List.mem_cons_of_mem _ e)
    unfold wipe at_
    rw [List.getElem?_set_ne (Ne.symm h1)]
    exact wipe_at h2
theorem wipeS_len {ρ : Sl} : ∀ {vs : List Nat}, (wipeS ρ vs).length = ρ.length
  | [] => rfl
  | v :: vs => by unfold wipeS; rw [List.length_set, wipeS_len]
theorem restS_len {ρ ρ0 : Sl} : ∀ {vs : List Nat}, (restS ρ ρ0 vs).length = ρ.length
  | [] => rfl
  | v :: vs => by unfold restS; rw [List.length_set, restS_len]
theorem wipeS_out {ρ : Sl} : ∀ {vs : List Nat} {j : Nat}, j ∉ vs → (wipeS ρ vs)[j]? = ρ[j]?
  | [], j, h => rfl
  | v :: vs, j, h => by
    unfold wipeS
    rw [List.getElem?_set_ne (fun e => h (by rw [← e]; exact List.mem_cons_self))]
    exact wipeS_out fun e => h (List.mem_cons_of_mem _ e)
theorem wipeS_in {ρ : Sl} : ∀ {vs : List Nat} {j : Nat} {s : Slot}, j ∈ vs → (wipeS ρ vs)[j]? = some s → s = .no
  | [], j, s, h, _ => by simp at h
  | v :: vs, j, s, h, e => by
    unfold wipeS at e
    by_cases hv : v = j
    · subst hv
      by_cases lt : v < (wipeS ρ vs).length
      · rw [List.getElem?_set_self lt] at e; cases e; rfl
      · rw [List.getElem?_eq_none (by rw [List.length_set]; omega)] at e; cases e
    · rw [List.getElem?_set_ne hv] at e
      exact wipeS_in (by rcases List.mem_cons.mp h with h | h; exact absurd h.symm hv; exact h) e
theorem restS_out {ρ ρ0 : Sl} : ∀ {vs : List Nat} {j : Nat}, j ∉ vs → (restS ρ ρ0 vs)[j]? = ρ[j]?
  | [], j, h => rfl
  | v :: vs, j, h => by
    unfold restS
    rw [List.getElem?_set_ne (fun e => h (by rw [← e]; exact List.mem_cons_self))]
    exact restS_out fun e => h (List.mem_cons_of_mem _ e)
theorem restS_in {ρ ρ0 : Sl} : ∀ {vs : List Nat} {j : Nat} {s : Slot}, j ∈ vs → (restS ρ ρ0 vs)[j]? = some s → s = (ρ0[j]?).getD .no
  | [], j, s, h, _ => by simp at h
  | v :: vs, j, s, h, e => by
    unfold restS at e
    by_cases hv : v = j
    · subst hv
      by_cases lt : v < (restS ρ ρ0 vs).length
      · rw [List.getElem?_set_self lt] at e; cases e; rfl
      · rw [List.getElem?_eq_none (by rw [List.length_set]; omega)] at e; cases e
    · rw [List.getElem?_set_ne hv] at e
      exact restS_in (by rcases List.mem_cons.mp h with h | h; exact absurd h.symm hv; exact h) e
theorem Sta.wipe {S Z : AS} {F : FA} {ρ : Sl} {vs : List Nat} (s : Sta pm H Z S ρ σ F) : Sta pm H Z S (wipeS ρ vs) (L2.wipe σ vs) F := by
  refine ⟨by rw [wipe_length, wipeS_len]; exact s.len, fun j sl h => ?_, s.disj, s.own, s.dom⟩
  by_cases hj : j ∈ vs
  · rw [wipeS_in hj h]; exact True.intro
  · rw [wipe_at hj]
    rw [wipeS_out hj] at h
    exact s.slot j sl h
theorem Sta.rest {S Z Z0 : AS} {F F0 : FA} {ρ ρ0 : Sl} {vs : List Nat} {H0 : Hp} (s0 : Sta pm H0 Z0 S ρ0 σ F0) (hp : ∀ v ∈ vs, plainS ρ0[v]? = true) (st : Stays Z0 H0 H) (zm : ∀ a, Z0 a → Z a) (s : Sta pm H Z S ρ (L2.wipe σ vs) F) : Sta pm H Z S (restS ρ ρ0 vs) σ F := by
  refine ⟨by rw [restS_len, ← s.len, wipe_length], fun j sl h => ?_, s.disj, s.own, s.dom⟩
  by_cases hj : j ∈ vs
  · have e := restS_in hj h
    have p := hp j hj
    cases e0 : ρ0[j]? with
    | none => rw [e0] at p; cases p
    | some s1 =>
      rw [e0] at e p
      have e : sl = s1 := e
      subst e
      have h0 := s0.slot j sl e0
      cases sl with
      | no => exact True.intro
      | own d => cases d with
        | imm p =>
          obtain ⟨v, e1, r⟩ := h0
          simp only [rep] at r
          exact ⟨v, e1, by simp only [rep]; exact r.stay st zm⟩
        | lst ds => cases p
        | dct ks ds => cases p
      | pin d => cases p
      | ro d => cases p
      | ex e => cases p
  · rw [restS_out hj] at h
    have := s.slot j sl h
    rw [wipe_at hj] at this
    exact this
theorem wipe_set {vs : List Nat} : ∀ i ∈ vs, ∀ x (τ : L2.St), L2.wipe (τ.set i x) vs = L2.wipe τ vs := by
  have key : ∀ {vs : List Nat} {i : Nat} {x} {τ : L2.St}, L2.wipe (τ.set i x) vs = if i ∈ vs then L2.wipe τ vs else (L2.wipe τ vs).set i x := by
    intro vs
    induction vs with
    | nil => intro i x τ; rw [if_neg (by simp)]; rfl
    | cons v vs ih =>
      intro i x τ
      unfold L2.wipe
      rw [ih]
      by_cases h1 : i ∈ vs
      · rw [if_pos h1, if_pos (List.mem_cons_of_mem _ h1)]
      · rw [if_neg h1]
        by_cases h2 : i = v
        · subst h2
          rw [if_pos List.mem_cons_self, List.set_set]
        · rw [if_neg (by simp only [List.mem_cons, not_or]; exact ⟨h2, h1⟩), List.set_comm _ _ h2]
  intro i hi x τ
  rw [key, if_pos hi]
end
end MV

set_option Elab.async false
set_option linter.all false
set_option maxRecDepth 100000
set_option maxHeartbeats 4000000
/-! MV10: list comprehensions. -/
namespace MV
open PySem L2 PyProof.Rows

theorem wipe_wipe {σ : L2.St} {vs : List Nat} : L2.wipe (L2.wipe σ vs) vs = L2.wipe σ vs := by
  have : ∀ {us : List Nat} {τ : L2.St}, (∀ i ∈ us, i ∈ vs) → L2.wipe (L2.wipe τ us) vs = L2.wipe τ vs := by
    intro us
    induction us with
    | nil => intro τ _; rfl
    | cons u us ih =>
      intro τ h
      show L2.wipe ((L2.wipe τ us).set u none) vs = _
      rw [wipe_set u (h u List.mem_cons_self), ih fun i hi => h i (List.mem_cons_of_mem _ hi)]
  exact this fun i h => h
theorem KeepE.wipe {ρ0 ρ : Sl} {vs : List Nat} (h : KeepE (wipeS ρ0 vs) ρ) : KeepE (wipeS ρ0 vs) (wipeS ρ vs) := fun j => by
  by_cases hj : j ∈ vs
  · refine ⟨fun d e => ?_, fun d e => ?_, fun d e => ?_⟩
    · cases wipeS_in hj e
    · cases wipeS_in hj e
    · cases wipeS_in hj e
  · have := h j
    rw [wipeS_out (ρ := ρ) hj]
    exact this
theorem KeepE.rest {ρ0 ρ : Sl} {vs : List Nat} (h : KeepE (wipeS ρ0 vs) ρ) (hp : ∀ v ∈ vs, plainS ρ0[v]? = true) : KeepE ρ0 (restS ρ ρ0 vs) := fun j => by
  by_cases hj : j ∈ vs
  · have p := hp j hj
    refine ⟨fun d e => ?_, fun d e => ?_, fun d e => ?_⟩
    · rw [e] at p; cases p
    · rw [e] at p; cases p
    · have q := restS_in hj e
      cases e0 : ρ0[j]? with
      | none => rw [e0] at p; cases p
      | some s =>
        rw [e0] at p q
        have q : Slot.ro d = s := q
        rw [← q] at p
        cases p
  · have := h j
    rw [restS_out hj]
    rw [wipeS_out hj] at this
    exact this
theorem Keep.e {ρ ρ' : Sl} {σ σ' : L2.St} (h : Keep ρ σ ρ' σ') : KeepE ρ ρ' := fun i => ⟨fun d e => ((h i).1 d e).2, fun d e => ((h i).2.1 d e).2, (h i).2.2⟩
theorem reps.append {m : Bool} {K : PySem.W.Frag} {Z : AS} {H : Hp} {d : D} {v : V} {G : AS} (hd : rep m K Z H d v G) : ∀ {ds : List D} {vs : List V} {F : AS}, reps m K Z H ds vs F → (∀ a, F a → ¬ G a) → reps m K Z H (ds ++ [d]) (vs ++ [v]) (fun a => F a ∨ G a)
  | [], vs, F, h, _ => by
    simp only [reps] at h
    subst h
    show reps m K Z H [d] [v] _
    simp only [reps]
    exact ⟨v, [], G, fun _ => False, rfl, fun b g => .inr g, fun b g => g.elim, fun b g z => z, hd, rfl⟩
  | e :: ds, vs, F, h, dj => by
    simp only [reps] at h
    obtain ⟨w, r, F1, F2, e1, h1, h2, h3, h4, h5⟩ := h
    subst e1
    show reps m K Z H (e :: (ds ++ [d])) (w :: (r ++ [v])) _
    simp only [reps]
    exact ⟨w, r ++ [v], F1, fun a => F2 a ∨ G a, rfl, fun b g => .inl (h1 b g), fun b g => g.elim (fun y => .inl (h2 b y)) .inr, fun b g z => z.elim (h3 b g) (dj b (h1 b g)), h4, reps.append hd h5 fun a g => dj a (h2 a g)⟩
section
variable {X : Cx} {I : Option (Addr × Value × Option Addr)} {W : WX} {q : Bool} {pos : Pos} {pm : Par} {σ : L2.St} {H : Hp}
/-- a cell outside of the slots is written -/
theorem Sta.wr {S Z : AS} {F : FA} {ρ : Sl} {a : Addr} {o : HO} (s : Sta pm H Z S ρ σ F) (ha : Own H a ∧ ¬ Z a ∧ ¬ S a ∧ ¬ un F a) (mo : Mutb o) : Sta pm (upd H a o) Z S ρ σ F := by
  have keep : ∀ b u, b ≠ a → H b = some u → upd H a o b = some u := fun b u n e => by rw [upd_ne n]; exact e
  have stF : ∀ i, StaysF Z (fun b => F i b ∨ S b) H (upd H a o) := fun i b u e z => keep b u (fun q => by
    subst q
    rcases z with z | (z | z) | z
    · exact ha.2.1 z
    · exact ha.2.2.2 ⟨i, z⟩
    · exact ha.2.2.1 z
    · obtain ⟨⟨o', e', m⟩, _⟩ := ha
      rw [e] at e'
      cases e'
      exact z m) e
  refine ⟨s.len, fun i sl h => (s.slot i sl h).stay (stF i) (fun _ z => z) fun _ z => z, s.disj, fun i b h => ?_, fun b z => ?_⟩
  · obtain ⟨⟨o', e', m⟩, h2⟩ := s.own i b h
    exact ⟨⟨o', keep b o' (fun q => ha.2.2.2 ⟨i, q ▸ h⟩) e', m⟩, h2⟩
  · by_cases e : b = a
    · subst e; rw [upd_same]; exact fun z => nomatch z
    · rw [upd_ne e]; exact s.dom b z
structure OkC (pm : Par) (S : AS) (σw : L2.St) (Hs : Hp) (Zs : AS) (Fs : FA) (ρw : Sl) (Dl : Addr) (acc : List D) (ρ : Sl) (H : Hp) (Z : AS) (F : FA) (G : AS) : Prop where
  sta : Sta pm H Z S ρ σw F
  acc : ∃ vs, H Dl = some (.lst vs) ∧ reps true pm.K Z H acc vs (fun b => G b ∧ b ≠ Dl)
  gD : G Dl
  dis : ∀ a, G a → Own H a ∧ ¬ Z a ∧ ¬ S a ∧ ¬ un F a
  go : Go Hs Zs (un Fs) H Z (fun a => un F a ∨ G a)
  kp : KeepE ρw ρ
def postC (pm : Par) (S : AS) (σw : L2.St) (Hs : Hp) (Zs : AS) (Fs : FA) (ρw : Sl) (Dl : Addr) (Q : VK) : R (List D) → Prop
  | .ok acc ρ => ∀ H Z F G, OkC pm S σw Hs Zs Fs ρw Dl acc ρ H Z F G → Q (.ref Dl) H
  | _ => False
abbrev W0 : WX := fun _ _ _ _ => False
theorem lcL_ok {S : AS} {J : It} {ps : List P} {Hst : AS → Hp → Prop} {tg : Tg} {vs : List Nat} {t : MT} {m : ME} {qt : Bool} {Hs : Hp} {Zs : AS} {Fs : FA} {ρ0 : Sl} {Q : VK} (st : Stands pm.K J ps Hst)
    (stay : ∀ Z H Z' H', Hst Z H → StaysF Z S H H' → (∀ a, Z a → Z' a) → Hst Z' H') (s : Sta pm Hs Zs S ρ0 σ Fs) (h0 : Hst Zs Hs) (hv : ∀ i ∈ tg.slots, i ∈ vs) {Dl : Addr} (hD : Hs Dl = none)
    (h : postC pm S (L2.wipe σ vs) Hs Zs Fs (wipeS ρ0 vs) Dl Q (lcL tg vs t m ps [] (wipeS ρ0 vs))) :
    ∃ Wf : Nat → Nat → Hp → Prop, (∃ m, Wf 0 m (upd Hs Dl (.lst []))) ∧ ∀ i mm H, Wf i mm H →
      (J.stop i H ∧ Q (.ref Dl) H) ∨ (J.go i H ∧ ∃ Nx : Hp → Prop, (∀ H', Nx H' → ∃ m', m' < mm ∧ Wf (i + 1) m' H') ∧ ∀ x H', J.yld i H x H' → tG pm.K tg x (L2.wipe σ vs) H' fun σ2 H2 => L2.wipe σ2 vs = L2.wipe σ vs ∧ tT pm W0 qt t σ2 H2 fun b H3 =>
        if b = true then tE pm W0 q m σ2 H3 fun y H4 => ∃ acc, H4 Dl = some (.lst acc) ∧ acc.length < sizeLine ∧ Nx (upd H4 Dl (.lst (acc ++ [y]))) else Nx H3) := by
  have ex0 := Ex.new (o := .lst []) hD
  have start : OkC pm S (L2.wipe σ vs) Hs Zs Fs (wipeS ρ0 vs) Dl [] (wipeS ρ0 vs) (upd Hs Dl (.lst [])) Zs Fs (fun a => a = Dl) := by
    refine ⟨s.wipe.ex ex0, ⟨[], upd_same, by simp only [reps]⟩, rfl, fun a e => ?_, ⟨fun a o e _ => ex0 a o e, fun _ z => z, fun _ z => .inl z, fun a z => z.elim .inl fun e => .inr (by rw [e]; exact hD), fun a z => ex0.ne (s.dm a z)⟩, KeepE.rfl⟩
    subst e
    exact ⟨⟨_, upd_same, True.intro⟩, s.fresh_none hD⟩
  refine ⟨fun i mm H => mm = ps.length - i ∧ i ≤ ps.length ∧ ∃ acc ρ Z F G, OkC pm S (L2.wipe σ vs) Hs Zs Fs (wipeS ρ0 vs) Dl acc ρ H Z F G ∧ Hst Z H ∧ postC pm S (L2.wipe σ vs) Hs Zs Fs (wipeS ρ0 vs) Dl Q (lcL tg vs t m (ps.drop i) acc ρ),
    ⟨ps.length, by simp, Nat.zero_le _, [], _, Zs, Fs, _, start, stay Zs Hs Zs _ h0 ex0.staysF fun _ z => z, h⟩, ?_⟩
  rintro i mm H ⟨rfl, hi, acc, ρ, Z, F, G, ok, hh, h⟩
  by_cases hlt : i < ps.length
  · refine .inr ⟨st.go Z i H hh hlt, fun H' => ∃ acc ρ Z F G, OkC pm S (L2.wipe σ vs) Hs Zs Fs (wipeS ρ0 vs) Dl acc ρ H' Z F G ∧ Hst Z H' ∧ postC pm S (L2.wipe σ vs) Hs Zs Fs (wipeS ρ0 vs) Dl Q (lcL tg vs t m (ps.drop (i + 1)) acc ρ), fun H' z => ⟨ps.length - (i + 1), by omega, rfl, hlt, z⟩, fun x H' hy => ?_⟩
    obtain ⟨e, p, hp, c⟩ := st.yld Z i H x H' hh hlt hy
    subst e
    have ed : ps.drop i = p :: ps.drop (i + 1) := by
      obtain ⟨l, e⟩ := List.getElem?_eq_some_iff.mp hp
      rw [List.drop_eq_getElem_cons l, e]
    rw [ed] at h
    simp only [lcL] at h
    split at h
    case h_1 => exact h.elim
    rename_i ρ1 hb
    refine bindG_ok ok.sta (valR.imm c) hb fun σ2 F2 o out => ⟨(out (fun τ => L2.wipe τ vs) fun i hi x τ => wipe_set i (hv i hi) x τ).trans wipe_wipe, ρ1, Z, S, F2, o.sta, ?_⟩
    have ew : L2.wipe σ2 vs = L2.wipe σ vs := (out (fun τ => L2.wipe τ vs) fun i hi x τ => wipe_set i (hv i hi) x τ).trans wipe_wipe
    have sub2 : ∀ a, un F2 a → un F a := fun a z => (o.sub a z).elim id False.elim
    revert h
    cases t ρ1 with
    | stuck => exact fun h => h.elim
    | exc y ρ2 => exact fun h => h.elim
    | ok b ρ2 =>
      intro h H3 Z3 F3 ok3
      rw [R.bind_ok] at h
      have h3 := held o.sta (fun a g => ⟨(ok.dis a g).1, (ok.dis a g).2.1, (ok.dis a g).2.2.1, fun z => (ok.dis a g).2.2.2 (sub2 a z)⟩) ok3.go
      have st3 : StaysF Z (fun a => G a ∨ S a) H' H3 := o.sta.go_staysF ok3.go fun a z => z.elim (fun g z => (ok.dis a g).2.2.2 (sub2 a z)) fun z ⟨j, y⟩ => (o.sta.own j a y).2.2 z
      have go3 : Go Hs Zs (un Fs) H3 Z3 (fun a => un F3 a ∨ G a) := ok.go.cut ok3.go (fun a z => .inl (sub2 a z)) fun a z => z.elim .inl fun g => .inr (.inr g)
      obtain ⟨us, hD1, hacc⟩ := ok.acc
      have hD3 : H3 Dl = some (.lst us) := st3 Dl _ hD1 (.inr (.inl (.inl ok.gD)))
      have acc3 : reps true pm.K Z3 H3 acc us (fun b => G b ∧ b ≠ Dl) := hacc.stay (st3.sub fun a z => .inl z.1) ok3.go.zm fun _ z => z
      have kp3 : KeepE (wipeS ρ0 vs) ρ2 := (ok.kp.trans o.keep.e).trans ok3.kp
      have hh3 : Hst Z3 H3 := stay Z H' Z3 H3 hh (st3.sub fun a z => .inr z) ok3.go.zm
      cases b with
      | false =>
        rw [if_neg Bool.false_ne_true] at h ⊢
        refine ⟨acc, wipeS ρ2 vs, Z3, F3, G, ⟨?_, ⟨us, hD3, acc3⟩, ok.gD, h3, go3, kp3.wipe⟩, hh3, h⟩
        have := ok3.sta.wipe (vs := vs)
        rw [ew] at this
        exact this
      | true =>
        rw [if_pos rfl] at h ⊢
        refine ⟨ρ2, Z3, S, F3, ok3.sta, ?_⟩
        revert h
        cases m ρ2 with
        | stuck => exact fun h => h.elim
        | exc y ρ3 => exact fun h => h.elim
        | ok val ρ3 =>
          intro h y H4 Z4 F4 G4 ok4
          rw [R.bind_ok] at h
          cases val with
          | bor d x => exact h.elim
          | own d =>
            have h : postC pm S (L2.wipe σ vs) Hs Zs Fs (wipeS ρ0 vs) Dl Q (if acc.length < sizeLine then lcL tg vs t m (ps.drop (i + 1)) (acc ++ [d]) (wipeS ρ3 vs) else .stuck) := h
            split at h
            case isFalse => exact h.elim
            rename_i hz
            have h4 := held ok3.sta h3 ok4.go
            have st4 : StaysF Z3 (fun a => G a ∨ S a) H3 H4 := ok3.sta.go_staysF ok4.go fun a z => z.elim (fun g => (h3 a g).2.2.2) fun z ⟨j, y⟩ => (ok3.sta.own j a y).2.2 z
            have go4 : Go Hs Zs (un Fs) H4 Z4 (fun a => un F4 a ∨ (G a ∨ G4 a)) := go3.cut ok4.go (fun a z => .inl z) fun a z => by
              rcases z with z | z | z
              · exact .inl (.inl z)
              · exact .inr (.inr z)
              · exact .inl (.inr z)
            have hD4 : H4 Dl = some (.lst us) := st4 Dl _ hD3 (.inr (.inl (.inl ok.gD)))
            have acc4 : reps true pm.K Z4 H4 acc us (fun b => G b ∧ b ≠ Dl) := acc3.stay (st4.sub fun a z => .inl z.1) ok4.go.zm fun _ z => z
            have nD : ∀ a, G4 a → a ≠ Dl := fun a g e => (h4 Dl ok.gD).2.2.2 (.inr (e ▸ g))
            have all4 : reps true pm.K Z4 H4 (acc ++ [d]) (us ++ [y]) (fun b => (G b ∧ b ≠ Dl) ∨ G4 b) := acc4.append ok4.val.1 fun a g z => (h4 a g.1).2.2.2 (.inr z)
            have keepD : ∀ b u, b ≠ Dl → H4 b = some u → upd H4 Dl (.lst (us ++ [y])) b = some u := fun b u n e => by rw [upd_ne n]; exact e
            have stD : StaysF Z4 (fun a => a ≠ Dl) H4 (upd H4 Dl (.lst (us ++ [y]))) := fun b u e z => keepD b u (fun q => by
              subst q
              rcases z with z | z | z
              · exact (h4 b ok.gD).2.1 z
              · exact z rfl
              · rw [hD4] at e
                cases e
                exact z True.intro) e
            have s4 := (ok4.sta.wipe (vs := vs)).wr (a := Dl) (o := .lst (us ++ [y])) ⟨⟨_, hD4, True.intro⟩, (h4 Dl ok.gD).2.1, (h4 Dl ok.gD).2.2.1, fun z => (h4 Dl ok.gD).2.2.2 (.inl z)⟩ True.intro
            rw [ew] at s4
            refine ⟨us, hD4, by rw [← acc4.length]; exact hz, acc ++ [d], wipeS ρ3 vs, Z4, F4, fun a => G a ∨ G4 a, ⟨s4, ⟨us ++ [y], upd_same, all4.stay (stD.sub fun a z => z.elim (fun y => y.2) (nD a)) (fun _ z => z) fun a z => z.elim (fun y => ⟨.inl y.1, y.2⟩) fun y => ⟨.inr y, nD a y⟩⟩, .inl ok.gD, fun a g => ?_, ?_, (kp3.trans ok4.kp).wipe⟩, ?_, h⟩
            · have own5 : Own (upd H4 Dl (.lst (us ++ [y]))) a := by
                by_cases e : a = Dl
                · subst e; exact ⟨_, upd_same, True.intro⟩
                · have : Own H4 a := g.elim (fun y => (h4 a y).1) fun y => (ok4.val.2 a y).1
                  obtain ⟨o', e', m'⟩ := this
                  exact ⟨o', keepD a o' e e', m'⟩
              rcases g with g | g
              · exact ⟨own5, (h4 a g).2.1, (h4 a g).2.2.1, fun z => (h4 a g).2.2.2 (.inl z)⟩
              · exact ⟨own5, (ok4.val.2 a g).2.1, (ok4.val.2 a g).2.2.1, (ok4.val.2 a g).2.2.2⟩
            · refine go4.cut (T1 := fun a => a = Dl) (T2 := fun a => a = Dl) ⟨fun a o e n => keepD a o n e, fun _ z => z, fun _ z => .inl z, fun _ z => .inl z, fun a z => by
                subst z; rw [upd_same]; exact fun z => nomatch z⟩ (fun a z => by subst z; exact .inr (.inl ok.gD)) fun a z => .inr z
            · refine stay Z4 H4 Z4 _ (stay Z3 H3 Z4 H4 hh3 (st4.sub fun a z => .inr z) ok4.go.zm) (stD.sub fun a z e => ?_) fun _ z => z
              subst e
              exact (h4 a ok.gD).2.2.1 z
  · have e : i = ps.length := by omega
    subst e
    rw [List.drop_length] at h
    exact .inl ⟨st.stop Z _ H hh (Nat.le_refl _), h H Z F G ok⟩

def R.mapE {α : Type} (f : Sl → Sl) : R α → R α
  | .ok a ρ => .ok a (f ρ)
  | .exc x ρ => .exc x (f ρ)
  | .stuck => .stuck
def lcE (tg : Tg) (vs : List Nat) (t : MT) (m : ME) (ps : List P) : ME := fun ρ => if vs.all (fun v => plainS ρ[v]?) = true then lcEnd ρ vs (lcL tg vs t m ps [] (wipeS ρ vs)) else .stuck
def lcK (tg : Tg) (vs : List Nat) (t : MT) (m : ME) (ps : List P) : Option Nat → ME
  | none, ρ => lcE tg vs t m ps ρ
  | some x, ρ => (match ρ[x]? with
    | some (.own d) => (lcE tg vs t m ps (ρ.set x (.ro d))).mapE fun ρ => ρ.set x (.own d)
    | some (.pin d) => (lcE tg vs t m ps (ρ.set x (.ro d))).mapE fun ρ => ρ.set x (.pin d)
    | _ => .stuck)
def eLc (tg : Tg) (vs : List Nat) (mi : MI) (t : MT) (m : ME) : ME := fun ρ => (mi ρ).bind fun pl ρ1 => lcK tg vs t m pl.1 pl.2 ρ1
structure OkW (pm : Par) (S : AS) (σ : L2.St) (Hs : Hp) (Zs : AS) (Fs : FA) (ρ0 : Sl) (Dl : Addr) (acc : List D) (ρ : Sl) (H : Hp) (Z : AS) (F : FA) (G : AS) : Prop where
  sta : Sta pm H Z S ρ σ F
  val : rep true pm.K Z H (.lst acc) (.ref Dl) G
  dis : ∀ a, G a → Own H a ∧ ¬ Z a ∧ ¬ S a ∧ ¬ un F a
  go : Go Hs Zs (un Fs) H Z (fun a => un F a ∨ G a)
  kp : KeepE ρ0 ρ
theorem lcE_ok {S : AS} {J : It} {ps : List P} {Hst : AS → Hp → Prop} {tg : Tg} {vs : List Nat} {t : MT} {m : ME} {qt : Bool} {Hs : Hp} {Zs : AS} {Fs : FA} {ρ0 : Sl} {Q : VK} (st : Stands pm.K J ps Hst)
    (stay : ∀ Z H Z' H', Hst Z H → StaysF Z S H H' → (∀ a, Z a → Z' a) → Hst Z' H') (s : Sta pm Hs Zs S ρ0 σ Fs) (h0 : Hst Zs Hs) (hv : ∀ i ∈ tg.slots, i ∈ vs) {Dl : Addr} (hD : Hs Dl = none)
    (h : match lcE tg vs t m ps ρ0 with
      | .ok (.own (.lst acc)) ρ' => ∀ H' Z' F' G, OkW pm S σ Hs Zs Fs ρ0 Dl acc ρ' H' Z' F' G → Q (.ref Dl) H'
      | _ => False) :
    ∃ Wf : Nat → Nat → Hp → Prop, (∃ m, Wf 0 m (upd Hs Dl (.lst []))) ∧ ∀ i mm H, Wf i mm H →
      (J.stop i H ∧ Q (.ref Dl) H) ∨ (J.go i H ∧ ∃ Nx : Hp → Prop, (∀ H', Nx H' → ∃ m', m' < mm ∧ Wf (i + 1) m' H') ∧ ∀ x H', J.yld i H x H' → tG pm.K tg x (L2.wipe σ vs) H' fun σ2 H2 => L2.wipe σ2 vs = L2.wipe σ vs ∧ tT pm W0 qt t σ2 H2 fun b H3 =>
        if b = true then tE pm W0 q m σ2 H3 fun y H4 => ∃ acc, H4 Dl = some (.lst acc) ∧ acc.length < sizeLine ∧ Nx (upd H4 Dl (.lst (acc ++ [y]))) else Nx H3) := by
  unfold lcE at h
  split at h
  case h_2 => exact h.elim
  rename_i acc ρ' he
  split at he
  case isFalse => cases he
  rename_i hall
  have hp : ∀ v ∈ vs, plainS ρ0[v]? = true := fun v hv => List.all_eq_true.mp hall v hv
  refine lcL_ok (qt := qt) (q := q) st stay s h0 hv hD ?_
  revert he
  cases lcL tg vs t m ps [] (wipeS ρ0 vs) with
  | stuck => intro he; cases he
  | exc x ρ1 => intro he; cases he
  | ok acc' ρ1 =>
    intro he
    simp only [lcEnd] at he
    cases he
    intro H Z F G o
    obtain ⟨us, hl, hr⟩ := o.acc
    have stZ : Stays Zs Hs H := (s.go_staysF o.go (G := fun _ => False) fun _ z => z.elim).base
    refine h H Z F G ⟨s.rest hp stZ o.go.zm o.sta, ?_, o.dis, o.go, o.kp.rest hp⟩
    simp only [rep]
    exact ⟨Dl, us, rfl, o.gD, hl, hr⟩
theorem lcE_shape {tg : Tg} {vs : List Nat} {t : MT} {m : ME} {ps : List P} {ρ : Sl} : (∃ acc ρ', lcE tg vs t m ps ρ = .ok (.own (.lst acc)) ρ') ∨ lcE tg vs t m ps ρ = .stuck := by
  unfold lcE
  split
  · cases lcL tg vs t m ps [] (wipeS ρ vs) with
    | ok acc ρ1 => exact .inl ⟨acc, _, rfl⟩
    | exc x ρ1 => exact .inr rfl
    | stuck => exact .inr rfl
  · exact .inr rfl
/-- what is asked of a comprehension -/
theorem lc_post {Q : VK} {tg : Tg} {vs : List Nat} {mi : MI} {t : MT} {m : ME} {qt : Bool} (hv : ∀ i ∈ tg.slots, i ∈ vs) (h : tE pm W false (eLc tg vs mi t m) σ H Q) :
    tLc (tI pm W mi) (tG pm.K tg) (tT pm W0 qt t) (tE pm W0 q m) vs σ H Q := by
  obtain ⟨ρ, Z, S, F, s, h⟩ := h
  refine ⟨ρ, Z, S, F, s, ?_⟩
  unfold eLc at h
  revert h
  cases mi ρ with
  | stuck => exact fun h => h
  | exc x ρ1 => exact fun h => h
  | ok pl ρ1 =>
    obtain ⟨ps, lk⟩ := pl
    intro h J Hst H1 Z1 F1 L o Dl hD
    have h : postE pm W S σ false H Z F ρ Q (lcK tg vs t m ps lk ρ1) := h
    cases lk with
    | none =>
      refine lcE_ok (qt := qt) (q := q) (S := fun a => S a ∨ L a) o.st (fun Z1 H1 Z2 H2 hh st zm => o.stay Z1 H1 Z2 H2 hh (st.sub fun a z => z.elim (fun y => y.elim .inl False.elim) .inr) zm) (lockT o.sta o.dis) o.hst hv hD ?_
      simp only [lcK] at h
      rcases lcE_shape (tg := tg) (vs := vs) (t := t) (m := m) (ps := ps) (ρ := ρ1) with ⟨acc, ρ', e⟩ | e
      · rw [e] at h ⊢
        intro H' Z' F' G w
        have s' := unlockT o.sta o.dis w.sta (w.go.less fun a t => .inl t) w.kp.keep
        exact h _ H' Z' F' G ⟨s', ⟨w.val, fun a g => ⟨(w.dis a g).1, (w.dis a g).2.1, fun z => (w.dis a g).2.2.1 (.inl z), (w.dis a g).2.2.2⟩⟩, (o.go.less fun a t => .inl t).trans w.go, (fun z => nomatch z), o.kp.trans w.kp⟩
      · rw [e] at h
        exact h.elim
    | some x =>
      simp only [lcK] at h
      have go2 : ∀ {s0 : Slot} {d : D}, ρ1[x]? = some s0 → (s0 = .own d ∨ s0 = .pin d) → postE pm W S σ false H Z F ρ Q ((lcE tg vs t m ps (ρ1.set x (.ro d))).mapE fun ρ => ρ.set x s0) → _ := fun {s0 d} hx hs h => by
        have s2 := MV.lockS o.sta hx hs
        have dis2 : ∀ a, L a → Own H1 a ∧ ¬ Z1 a ∧ ¬ (fun a => S a ∨ F1 x a) a ∧ ¬ un (clr F1 x) a := fun a l => ⟨(o.dis a l).1, (o.dis a l).2.1, fun z => z.elim (o.dis a l).2.2.1 fun y => (o.dis a l).2.2.2 ⟨x, y⟩, fun ⟨j, n, y⟩ => (o.dis a l).2.2.2 ⟨j, y⟩⟩
        refine lcE_ok (qt := qt) (q := q) (m := m) (t := t) (vs := vs) (tg := tg) (Dl := Dl) (Q := Q) o.st (fun Z1 H1 Z2 H2 hh st zm => o.stay Z1 H1 Z2 H2 hh st zm) (MV.lockT s2 dis2) o.hst hv hD ?_
        rcases lcE_shape (tg := tg) (vs := vs) (t := t) (m := m) (ps := ps) (ρ := ρ1.set x (.ro d)) with ⟨acc, ρ', e⟩ | e
        · rw [e] at h ⊢
          intro H' Z' F' G w
          have s' := unlockT s2 dis2 w.sta (w.go.less fun a t => .inl t) w.kp.keep
          have u := unlockS o.sta hx hs s' w.go w.kp.keep
          exact h _ H' Z' (unF F1 F' x) G ⟨u.sta, ⟨w.val, fun a g => ⟨(w.dis a g).1, (w.dis a g).2.1, fun z => (w.dis a g).2.2.1 (.inl (.inl z)), u.nG (fun a g z => (w.dis a g).2.2.1 (.inl (.inr z))) (fun a g => (w.dis a g).2.2.2) a g⟩⟩, (o.go.less fun a t => .inl t).trans u.go, (fun z => nomatch z), o.kp.trans u.keep.e⟩
        · rw [e] at h
          exact h.elim
      cases hx : ρ1[x]? with
      | none => rw [hx] at h; exact h.elim
      | some s0 =>
        rw [hx] at h
        cases s0 with
        | own d => exact go2 hx (.inl rfl) h
        | pin d => exact go2 hx (.inr rfl) h
        | no => exact h.elim
        | ro d => exact h.elim
        | ex e => exact h.elim
def DTs (X : Cx) (I : Option (Addr × Value × Option Addr)) (W : WX) (q : Bool) (es : List Expr) (m : MT) : Prop := PTs X es (tT ⟨X.K, X.mg, I⟩ W q m)
theorem DTs.nil : DTs X I W true [] (fun ρ => .ok true ρ) := ⟨fun pins s σ H Q J ⟨ρ, Z, S, F, st, h⟩ => pts_nil.run pins s σ H Q J (h H Z F st.okT)⟩
theorem DTs.one {c : Expr} {t : MT} (h : DT X I W q c t) : DTs X I W q [c] t := pts_one h
def inAll (tg : Tg) (vs : List Nat) : Bool := tg.slots.all fun i => vs.contains i
theorem inAll_ok {tg : Tg} {vs : List Nat} (h : inAll tg vs = true) : ∀ i ∈ tg.slots, i ∈ vs := fun i hi => by
  have := List.all_eq_true.mp h i hi
  simpa using this
theorem DE.lc {elt tg iter : Expr} {ifs : List Expr} {scope : Scope} {own : List (Str × Nat)} {g : Tg} {mi : MI} {t : MT} {m : ME} {qt : Bool} (hc : X.calm = true) (hN : X.N.Nodup) (hi : DI X I W tg iter mi) (ok : BlkOk X.N X.env.scope scope own)
    (hg : ∀ (s : Shared) (H : Hp) (C : Addr) (cl : List (Str × Addr)) (fp : List Addr), DG (X.blk s H scope (compEnvC scope cl C X.env) fp) tg g) (ht : ∀ (s : Shared) (H : Hp) (C : Addr) (cl : List (Str × Addr)) (fp : List Addr), DTs (X.blk s H scope (compEnvC scope cl C X.env) fp) I W0 qt ifs t)
    (he : ∀ (s : Shared) (H : Hp) (C : Addr) (cl : List (Str × Addr)) (fp : List Addr), DE (X.blk s H scope (compEnvC scope cl C X.env) fp) I W0 q elt m) (hv : inAll g (own.map (·.2)) = true := by rfl) (hs : ∀ x, foldedSetIterable iter X.env x = pure x := by intro _; rfl) :
    DE X I W false (.ListComp elt [⟨tg, iter, ifs, 0⟩] scope pos) (eLc g (own.map (·.2)) mi t m) :=
  PE.imp (pe_lc (g := tG X.K g) (tt := tT ⟨X.K, X.mg, I⟩ W0 qt t) (te := tE ⟨X.K, X.mg, I⟩ W0 q m) hc hN hi ok hg ht he hs) fun σ H Q h => lc_post (inAll_ok hv) h
theorem DS.setLc (i : Nat) {y : Str} {py spos : Pos} {elt tg iter : Expr} {ifs : List Expr} {scope : Scope} {own : List (Str × Nat)} {g : Tg} {mi : MI} {t : MT} {m : ME} {qt : Bool} (hc : X.calm = true) (hN : X.N.Nodup) (hyl : X.env.scope.names.lookup y = some .local)
    (hsw : swapsWith (.ListComp elt [⟨tg, iter, ifs, 0⟩] scope pos) (some (.Name y py)) spos.line X.env = pure true) (hi : DI X I W tg iter mi) (ok : BlkOk X.N X.env.scope scope own)
    (hg : ∀ (s : Shared) (H : Hp) (C : Addr) (cl : List (Str × Addr)) (fp : List Addr), DG (X.blk s H scope (compEnvC scope cl C X.env) fp) tg g) (ht : ∀ (s : Shared) (H : Hp) (C : Addr) (cl : List (Str × Addr)) (fp : List Addr), DTs (X.blk s H scope (compEnvC scope cl C X.env) fp) I W0 qt ifs t)
    (he : ∀ (s : Shared) (H : Hp) (C : Addr) (cl : List (Str × Addr)) (fp : List Addr), DE (X.blk s H scope (compEnvC scope cl C X.env) fp) I W0 q elt m) (hy : X.N[i]? = some y := by rfl) (hv : inAll g (own.map (·.2)) = true := by rfl) (hs : ∀ x, foldedSetIterable iter X.env x = pure x := by intro _; rfl) :
    DS X I W (.Assign [.Name y py] (.ListComp elt [⟨tg, iter, ifs, 0⟩] scope pos) spos) (sAsg (.nm i) (eLc g (own.map (·.2)) mi t m)) := by
  refine PS.imp (ps_setLc (g := tG X.K g) (tt := tT ⟨X.K, X.mg, I⟩ W0 qt t) (te := tE ⟨X.K, X.mg, I⟩ W0 q m) hc hN hy hyl hsw hi ok hg ht he hs) fun N σ H h => ?_
  have h2 : tE ⟨X.K, X.mg, I⟩ W false (eLc g (own.map (·.2)) mi t m) σ H (fun x H1 => gName i x σ H1 N.nx) := asg_ok (q := false) h
  exact lc_post (inAll_ok hv) h2
end
end MV

set_option Elab.async false
set_option linter.all false
set_option maxRecDepth 100000
set_option maxHeartbeats 4000000
/-! MV11: lists that change (append, extend, pop, x[i] = e); never-reached statements. -/
namespace MV
open PySem L2 PyProof.Rows

def reS : Slot → D → Slot
  | .pin _, d => .pin d
  | _, d => .own d
def slD : Slot → Option D
  | .own d => some d
  | .pin d => some d
  | _ => none
/-- slot i has G besides -/
def addF (F : FA) (i : Nat) (G : AS) : FA := fun j b => F j b ∨ (j = i ∧ G b)
theorem un_add {F : FA} {i : Nat} {G : AS} {a : Addr} (h : un (addF F i G) a) : un F a ∨ G a := by
  obtain ⟨j, h | ⟨_, h⟩⟩ := h
  · exact .inl ⟨j, h⟩
  · exact .inr h
section
variable {X : Cx} {I : Option (Addr × Value × Option Addr)} {W : WX} {q : Bool} {pos : Pos} {pm : Par} {σ : L2.St} {H : Hp}
theorem Sta.slotD {S Z : AS} {F : FA} {ρ : Sl} {i : Nat} {s0 : Slot} {d : D} (s : Sta pm H Z S ρ σ F) (hx : ρ[i]? = some s0) (hd : slD s0 = some d) : ∃ v, σ[i]? = some (some v) ∧ at_ σ i = some v ∧ rep true pm.K Z H d v (F i) := by
  have h := s.slot i s0 hx
  cases s0 with
  | own d' => cases hd; obtain ⟨v, e, r⟩ := h; exact ⟨v, at_some e, e, r⟩
  | pin d' => cases hd; obtain ⟨v, e, r⟩ := h; exact ⟨v, at_some e, e, r⟩
  | _ => cases hd
/-- what a slot holds is changed at a cell of its own -/
theorem Sta.mut {S Z : AS} {F : FA} {ρ : Sl} {i : Nat} {s0 : Slot} {d0 d1 : D} {a : Addr} {o : HO} {v : V} {G : AS} (s : Sta pm H Z S ρ σ F) (hx : ρ[i]? = some s0) (hd : slD s0 = some d0) (ha : F i a) (hG : ∀ b, G b → Own H b ∧ ¬ Z b ∧ ¬ S b ∧ ¬ un F b) (mo : Mutb o)
    (hv : at_ σ i = some v) (r : rep true pm.K Z (upd H a o) d1 v (fun b => F i b ∨ G b)) : Sta pm (upd H a o) Z S (ρ.set i (reS s0 d1)) σ (addF F i G) := by
  have lt := (List.getElem?_eq_some_iff.mp hx).1
  obtain ⟨⟨oa, ea, ma⟩, az, as⟩ := s.own i a ha
  have keep : ∀ b u, b ≠ a → H b = some u → upd H a o b = some u := fun b u n e => by rw [upd_ne n]; exact e
  have stF : ∀ j, j ≠ i → StaysF Z (fun b => F j b ∨ S b) H (upd H a o) := fun j n b u e z => keep b u (fun q => by
    subst q
    rcases z with z | (z | z) | z
    · exact az z
    · exact n (s.disj j i b z ha)
    · exact as z
    · rw [e] at ea; cases ea; exact z ma) e
  have own' : ∀ b, Own H b → Own (upd H a o) b := fun b ⟨u, e, m⟩ => by
    by_cases q : b = a
    · subst q; exact ⟨o, upd_same, mo⟩
    · exact ⟨u, keep b u q e, m⟩
  refine ⟨by rw [List.length_set]; exact s.len, fun j sl h => ?_, fun j k b h1 h2 => ?_, fun j b h => ?_, fun b z => ?_⟩
  · by_cases e : j = i
    · subst e
      rw [List.getElem?_set_self lt] at h
      cases h
      have r' : rep true pm.K Z (upd H a o) d1 v (addF F j G j) := r.stay Ex.rfl.staysF (fun _ z => z) fun b z => z.elim .inl fun y => .inr ⟨rfl, y⟩
      cases s0 with
      | own d => exact ⟨v, hv, r'⟩
      | pin d => exact ⟨v, hv, r'⟩
      | _ => cases hd
    · rw [List.getElem?_set_ne (Ne.symm e)] at h
      exact (s.slot j sl h).stay (stF j e) (fun _ z => z) fun b z => .inl z
  · rcases h1 with h1 | ⟨e1, h1⟩
    · rcases h2 with h2 | ⟨e2, h2⟩
      · exact s.disj j k b h1 h2
      · exact absurd ⟨j, h1⟩ (hG b h2).2.2.2
    · rcases h2 with h2 | ⟨e2, h2⟩
      · exact absurd ⟨k, h2⟩ (hG b h1).2.2.2
      · rw [e1, e2]
  · rcases h with h | ⟨_, h⟩
    · exact ⟨own' b (s.own j b h).1, (s.own j b h).2⟩
    · exact ⟨own' b (hG b h).1, (hG b h).2.1, (hG b h).2.2.1⟩
  · by_cases q : b = a
    · subst q; rw [upd_same]; exact fun z => nomatch z
    · rw [upd_ne q]; exact s.dom b z
theorem KeepE.re {ρ : Sl} {i : Nat} {s0 : Slot} {d0 d1 : D} (hx : ρ[i]? = some s0) (hd : slD s0 = some d0) : KeepE ρ (ρ.set i (reS s0 d1)) := fun j => by
  by_cases e : j = i
  · subst e
    rw [List.getElem?_set_self (List.getElem?_eq_some_iff.mp hx).1, hx]
    cases s0 with
    | own d => exact ⟨fun d q => (by cases q), fun d q => (by cases q), fun d q => (by cases q)⟩
    | pin d => exact ⟨fun d q => ⟨d1, Eq.refl _⟩, fun d q => (by cases q), fun d q => (by cases q)⟩
    | _ => cases hd
  · rw [List.getElem?_set_ne (Ne.symm e)]
    exact ⟨fun d q => ⟨d, q⟩, fun d q => q, fun d q => q⟩
/-- .. the step of the whole state -/
theorem Sta.mutGo {S Z : AS} {F : FA} {ρ : Sl} {i : Nat} {a : Addr} {o : HO} {G : AS} (s : Sta pm H Z S ρ σ F) (ha : F i a) (hG : ∀ b, G b → Own H b) : Go H Z (fun b => un F b ∨ G b) (upd H a o) Z (un (addF F i G)) := by
  refine ⟨fun b u e n => ?_, fun _ z => z, fun _ z => .inl z, fun b t => .inl (un_add t), fun b t => ?_⟩
  · rw [upd_ne (fun q => n (.inl ⟨i, by rw [q]; exact ha⟩))]
    exact e
  · by_cases q : b = a
    · subst q; rw [upd_same]; exact fun z => nomatch z
    · rw [upd_ne q]
      rcases t with t | t
      · exact s.dm b t
      · exact (hG b t).some

/-! ### x.append(e), x a name -/
def asLst : D → Option (List D)
  | .lst ds => some ds
  | _ => none
def sApp (i : Nat) (m : ME) : MS := fun ρ => match ((ρ[i]?).bind slD).bind asLst with
  | none => .stuck
  | some _ => (m ρ).bindS fun v ρ1 => match v with
    | .bor _ _ => .stuck
    | .own d => (match ρ1[i]? with
      | none => .stuck
      | some s0 => (match (slD s0).bind asLst with
        | some ds => if ds.length < sizeLine then .nx (ρ1.set i (reS s0 (.lst (ds ++ [d])))) else .stuck
        | none => .stuck))
theorem asLst_ok {d : D} {ds : List D} (h : asLst d = some ds) : d = .lst ds := by
  cases d with
  | lst es => cases h; rfl
  | _ => cases h
theorem DS.app (i : Nat) {x : Str} {e : Expr} {m : ME} {apos cpos p : Pos} (he : DE X I W q e m) (hN : X.N[i]? = some x := by rfl) (hv : Vis X.env.scope x := by first | exact Or.inl rfl | exact Or.inr (Or.inl rfl) | exact Or.inr (Or.inr rfl)) (hd : (x == ("__debug__" : Str)) = false := by decide)
    (hcd : (x == ("__classdict__" : Str)) = false := by decide) (hbase : attributeBase (.Name x p) "append" X.env (eval (.Name x p) X.env) = eval (.Name x p) X.env := by rfl)
    (hfew : ((backTo cpos (starEach [e] X.env)).all (fun x => !x.1) && (backToKw cpos (keywordEach [] X.env)).all (fun x => x.1.isSome) && decide (([e] : List Expr).length + ([] : List Keyword).length + (if ([] : List Keyword).isEmpty then 0 else 1) < 30)) = true := by rfl)
    (hline : (apos.endLine == cpos.line) = true := by rfl) (hs : starEach [e] X.env = (false, eval e X.env) :: starEach [] X.env := by rfl) (hplain : (backTo cpos (starEach [] X.env)).any (·.1) = false := by rfl)
    (hsw : swapsWith (.Call (.Attribute (.Name x p) "append" apos) [e] [] cpos) none pos.line X.env = pure false := by rfl) : DS X I W (.Expr (.Call (.Attribute (.Name x p) "append" apos) [e] [] cpos) pos) (sApp i m) := by
  refine PS.imp (ps_expr (pe_bm PySem.F.plainAttrs_list PySem.F.slot_list_append PySem.F.type_list_append mt_append (pe_var hN hv hd hcd) (pa_cons he pa_nil hs) hbase hfew hline hs hplain) hsw) fun N σ H h => ?_
  obtain ⟨ρ, Z, S, F, s, h⟩ := h
  unfold sApp at h
  split at h
  · exact h.elim
  rename_i ds0 h0
  obtain ⟨d0, h1, h2⟩ := Option.bind_eq_some_iff.mp h0
  obtain ⟨s0, h3, h4⟩ := Option.bind_eq_some_iff.mp h1
  obtain ⟨v, e1, e2, r⟩ := s.slotD h3 h4
  rw [asLst_ok h2] at r
  simp only [rep] at r
  obtain ⟨a, vs, ev, fa, ca, ra⟩ := r
  subst ev
  refine ⟨_, e1, .inl ⟨rfl, vs, SqL.of ca⟩, ρ, Z, S, F, s, ?_⟩
  revert h
  cases m ρ with
  | stuck => exact fun h => h
  | exc y ρ1 => exact fun h c dd H1 Z1 F1 y => h c dd σ H1 Z1 F1 ⟨y.sta, y.exc, y.go, y.kp.keep⟩
  | ok val ρ1 =>
    intro h y H1 Z1 F1 G ok
    rw [R.bindS_ok] at h
    cases val with
    | bor d j => exact h.elim
    | own d =>
      cases hx : ρ1[i]? with
      | none => simp only [hx] at h; exact h.elim
      | some s1 =>
        simp only [hx] at h
        cases hl : (slD s1).bind asLst with
        | none => simp only [hl] at h; exact h.elim
        | some ds =>
          simp only [hl] at h
          obtain ⟨d1, g1, g2⟩ := Option.bind_eq_some_iff.mp hl
          obtain ⟨w, k1, k2, r1⟩ := ok.sta.slotD hx g1
          rw [asLst_ok g2] at r1
          simp only [rep] at r1
          obtain ⟨a', vs', ev', fa', ca', ra'⟩ := r1
          rw [e1] at k1
          cases k1
          cases ev'
          split at h
          · rename_i hz
            refine ⟨a, vs', y, rfl, rfl, ca', by rw [← ra'.length]; exact hz, ?_⟩
            have dG := ok.val.2
            have nG : ∀ b, G b → b ≠ a := fun b g q => (dG b g).2.2.2 ⟨i, by rw [q]; exact fa'⟩
            have stF : StaysF Z1 (fun b => (F1 i b ∨ G b) ∧ b ≠ a) H1 (upd H1 a (.lst (vs' ++ [y]))) := fun b u e z => by
              rw [upd_ne (fun q => ?_)]
              · exact e
              · subst q
                rcases z with z | z | z
                · exact (ok.sta.own i b fa').2.1 z
                · exact z.2 rfl
                · rw [ca'] at e; cases e; exact z True.intro
            have r2 : rep true X.K Z1 (upd H1 a (.lst (vs' ++ [y]))) (.lst (ds ++ [d])) (.ref a) (fun b => F1 i b ∨ G b) := by
              simp only [rep]
              have := (ra'.append ok.val.1 fun b f g => (dG b g).2.2.2 ⟨i, f.1⟩)
              exact ⟨a, vs' ++ [y], rfl, .inl fa', upd_same, this.stay (stF.sub fun b z => z.elim (fun y => ⟨.inl y.1, y.2⟩) fun y => ⟨.inr y, nG b y⟩) (fun _ z => z) fun b z => z.elim (fun y => ⟨.inl y.1, y.2⟩) fun y => ⟨.inr y, nG b y⟩⟩
            have s2 := ok.sta.mut (o := .lst (vs' ++ [y])) hx g1 fa' dG True.intro k2 r2
            exact h σ _ Z1 _ ⟨s2, ok.go.trans (ok.sta.mutGo fa' fun b g => (dG b g).1), (ok.kp.trans (KeepE.re hx g1)).keep⟩
          · exact h.elim
/-- what the walk never reaches -/
def sNever : MS := fun _ => .stuck
theorem DS.never {st : Stmt} : DS X I W st sNever := ⟨fun pins s σ H N J h => by
  obtain ⟨ρ, Z, S, F, s, h⟩ := h
  exact h.elim⟩
theorem DE.never {e : Expr} : DE X I W true e (fun _ => .stuck) := ⟨fun pins s σ H N J h => by
  obtain ⟨ρ, Z, S, F, s, h⟩ := h
  exact h.elim⟩
theorem DE.callM {x : Str} {id : String} {p : Pos} {r : List V → Hp → VK → Prop} {f : List D → Option D} {e : Expr} {es : List Expr} {ms : MA} (hc : CallR X (.builtin id) r) (hf : CallD X.K r f) (hm : X.mg x = some (.builtin id)) (ha : DV X I W q (e :: es) ms) (hg : Gl X x := by rfl) (hdb : (x == ("__debug__" : Str)) = false := by decide)
    (he : starEach (e :: es) X.env = (false, eval e X.env) :: starEach es X.env := by rfl) (hpl : (backTo pos (starEach es X.env)).any (·.1) = false := by rfl) : DE X I W q (.Call (.Name x p) (e :: es) [] pos) (eB f ms) :=
  PE.imp (pe_callBfun hc hg hm ha hdb he hpl) fun σ H Q h => callb_op hf h
end
end MV

set_option Elab.async false
set_option linter.all false
set_option maxRecDepth 100000
set_option maxHeartbeats 4000000
/-! MV12: dicts whose keys are ints and texts. -/
namespace MV
open PySem L2 PyProof.Rows

/-- equality of keys -/
def peq : P → P → Bool
  | .int i, .int j => decide (i = j)
  | .str x, .str y => decide (x = y)
  | _, _ => false
def lookK {α : Type} : List P → List α → P → Option α
  | k' :: ks, d :: ds, k => if peq k' k = true then some d else lookK ks ds k
  | _, _, _ => none
def putD : List P → List D → P → D → List D
  | k' :: ks, d' :: ds, k, d => if peq k' k = true then d :: ds else d' :: putD ks ds k d
  | _, _, _, d => [d]
def putKs : List P → P → List P
  | k' :: ks, k => if peq k' k = true then k' :: ks else k' :: putKs ks k
  | [], k => [k]
def keyOf : P → Option Key
  | .int i => some (.inl i)
  | .str x => some (.inr x)
  | _ => none
theorem keyOf_ok {p : P} {k : Key} (h : keyOf p = some k) : p = ofKey k := by
  cases p with
  | int i => cases h; rfl
  | str x => cases h; rfl
  | _ => cases h
theorem conP_key {K : PySem.W.Frag} {Z : AS} {H : Hp} {k : Key} {v : V} (h : conP K Z H (ofKey k) v) : v = kV k := by
  cases k with
  | inl i => simp only [ofKey, conP] at h; exact h
  | inr x => simp only [ofKey, conP] at h; exact h
theorem peq_key (k k' : Key) : peq (ofKey k) (ofKey k') = decide (k = k') := by
  cases k with
  | inl i => cases k' with
    | inl j => simp only [ofKey, peq, Sum.inl.injEq]
    | inr y => simp only [ofKey, peq]; exact (decide_eq_false fun q => nomatch q).symm
  | inr x => cases k' with
    | inl j => simp only [ofKey, peq]; exact (decide_eq_false fun q => nomatch q).symm
    | inr y => simp only [ofKey, peq, Sum.inr.injEq]
/-- what a dict holds at a key, as data and in the heap -/
theorem look_val {m : Bool} {K : PySem.W.Frag} {Z : AS} {H : Hp} (k : Key) : ∀ {kk : List Key} {ds : List D} {vs : List V} {F : AS}, kk.length = vs.length → reps m K Z H ds vs F →
    match lookK (kk.map ofKey) ds (ofKey k) with
    | some d => ∃ v F', valV (kk.zip vs) k = some v ∧ rep m K Z H d v F' ∧ ∀ b, F' b → F b
    | none => valV (kk.zip vs) k = none
  | [], ds, vs, F, hl, r => by
    cases vs with
    | nil => simp only [List.map_nil, lookK]; rfl
    | cons => cases hl
  | k0 :: kk, ds, [], F, hl, r => by cases hl
  | k0 :: kk, [], v :: vs, F, hl, r => by
    have := r.length
    cases this
  | k0 :: kk, d :: ds, v :: vs, F, hl, r => by
    simp only [reps] at r
    obtain ⟨w, r', F1, F2, e, h1, h2, _, h4, h5⟩ := r
    cases e
    simp only [List.map_cons, lookK, List.zip_cons_cons]
    rw [peq_key]
    by_cases e : k0 = k
    · rw [if_pos (decide_eq_true e)]
      exact ⟨v, F1, valV_pos e, h4, h1⟩
    · rw [if_neg (by simpa using e), valV_neg e]
      have ih := look_val k (kk := kk) (ds := ds) (vs := vs) (F := F2) (by simpa using hl) h5
      revert ih
      cases lookK (kk.map ofKey) ds (ofKey k) with
      | some d' => exact fun ⟨v', F', a, b, c⟩ => ⟨v', F', a, b, fun x y => h2 x (c x y)⟩
      | none => exact fun h => h
/-- a frozen dict -/
theorem look_valP {K : PySem.W.Frag} {Z : AS} {H : Hp} (k : Key) : ∀ {kk : List Key} {ps : List P} {vs : List V}, kk.length = vs.length → conPs K Z H ps vs →
    match lookK (kk.map ofKey) ps (ofKey k) with
    | some p => ∃ v, valV (kk.zip vs) k = some v ∧ conP K Z H p v
    | none => valV (kk.zip vs) k = none
  | [], ps, vs, hl, r => by
    cases vs with
    | nil => simp only [List.map_nil, lookK]; rfl
    | cons => cases hl
  | k0 :: kk, ps, [], hl, r => by cases hl
  | k0 :: kk, [], v :: vs, hl, r => by
    have := r.length
    cases this
  | k0 :: kk, p :: ps, v :: vs, hl, r => by
    simp only [conPs] at r
    obtain ⟨w, r', e, h4, h5⟩ := r
    cases e
    simp only [List.map_cons, lookK, List.zip_cons_cons]
    rw [peq_key]
    by_cases e : k0 = k
    · rw [if_pos (decide_eq_true e)]
      exact ⟨v, valV_pos e, h4⟩
    · rw [if_neg (by simpa using e), valV_neg e]
      have ih := look_valP k (kk := kk) (ps := ps) (vs := vs) (by simpa using hl) h5
      revert ih
      cases lookK (kk.map ofKey) ps (ofKey k) with
      | some d' => exact fun h => h
      | none => exact fun h => h
def atomK : List P → Bool
  | [] => true
  | p :: ps => (keyOf p).isSome && atomK ps
/-- the dict's own keys are ints and texts -/
theorem dctC_atoms {c : HO → Prop} {ks : List P} {vs : List V} (h : dctC c ks vs) (ha : atomK ks = true) : ∃ kk : List Key, ks = kk.map ofKey ∧ kk.length = vs.length ∧ kk.Nodup ∧ c (.dK (kk.zip vs)) := by
  rcases h with ⟨kk, e1, e2, e3⟩ | ⟨kt, e, _, _⟩
  · exact ⟨kk, e1, e2.1, e2.2, e3⟩
  · subst e
    cases and_l ha
theorem atomK_map : ∀ kk : List Key, atomK (kk.map ofKey) = true
  | [] => rfl
  | k :: kk => by
    rw [List.map_cons]
    show ((keyOf (ofKey k)).isSome && atomK (kk.map ofKey)) = true
    rw [atomK_map kk]
    cases k <;> rfl

/-! ### d[k]: an item of a dict that is looked at -/
def itemD : D → P → Option D
  | .dct ks ds, k => if atomK ks = true then lookK ks ds k else none
  | .imm (.dct ks ps), k => if atomK ks = true then (lookK ks ps k).map .imm else none
  | _, _ => none
def pick (va : Val) (d : D) : Option Val := match d with
  | .imm p => some (.own (.imm p))
  | d => (match va with
    | .bor _ x => some (.bor d x)
    | .own _ => none)
def eDg (qk : Bool) (ma mk : ME) : ME := fun ρ => (ma ρ).bind fun va ρ1 => (mk ρ1).bind fun vk ρ2 => if okq va qk = true then (match vk with
    | .own (.imm k) => (match keyOf k with
      | some _ => (match (itemD va.d k).bind (pick va) with
        | some v => .ok v ρ2
        | none => .stuck)
      | none => .stuck)
    | _ => .stuck) else .stuck
theorem item_get {K : PySem.W.Frag} {Z F : AS} {H : Hp} {d d' : D} {k : Key} {x : V} (r : rep false K Z H d x F) (h : itemD d (ofKey k) = some d') : ∃ a v, x = .ref a ∧ DGet H a (kV k) (some v) ∧ rep false K Z H d' v F := by
  cases d with
  | dct ks ds =>
    simp only [itemD] at h
    split at h
    case isFalse => cases h
    rename_i hc
    simp only [rep] at r
    obtain ⟨a, vs, e, fa, hd, hr⟩ := r
    obtain ⟨kk, e1, e2, _, e3⟩ := dctC_atoms hd hc
    subst e1
    have lv := look_val k e2 hr
    rw [h] at lv
    obtain ⟨v, F', hv, hr', hs⟩ := lv
    exact ⟨a, v, e, .inl ⟨_, k, cell.rd e3, rfl, hv.symm⟩, hr'.stay Ex.rfl.staysF (fun _ z => z) fun b z => (hs b z).1⟩
  | imm p =>
    cases p with
    | dct ks ps =>
      simp only [itemD] at h
      split at h
      case isFalse => cases h
      rename_i hc
      obtain ⟨p', h', e'⟩ := Option.map_eq_some_iff.mp h
      subst e'
      have r := rep_imm r
      simp only [conP] at r
      obtain ⟨a, vs, e, z, hd, hr⟩ := r
      obtain ⟨kk, e1, e2, _, e3⟩ := dctC_atoms hd hc
      subst e1
      have lv := look_valP k e2 hr
      rw [h'] at lv
      obtain ⟨v, hv, hr'⟩ := lv
      exact ⟨a, v, e, .inl ⟨_, k, e3, rfl, hv.symm⟩, by simp only [rep]; exact hr'⟩
    | _ => simp only [itemD] at h; cases h
  | lst ds => simp only [itemD] at h; cases h
/-- where a looked-at value's cells lie -/
def valF (F : FA) (S : AS) : Val → AS
  | .own _ => fun _ => True
  | .bor _ i => fun b => F i b ∨ S b
section
variable {X : Cx} {I : Option (Addr × Value × Option Addr)} {W : WX} {q qa qk : Bool} {pos : Pos} {a b : Expr} {ma mk m : ME} {pm : Par} {σ : L2.St} {H : Hp}
theorem pick_ok {Z S G : AS} {F : FA} {va : Val} {x v : V} {d : D} {val : Val} (hp : pick va d = some val) (hd : rep false pm.K Z H d v (valF F S va)) : valR pm Z H S F val v (fun _ => False) := by
  cases d with
  | imm p =>
    simp only [pick] at hp
    cases hp
    exact valR.imm (rep_imm hd)
  | lst ds => cases va with
    | own d' => simp only [pick] at hp; cases hp
    | bor d' i => simp only [pick] at hp; cases hp; exact ⟨hd, fun _ z => z⟩
  | dct ks ds => cases va with
    | own d' => simp only [pick] at hp; cases hp
    | bor d' i => simp only [pick] at hp; cases hp; exact ⟨hd, fun _ z => z⟩
theorem DE.dget (hu : X.A.units + 1 < cLine) (ha : DE X I W qa a ma) (hb : DE X I W qk b mk) (hs : NoSl b := by exact fun _ _ => rfl) : DE X I W (qa && qk) (.Subscript a b pos) (eDg qk ma mk) := by
  refine PE.imp (pe_dget hu ha hb hs) fun σ H Q h => ?_
  refine tE.bind h fun Z S F ρ va ρ1 x H1 Z1 F1 G1 ok1 h1 => ?_
  refine ⟨ρ1, Z1, S, F1, ok1.sta, ?_⟩
  revert h1
  cases mk ρ1 with
  | stuck => exact fun h1 => h1
  | exc z ρ2 => exact fun h1 c dd H' Z' F' y => h1 c dd H' Z' F' (ok1.t.afterX y)
  | ok vk ρ2 =>
    intro h1 y H2 Z2 F2 G2 ok2
    rw [R.bind_ok] at h1
    split at h1
    case isFalse => exact h1.elim
    rename_i hq
    have rv := ok1.val.later ok1.sta ok2 hq
    split at h1
    case h_2 => exact h1.elim
    rename_i k
    split at h1
    case h_2 => exact h1.elim
    rename_i kk hk
    split at h1
    case h_2 => exact h1.elim
    rename_i val hv
    obtain ⟨d', hi, hp⟩ := Option.bind_eq_some_iff.mp hv
    have ek := keyOf_ok hk
    subst ek
    have ck := conP_key (rep_imm ok2.val.1)
    subst ck
    -- the dict as it lies now, with its cells
    have rv2 : rep false X.K Z2 H2 va.d x (valF F2 S va) := by
      cases va with
      | own d => exact rv
      | bor d i =>
        obtain ⟨e1, e2⟩ := ok2.qt hq
        have := ok1.val.1
        rw [← e2] at this
        exact this.stay e1.staysF ok2.go.zm fun _ z => z
    obtain ⟨ad, v, ex, hg, hr⟩ := item_get rv2 hi
    refine ⟨ad, v, ex, hg, h1 v H2 Z2 F2 (fun _ => False) ⟨ok2.sta, pick_ok (pm := ⟨X.K, X.mg, I⟩) (G := G2) (x := x) hp hr, ((ok1.go.less fun a t => .inl t).trans ok2.go).less fun a t => t.elim .inl False.elim, fun z => ?_, ok1.kp.trans ok2.kp⟩⟩
    exact ⟨(ok1.qt (and_l z)).1.trans (ok2.qt (and_r z)).1, (ok2.qt (and_r z)).2.trans (ok1.qt (and_l z)).2⟩

/-! ### d[k] = e, d a name -/
def asDct : D → Option (List P × List D)
  | .dct ks ds => some (ks, ds)
  | _ => none
theorem asDct_ok {d : D} {p : List P × List D} (h : asDct d = some p) : d = .dct p.1 p.2 := by
  cases d with
  | dct ks ds => cases h; rfl
  | _ => cases h
theorem putKs_in : ∀ {kk : List Key} {k : Key}, k ∈ kk → putKs (kk.map ofKey) (ofKey k) = kk.map ofKey
  | [], k, h => by cases h
  | k0 :: kk, k, h => by
    simp only [List.map_cons, putKs]
    rw [peq_key]
    by_cases e : k0 = k
    · rw [if_pos (decide_eq_true e)]
    · rw [if_neg (by simpa using e), putKs_in (by rcases List.mem_cons.mp h with h | h; exact absurd h.symm e; exact h)]
theorem putKs_new : ∀ {kk : List Key} {k : Key}, k ∉ kk → putKs (kk.map ofKey) (ofKey k) = (kk ++ [k]).map ofKey
  | [], k, h => rfl
  | k0 :: kk, k, h => by
    simp only [List.map_cons, putKs, List.cons_append]
    rw [peq_key, if_neg (by simpa using fun e : k0 = k => h (by simp [e])), putKs_new fun z => h (List.mem_cons_of_mem _ z)]
def putV : List Key → List V → Key → V → List V
  | k' :: ks, v' :: vs, k, v => if k' = k then v :: vs else v' :: putV ks vs k v
  | _, _, _, v => [v]
theorem any_zip {k : Key} : ∀ {kk : List Key} {vs : List V}, kk.length = vs.length → (((kk.zip vs).any fun kv => decide (kv.1 = k)) = true ↔ k ∈ kk)
  | [], vs, hl => by simp
  | k0 :: kk, [], hl => by cases hl
  | k0 :: kk, v :: vs, hl => by
    simp only [List.zip_cons_cons, List.any_cons, Bool.or_eq_true, any_zip (k := k) (kk := kk) (vs := vs) (by simpa using hl), decide_eq_true_iff, List.mem_cons]
    exact ⟨fun h => h.imp Eq.symm id, fun h => h.imp Eq.symm id⟩
theorem map_zip_no {k : Key} {v : V} : ∀ {kk : List Key} {vs : List V}, k ∉ kk → (kk.zip vs).map (fun kv => if kv.1 = k then (kv.1, v) else kv) = kk.zip vs
  | [], vs, hl => by simp
  | k0 :: kk, [], hl => by simp
  | k0 :: kk, v0 :: vs, hl => by
    simp only [List.zip_cons_cons, List.map_cons]
    rw [if_neg fun e => hl (by simp [e]), map_zip_no fun z => hl (List.mem_cons_of_mem _ z)]
theorem map_zip_in {k : Key} {v : V} : ∀ {kk : List Key} {vs : List V}, kk.length = vs.length → kk.Nodup → k ∈ kk → (kk.zip vs).map (fun kv => if kv.1 = k then (kv.1, v) else kv) = kk.zip (putV kk vs k v)
  | [], vs, hl, hn, h => by cases h
  | k0 :: kk, [], hl, hn, h => by cases hl
  | k0 :: kk, v0 :: vs, hl, hn, h => by
    simp only [List.zip_cons_cons, List.map_cons, putV]
    have hn := List.nodup_cons.mp hn
    by_cases e : k0 = k
    · subst e
      rw [if_pos rfl, if_pos rfl, map_zip_no hn.1, List.zip_cons_cons]
    · rw [if_neg e, if_neg e, List.zip_cons_cons, map_zip_in (by simpa using hl) hn.2 (by rcases List.mem_cons.mp h with h | h; exact absurd h.symm e; exact h)]
theorem putV_new {k : Key} {v : V} : ∀ {kk : List Key} {vs : List V}, kk.length = vs.length → k ∉ kk → kk.zip vs ++ [(k, v)] = (kk ++ [k]).zip (putV kk vs k v)
  | [], [], hl, h => rfl
  | [], _ :: _, hl, h => by cases hl
  | k0 :: kk, [], hl, h => by cases hl
  | k0 :: kk, v0 :: vs, hl, h => by
    simp only [List.zip_cons_cons, List.cons_append, putV]
    rw [if_neg fun e => h (by simp [e]), List.zip_cons_cons, putV_new (by simpa using hl) fun z => h (List.mem_cons_of_mem _ z)]
theorem putV_in {k : Key} {v : V} : ∀ {kk : List Key} {vs : List V}, kk.length = vs.length → k ∈ kk → (putV kk vs k v).length = kk.length
  | [], vs, hl, h => by cases h
  | k0 :: kk, [], hl, h => by cases hl
  | k0 :: kk, v0 :: vs, hl, h => by
    simp only [putV]
    by_cases e : k0 = k
    · rw [if_pos e, List.length_cons, List.length_cons]; simpa using hl.symm
    · rw [if_neg e, List.length_cons, putV_in (by simpa using hl) (by rcases List.mem_cons.mp h with h | h; exact absurd h.symm e; exact h), List.length_cons]
theorem putV_out {k : Key} {v : V} : ∀ {kk : List Key} {vs : List V}, kk.length = vs.length → k ∉ kk → (putV kk vs k v).length = kk.length + 1
  | [], [], hl, h => rfl
  | [], _ :: _, hl, h => by cases hl
  | k0 :: kk, [], hl, h => by cases hl
  | k0 :: kk, v0 :: vs, hl, h => by
    simp only [putV]
    rw [if_neg fun e => h (by simp [e]), List.length_cons, putV_out (by simpa using hl) fun z => h (List.mem_cons_of_mem _ z), List.length_cons]
theorem put_reps {K : PySem.W.Frag} {Z : AS} {H : Hp} {d : D} {v : V} {G : AS} (k : Key) (hd : rep true K Z H d v G) : ∀ {kk : List Key} {ds : List D} {vs : List V} {F : AS}, (∀ b, F b → ¬ G b) → kk.length = vs.length → reps true K Z H ds vs F →
    reps true K Z H (putD (kk.map ofKey) ds (ofKey k) d) (putV kk vs k v) (fun b => F b ∨ G b)
  | [], [], vs, F, hF, hl, r => by
    simp only [reps] at r
    subst r
    simp only [List.map_nil, putD, putV, reps]
    exact ⟨v, [], G, fun _ => False, Eq.refl _, fun b z => .inr z, fun b z => z.elim, fun b _ z => z, hd, Eq.refl _⟩
  | [], d0 :: ds, vs, F, hF, hl, r => by
    have := r.length
    rw [← hl] at this
    cases this
  | k0 :: kk, [], vs, F, hF, hl, r => by
    have := r.length
    rw [← hl] at this
    cases this
  | k0 :: kk, d0 :: ds, [], F, hF, hl, r => by cases hl
  | k0 :: kk, d0 :: ds, v0 :: vs, F, hF, hl, r => by
    simp only [reps] at r
    obtain ⟨w, r', F1, F2, e, h1, h2, h3, h4, h5⟩ := r
    cases e
    simp only [List.map_cons, putD, putV]
    rw [peq_key]
    by_cases e : k0 = k
    · rw [if_pos (decide_eq_true e), if_pos e]
      simp only [reps]
      exact ⟨v, vs, G, F2, Eq.refl _, fun b z => .inr z, fun b z => .inl (h2 b z), fun b z y => hF b (h2 b y) z, hd, h5⟩
    · rw [if_neg (by simpa using e), if_neg e]
      simp only [reps]
      exact ⟨v0, _, F1, fun b => F2 b ∨ G b, Eq.refl _, fun b z => .inl (h1 b z), fun b z => z.imp (h2 b) id, fun b z y => y.elim (h3 b z) (hF b (h1 b z)), h4, put_reps k hd (fun b z => hF b (h2 b z)) (by simpa using hl) h5⟩
theorem put_val {K : PySem.W.Frag} {Z : AS} {H : Hp} {d : D} {v : V} {G : AS} (k : Key) (hd : rep true K Z H d v G) {kk : List Key} {ds : List D} {vs : List V} {F : AS} (hF : ∀ b, F b → ¬ G b) (hl : kk.length = vs.length) (r : reps true K Z H ds vs F) (hn : kk.Nodup) :
    ∃ (kk' : List Key) (vs' : List V), putKs (kk.map ofKey) (ofKey k) = kk'.map ofKey ∧ kk'.length = vs'.length ∧ kk'.Nodup ∧ putK (kk.zip vs) k v = kk'.zip vs' ∧ reps true K Z H (putD (kk.map ofKey) ds (ofKey k) d) vs' (fun b => F b ∨ G b) := by
  have pr := put_reps k hd hF hl r
  rcases Classical.em (k ∈ kk) with m | m
  · refine ⟨kk, putV kk vs k v, putKs_in m, (putV_in hl m).symm, hn, ?_, pr⟩
    unfold putK
    rw [if_pos ((any_zip hl).mpr m), map_zip_in hl hn m]
  · refine ⟨kk ++ [k], putV kk vs k v, putKs_new m, by rw [putV_out hl m, List.length_append]; rfl, ?_, ?_, pr⟩
    · rw [List.nodup_append]
      refine ⟨hn, by simp, fun a ha b hb => ?_⟩
      simp at hb
      subst hb
      exact fun z => m (z ▸ ha)
    · unfold putK
      rw [if_neg fun z => m ((any_zip hl).mp z), putV_new hl m]
end
end MV

set_option Elab.async false
set_option linter.all false
set_option maxRecDepth 100000
set_option maxHeartbeats 4000000
/-! MV13: displays of dicts; d[k] = e; in. -/
namespace MV
open PySem L2 PyProof.Rows

/-! ### displays -/
def flat2 : List (V × V) → List V
  | [] => []
  | p :: ps => p.1 :: p.2 :: flat2 ps
def unflat : List V → List (V × V)
  | x :: y :: r => (x, y) :: unflat r
  | _ => []
theorem unflat_flat : ∀ ps : List (V × V), unflat (flat2 ps) = ps
  | [] => rfl
  | p :: ps => by simp only [flat2, unflat, unflat_flat ps]
def DP (X : Cx) (I : Option (Addr × Value × Option Addr)) (W : WX) (q : Bool) (pos : Pos) (keys : List (Option Expr)) (values : List Expr) (ms : MA) : Prop :=
  ∃ trs, PPs X pos keys values trs ∧ ∀ σ H Q, tA ⟨X.K, X.mg, I⟩ W q ms σ H Q → tPairs trs σ H (fun ps H2 => Q (flat2 ps) H2)
def pairsOf : List D → Option (List P × List D)
  | [] => some ([], [])
  | .imm k :: d :: r => if (keyOf k).isSome = true then (pairsOf r).map fun p => (k :: p.1, d :: p.2) else none
  | _ => none
def nodupK : List P → Bool
  | [] => true
  | k :: ks => ks.all (fun k' => !peq k k') && nodupK ks
def eDct (ms : MA) : ME := fun ρ => (ms ρ).bind fun ds ρ1 => match pairsOf ds with
  | some p => if nodupK p.1 = true ∧ p.1.length ≤ 15 then .ok (.own (.dct p.1 p.2)) ρ1 else .stuck
  | none => .stuck
/-- {}: keys ints and texts; keys tuples -/
def eDnew (b : Bool) : ME := fun ρ => .ok (.own (.dct (if b = true then [.non] else []) [])) ρ
theorem nodupK_ok : ∀ {kk : List Key}, nodupK (kk.map ofKey) = true → kk.Nodup
  | [], _ => List.nodup_nil
  | k :: kk, h => by
    have h : ((kk.map ofKey).all (fun k' => !peq (ofKey k) k') && nodupK (kk.map ofKey)) = true := h
    refine List.nodup_cons.mpr ⟨fun hm => ?_, nodupK_ok (and_r h)⟩
    have := List.all_eq_true.mp (and_l h) (ofKey k) (List.mem_map_of_mem hm)
    rw [peq_key] at this
    simp at this
theorem mergeK_new : ∀ {more acc : List (Key × V)}, ((acc ++ more).map (·.1)).Nodup → mergeK acc more = acc ++ more
  | [], acc, _ => by simp [mergeK]
  | p :: more, acc, h => by
    have e : mergeK acc (p :: more) = mergeK (putK acc p.1 p.2) more := rfl
    have hn : valV acc p.1 = none := by
      cases q : valV acc p.1 with
      | none => rfl
      | some v =>
        have a := valV_any p.1 acc
        rw [q] at a
        obtain ⟨kv, hm, ek⟩ := List.any_eq_true.mp a
        have ek := of_decide_eq_true ek
        rw [List.map_append, List.nodup_append] at h
        exact absurd ek (h.2.2 kv.1 (List.mem_map_of_mem hm) p.1 (by simp))
    rw [e, putK_new _ hn, mergeK_new (by simpa using h)]
    simp
theorem pairs_ok {K : PySem.W.Frag} {Z : AS} {H : Hp} : ∀ {ds : List D} {p : List P × List D} {ws : List V} {G : AS}, pairsOf ds = some p → reps true K Z H ds ws G →
    ∃ (kk : List Key) (vs : List V), p.1 = kk.map ofKey ∧ kk.length = vs.length ∧ unflat ws = (kk.zip vs).map (fun kv => (kV kv.1, kv.2)) ∧ reps true K Z H p.2 vs G
  | [], p, ws, G, h, r => by
    cases h
    have r' := r
    simp only [reps] at r'
    subst r'
    exact ⟨[], [], Eq.refl _, Eq.refl _, Eq.refl _, r⟩
  | [d], p, ws, G, h, r => by
    cases d <;> (simp only [pairsOf] at h; cases h)
  | d1 :: d2 :: ds, p, ws, G, h, r => by
    cases d1 with
    | imm k =>
      simp only [pairsOf] at h
      split at h
      case isFalse => cases h
      rename_i hk
      obtain ⟨p', hp, e⟩ := Option.map_eq_some_iff.mp h
      subst e
      simp only [reps] at r
      obtain ⟨v, w, F1, F2, e, s1, s2, s3, r1, v', w', F3, F4, e', t1, t2, t3, r2, r3⟩ := r
      subst e'
      subst e
      obtain ⟨kk, vs, e1, e2, e3, e4⟩ := pairs_ok hp r3
      obtain ⟨k0, hk0⟩ := Option.isSome_iff_exists.mp hk
      have ek := keyOf_ok hk0
      subst ek
      have ck := conP_key (rep_imm r1)
      refine ⟨k0 :: kk, v' :: vs, by simp only [e1, List.map_cons], by rw [List.length_cons, List.length_cons, e2], ?_, ?_⟩
      · simp only [unflat]
        rw [List.zip_cons_cons, List.map_cons, ← e3, ← ck]
      · simp only [reps]
        exact ⟨v', vs, F3, F4, Eq.refl _, fun b z => s2 b (t1 b z), fun b z => s2 b (t2 b z), t3, r2, e4⟩
    | lst _ => simp only [pairsOf] at h; cases h
    | dct _ _ => simp only [pairsOf] at h; cases h
section
variable {X : Cx} {I : Option (Addr × Value × Option Addr)} {W : WX} {q qa qb qk : Bool} {pos : Pos} {a b e : Expr} {ma mb mk m : ME} {ms : MA} {pm : Par} {σ : L2.St} {H : Hp}
theorem DP.nil : DP X I W true pos [] [] aNil := ⟨[], pps_nil, fun σ H Q h => by
  obtain ⟨ρ, Z, S, F, s, h⟩ := h
  exact h [] H Z F _ s.okA⟩
theorem DP.cons {k v : Expr} {ks : List (Option Expr)} {vs : List Expr} (hk : DE X I W qk k mk) (hv : DE X I W qa v ma) (hr : DP X I W qb pos ks vs ms) : DP X I W (qk && (qa && qb)) pos (some k :: ks) (v :: vs) (aCons mk (aCons ma ms)) := by
  obtain ⟨trs, h1, h2⟩ := hr
  refine ⟨_, pps_cons hk hv h1, fun σ H Q h => ?_⟩
  exact (aCons_op h).mono fun x H1 g => (aCons_op g).mono fun y H2 g2 => h2 σ H2 _ g2
theorem DE.dctNew {b : Bool} : DE X I W true (.Dict [] [] pos) (eDnew b) := by
  cases b with
  | false =>
    refine PE.imp pe_dnewK fun σ H Q h => ?_
    obtain ⟨ρ, Z, S, F, s, h⟩ := h
    intro p hp
    have ex := Ex.new (o := .dK []) hp
    refine h (.ref p) _ Z F (fun a => a = p) ⟨s.ex ex, ⟨?_, fun a g => ?_⟩, ?_, fun z => ⟨ex, Eq.refl F⟩, KeepE.rfl⟩
    · simp only [rep]
      exact ⟨p, [], Eq.refl _, Eq.refl _, .inl ⟨[], Eq.refl _, ⟨Eq.refl _, List.nodup_nil⟩, upd_same⟩, by simp only [reps]⟩
    · subst g
      exact ⟨⟨_, upd_same, True.intro⟩, s.fresh_none hp⟩
    · refine ⟨fun a o e t => ex a o e, fun _ z => z, fun _ z => .inl z, fun a t => ?_, fun a t => ex.ne (s.dm a t)⟩
      rcases t with t | t
      · exact .inl t
      · subst t; exact .inr hp
  | true =>
    refine PE.imp pe_dnewT fun σ H Q h => ?_
    obtain ⟨ρ, Z, S, F, s, h⟩ := h
    intro p hp
    have ex := Ex.new (o := .dT []) hp
    refine h (.ref p) _ Z F (fun a => a = p) ⟨s.ex ex, ⟨?_, fun a g => ?_⟩, ?_, fun z => ⟨ex, Eq.refl F⟩, KeepE.rfl⟩
    · simp only [rep]
      exact ⟨p, [], Eq.refl _, Eq.refl _, .inr ⟨[], Eq.refl _, ⟨Eq.refl _, List.nodup_nil⟩, upd_same⟩, by simp only [reps]⟩
    · subst g
      exact ⟨⟨_, upd_same, True.intro⟩, s.fresh_none hp⟩
    · refine ⟨fun a o e t => ex a o e, fun _ z => z, fun _ z => .inl z, fun a t => ?_, fun a t => ex.ne (s.dm a t)⟩
      rcases t with t | t
      · exact .inl t
      · subst t; exact .inr hp
theorem DE.dct {keys : List (Option Expr)} {values : List Expr} (h : DP X I W q pos keys values ms) (hall : keys.all (·.isSome) = true := by rfl) (hl : keys.length = values.length := by rfl) (h0 : keys ≠ [] := by exact fun z => nomatch z)
    (h15 : keys.length ≤ 15 := by decide) : DE X I W q (.Dict keys values pos) (eDct ms) := by
  obtain ⟨trs, h1, h2⟩ := h
  refine PE.imp (pe_disp h1 hall hl h0 h15) fun σ H Q h => ?_
  obtain ⟨ρ, Z, S, F, s, h⟩ := h
  intro p hp
  have ex := Ex.new (o := .dK []) hp
  have g := h2 σ (upd H p (.dK [])) (fun vs H2 => H2 p = some (.dK []) ∧ ∃ kvs : List (Key × V), unflat vs = kvs.map (fun kv => (kV kv.1, kv.2)) ∧ kvs.length ≤ 15 ∧ Q (.ref p) (upd H2 p (.dK (mergeK [] kvs)))) ?_
  · simp only [unflat_flat] at g
    exact g
  · refine ⟨ρ, Z, S, F, s.ex ex, ?_⟩
    have h : postE ⟨X.K, X.mg, I⟩ W S σ q H Z F ρ Q ((ms ρ).bind fun ds ρ1 => match pairsOf ds with
      | some p => if nodupK p.1 = true ∧ p.1.length ≤ 15 then .ok (.own (.dct p.1 p.2)) ρ1 else .stuck
      | none => .stuck) := h
    revert h
    cases ms ρ with
    | stuck => exact fun h => h
    | exc x ρ1 => exact fun h c dd H' Z' F' y => h c dd H' Z' F' ⟨y.sta, y.exc, (s.goEx ex).trans y.go, y.kp⟩
    | ok ds ρ1 =>
      intro h ws H2 Z2 F2 G2 ok
      rw [R.bind_ok] at h
      split at h
      case h_2 => exact h.elim
      rename_i pr hpr
      split at h
      case isFalse => exact h.elim
      rename_i hn
      obtain ⟨kk, vs, e1, e2, e3, e4⟩ := pairs_ok hpr ok.val
      have hnd : kk.Nodup := nodupK_ok (by rw [← e1]; exact hn.1)
      have np : ∀ a, H a ≠ none → a ≠ p := fun a n z => by rw [z] at n; exact n hp
      have nF : ¬ MV.un F p := fun t => np p (s.dm p t) (Eq.refl _)
      have eH2 : H2 p = some (.dK []) := ok.go.keep p _ upd_same nF
      have nT : ¬ (MV.un F2 p ∨ G2 p) := fun t => (ok.go.nt p t).elim nF fun z => by rw [upd_same] at z; cases z
      have nZ : ¬ Z2 p := fun z => by
        rcases ok.go.nz p z with y | y | y
        · exact np p (s.dom p (.inl y)) (Eq.refl _)
        · exact nF y
        · rw [upd_same] at y; cases y
      have nS : ¬ S p := fun z => np p (s.dom p (.inr z)) (Eq.refl _)
      have lk : (kk.zip vs).length ≤ 15 := by
        rw [List.length_zip, ← e2, Nat.min_self]
        have := hn.2
        rwa [e1, List.length_map] at this
      refine ⟨eH2, kk.zip vs, e3, lk, ?_⟩
      have mg : mergeK [] (kk.zip vs) = kk.zip vs := by
        rw [mergeK_new (by rw [List.nil_append, List.map_fst_zip (by omega)]; exact hnd)]
        rfl
      rw [mg]
      have gp : ∀ a, G2 a → a ≠ p := fun a g z => nT (.inr (z ▸ g))
      have keep : ∀ a o, H2 a = some o → a ≠ p → upd H2 p (.dK (kk.zip vs)) a = some o := fun a o e n => by rw [upd_ne n]; exact e
      have s2 := ok.sta.wr (o := .dK (kk.zip vs)) ⟨⟨_, eH2, True.intro⟩, nZ, nS, fun t => nT (.inl t)⟩ True.intro
      refine h (.ref p) _ Z2 F2 (fun a => a = p ∨ G2 a) ⟨s2, ⟨?_, fun a g => ?_⟩, ?_, fun z => ⟨fun a o e => ?_, (ok.qt z).2⟩, ok.kp⟩
      · simp only [rep]
        refine ⟨p, vs, Eq.refl _, .inl (Eq.refl _), .inl ⟨kk, e1, ⟨e2, hnd⟩, upd_same⟩, ?_⟩
        refine e4.stay (F := G2) (fun a o e z => keep a o e fun y => ?_) (fun _ z => z) fun a g => ⟨.inr g, gp a g⟩
        subst y
        rcases z with z | z | z
        · exact nZ z
        · exact nT (.inr z)
        · rw [eH2] at e; cases e; exact z True.intro
      · rcases g with g | g
        · subst g
          exact ⟨⟨_, upd_same, True.intro⟩, nZ, nS, fun t => nT (.inl t)⟩
        · obtain ⟨⟨o, e, m⟩, r⟩ := ok.dis a g
          exact ⟨⟨o, keep a o e (gp a g), m⟩, r⟩
      · have g0 := (s.goEx ex).trans ok.go
        refine ⟨fun a o e t => keep a o (g0.keep a o e t) (np a (by rw [e]; exact fun z => nomatch z)), g0.zm, g0.nz, fun a t => ?_, fun a t => ?_⟩
        · rcases t with t | t | t
          · exact g0.nt a (.inl t)
          · subst t; exact .inr hp
          · exact g0.nt a (.inr t)
        · by_cases y : a = p
          · subst y; rw [upd_same]; exact fun z => nomatch z
          · rw [upd_ne y]; exact g0.dm a t
      · exact keep a o ((ok.qt z).1 a o (ex a o e)) (np a (by rw [e]; exact fun z => nomatch z))

/-! ### d[k] = e, d a name -/
def sDput (i : Nat) (mk m : ME) : MS := fun ρ => (m ρ).bindS fun v ρ1 => match v with
  | .bor _ _ => .stuck
  | .own d => (match ((ρ1[i]?).bind slD).bind asDct with
    | none => .stuck
    | some _ => (mk ρ1).bindS fun vk ρ2 => (match vk with
      | .own (.imm k) => (match ρ2[i]?, keyOf k with
        | some s0, some _ => (match (slD s0).bind asDct with
          | some p => if atomK p.1 = true ∧ p.1.length < sizeLine then .nx (ρ2.set i (reS s0 (.dct (putKs p.1 k) (putD p.1 p.2 k d)))) else .stuck
          | none => .stuck)
        | _, _ => .stuck)
      | _ => .stuck))
theorem DS.dput (i : Nat) {x : Str} {k e : Expr} {xpos pos' : Pos} {qm : Bool} (hu : X.A.units + 1 < cLine) (he : DE X I W qm e m) (hk : DE X I W qk k mk) (hN : X.N[i]? = some x := by rfl) (hv : Vis X.env.scope x := by first | exact Or.inl rfl | exact Or.inr (Or.inl rfl) | exact Or.inr (Or.inr rfl)) (hd : (x == ("__debug__" : Str)) = false := by decide)
    (hcd : (x == ("__classdict__" : Str)) = false := by decide) (hs : swapsWith e (some (.Subscript (.Name x xpos) k pos')) pos.line X.env = pure false := by rfl) : DS X I W (.Assign [.Subscript (.Name x xpos) k pos'] e pos) (sDput i mk m) := by
  refine PS.imp (ps_dput hu (pe_var hN hv hd hcd) hk he hs) fun N σ H h => ?_
  obtain ⟨ρ, Z, S, F, s, h⟩ := h
  refine ⟨ρ, Z, S, F, s, ?_⟩
  have h : postS _ W S σ H Z F ρ N ((m ρ).bindS fun v ρ1 => match v with
    | .bor _ _ => .stuck
    | .own d => (match ((ρ1[i]?).bind slD).bind asDct with
      | none => .stuck
      | some _ => (mk ρ1).bindS fun vk ρ2 => (match vk with
        | .own (.imm k) => (match ρ2[i]?, keyOf k with
          | some s0, some _ => (match (slD s0).bind asDct with
            | some p => if atomK p.1 = true ∧ p.1.length < sizeLine then .nx (ρ2.set i (reS s0 (.dct (putKs p.1 k) (putD p.1 p.2 k d)))) else .stuck
            | none => .stuck)
          | _, _ => .stuck)
        | _ => .stuck))) := h
  revert h
  cases m ρ with
  | stuck => exact fun h => h
  | exc y ρ1 => exact fun h c dd H1 Z1 F1 y => h c dd σ H1 Z1 F1 ⟨y.sta, y.exc, y.go, y.kp.keep⟩
  | ok val ρ1 =>
    intro h y H1 Z1 F1 G ok
    rw [R.bindS_ok] at h
    cases val with
    | bor d j => exact h.elim
    | own d =>
      simp only [] at h
      split at h
      · exact h.elim
      rename_i p0 hp0
      obtain ⟨d0, g1, g2⟩ := Option.bind_eq_some_iff.mp hp0
      obtain ⟨s0, g3, g4⟩ := Option.bind_eq_some_iff.mp g1
      obtain ⟨v, e1, e2, r⟩ := ok.sta.slotD g3 g4
      refine ⟨v, e1, ρ1, Z1, S, F1, ok.sta, ?_⟩
      revert h
      cases mk ρ1 with
      | stuck => exact fun h => h
      | exc y ρ2 => exact fun h c dd H2 Z2 F2 y => h c dd σ H2 Z2 F2 ⟨y.sta, y.exc, (ok.go.less fun a t => .inl t).trans y.go, (ok.kp.trans y.kp).keep⟩
      | ok vk ρ2 =>
        intro h z H2 Z2 F2 G2 ok2
        rw [R.bindS_ok] at h
        split at h
        case h_2 => exact h.elim
        rename_i k
        split at h
        case h_2 => exact h.elim
        rename_i s1 kk hs1 hkk
        split at h
        case h_2 => exact h.elim
        rename_i p hp
        split at h
        case isFalse => exact h.elim
        rename_i hc
        obtain ⟨d1, l1, l2⟩ := Option.bind_eq_some_iff.mp hp
        obtain ⟨w, k1, k2, r1⟩ := ok2.sta.slotD hs1 l1
        rw [e1] at k1
        cases k1
        have ed := asDct_ok l2
        subst ed
        simp only [rep] at r1
        obtain ⟨a, vs, ev, fa, ca, ra⟩ := r1
        subst ev
        obtain ⟨kl, q1, q2, q3, q4⟩ := dctC_atoms ca hc.1
        have ek := keyOf_ok hkk
        subst ek
        have ck := conP_key (rep_imm ok2.val.1)
        subst ck
        have hG := held ok.sta ok.val.2 ok2.go
        have nG : ∀ b, G b → b ≠ a := fun b g q => (hG b g).2.2.2 (.inl ⟨i, by rw [q]; exact fa⟩)
        have rd : rep true X.K Z2 H2 d y G := ok.val.1.stay (ok.sta.go_staysF ok2.go fun a g => (ok.val.2 a g).2.2.2) ok2.go.zm fun _ z => z
        obtain ⟨kk', vs', t1, t2, t3, t4, t5⟩ := put_val kk rd (fun b f g => (hG b g).2.2.2 (.inl ⟨i, f.1⟩)) q2 ra q3
        have hz : (kl.zip vs).length < sizeLine := by
          rw [List.length_zip, ← q2, Nat.min_self]
          have := hc.2
          rwa [q1, List.length_map] at this
        refine ⟨a, _, Eq.refl _, .inl ⟨_, kk, q4, Eq.refl _, hz, Eq.refl _⟩, ?_⟩
        rw [t4]
        have own2 : ∀ b, G b → Own H2 b ∧ ¬ Z2 b ∧ ¬ S b ∧ ¬ MV.un F2 b := fun b g => ⟨(hG b g).1, (hG b g).2.1, (hG b g).2.2.1, fun t => (hG b g).2.2.2 (.inl t)⟩
        have r2 : rep true X.K Z2 (upd H2 a (.dK (kk'.zip vs'))) (.dct (putKs p.1 (ofKey kk)) (putD p.1 p.2 (ofKey kk) d)) (.ref a) (fun b => F2 i b ∨ G b) := by
          simp only [rep]
          refine ⟨a, vs', Eq.refl _, .inl fa, .inl ⟨kk', by rw [q1, t1], ⟨t2, t3⟩, upd_same⟩, ?_⟩
          rw [q1]
          refine t5.stay (F := fun b => (F2 i b ∧ b ≠ a) ∨ G b) (fun b u e z => ?_) (fun _ z => z) fun b z => z.elim (fun y => ⟨.inl y.1, y.2⟩) fun y => ⟨.inr y, nG b y⟩
          rw [upd_ne (fun q => ?_)]
          · exact e
          · subst q
            rcases z with z | z | z
            · exact (ok2.sta.own i b fa).2.1 z
            · exact z.elim (fun y => y.2 (Eq.refl _)) fun y => nG b y (Eq.refl _)
            · have q4 : H2 b = _ := q4
              rw [q4] at e; cases e; exact z True.intro
        have s2 := ok2.sta.mut (o := .dK (kk'.zip vs')) hs1 l1 fa own2 True.intro k2 r2
        have g12 : Go H Z (MV.un F) H2 Z2 (fun a => MV.un F2 a ∨ G a) := ok.go.cut ok2.go (fun a t => .inl t) fun a t => by
          rcases t with t | t
          · exact .inl (.inl t)
          · exact .inr (.inr t)
        exact h σ _ Z2 _ ⟨s2, g12.trans (ok2.sta.mutGo fa fun b g => (own2 b g).1), ((ok.kp.trans ok2.kp).trans (KeepE.re hs1 l1)).keep⟩

/-! ### k in d -/
def rDIn : R2 := fun y x H Q => ∃ a o, x = .ref a ∧ DGet H a y o ∧ Q (.bl o.isSome) H
def rDNotIn : R2 := fun y x H Q => ∃ a o, x = .ref a ∧ DGet H a y o ∧ Q (.bl (!o.isSome)) H
def hasK : D → D → Option Bool
  | .imm k, .dct ks _ => if (keyOf k).isSome = true ∧ atomK ks = true then some (ks.any fun k' => peq k' k) else none
  | .imm k, .imm (.dct ks _) => if (keyOf k).isSome = true ∧ atomK ks = true then some (ks.any fun k' => peq k' k) else none
  | _, _ => none
def fIn (a b : D) : Option D := (hasK a b).map fun c => .imm (.bl c)
def fNotIn (a b : D) : Option D := (hasK a b).map fun c => .imm (.bl (!c))
theorem any_keys {k : Key} : ∀ {kk : List Key} {vs : List V}, kk.length = vs.length → (valV (kk.zip vs) k).isSome = ((kk.map ofKey).any fun k' => peq k' (ofKey k))
  | [], vs, hl => by simp [valV_nil]
  | k0 :: kk, [], hl => by cases hl
  | k0 :: kk, v0 :: vs, hl => by
    rw [List.zip_cons_cons, List.map_cons, List.any_cons, peq_key]
    by_cases e : k0 = k
    · rw [valV_pos (by exact e), decide_eq_true e]; rfl
    · rw [valV_neg (by exact e), decide_eq_false e, Bool.false_or, any_keys (by simpa using hl)]
theorem hasK_ok {K : PySem.W.Frag} {Z F G : AS} {H : Hp} {d1 d2 : D} {x y : V} {c : Bool} (r1 : rep false K Z H d1 x F) (r2 : rep false K Z H d2 y G) (h : hasK d1 d2 = some c) : ∃ a o, y = .ref a ∧ DGet H a x o ∧ o.isSome = c := by
  cases d1 with
  | imm k =>
    have fin : ∀ {ks : List P} {a : Addr} {vs : List V}, dctC (fun o => Rd H a o) ks vs → (if (keyOf k).isSome = true ∧ atomK ks = true then some (ks.any fun k' => peq k' k) else none) = some c → ∃ o, DGet H a x o ∧ o.isSome = c := fun {ks a vs} hd h => by
      split at h
      case isFalse => cases h
      rename_i hc
      obtain ⟨k0, hk0⟩ := Option.isSome_iff_exists.mp hc.1
      have ek := keyOf_ok hk0
      subst ek
      have ck := conP_key (rep_imm r1)
      subst ck
      obtain ⟨kk, e1, e2, _, e3⟩ := dctC_atoms hd hc.2
      subst e1
      cases h
      exact ⟨_, .inl ⟨_, k0, e3, rfl, rfl⟩, any_keys e2⟩
    cases d2 with
    | dct ks ds =>
      simp only [rep] at r2
      obtain ⟨a, vs, e, _, hd, _⟩ := r2
      obtain ⟨o, h1, h2⟩ := fin (hd.imp fun o _ r => cell.rd r) h
      exact ⟨a, o, e, h1, h2⟩
    | imm p =>
      cases p with
      | dct ks ps =>
        have r2 := rep_imm r2
        simp only [conP] at r2
        obtain ⟨a, vs, e, _, hd, _⟩ := r2
        obtain ⟨o, h1, h2⟩ := fin hd h
        exact ⟨a, o, e, h1, h2⟩
      | _ => simp only [hasK] at h; cases h
    | lst _ => simp only [hasK] at h; cases h
  | lst _ => simp only [hasK] at h; cases h
  | dct _ _ => simp only [hasK] at h; cases h
theorem opd_in {K : PySem.W.Frag} : OpD K rDIn fIn := fun Z H d1 d2 d x y Q c1 c2 h fr => by
  obtain ⟨c, hc, e⟩ := Option.map_eq_some_iff.mp h
  subst e
  obtain ⟨a, o, e1, e2, e3⟩ := hasK_ok c1 c2 hc
  exact ⟨a, o, e1, e2, by rw [e3]; exact fr.here conP_bl⟩
theorem opd_notIn {K : PySem.W.Frag} : OpD K rDNotIn fNotIn := fun Z H d1 d2 d x y Q c1 c2 h fr => by
  obtain ⟨c, hc, e⟩ := Option.map_eq_some_iff.mp h
  subst e
  obtain ⟨a, o, e1, e2, e3⟩ := hasK_ok c1 c2 hc
  exact ⟨a, o, e1, e2, by rw [e3]; exact fr.here conP_bl⟩
theorem DE.pc {op : CmpOp} {r : R2} {f : D → D → Option D} (hpc : ∀ {ta tb : TE}, PE X a ta → PE X b tb → PC X op a b (tOp r ta tb)) (hf : OpD X.K r f) (ha : DE X I W qa a ma) (hb : DE X I W qb b mb) (hm : behindInMarks op b = false := by first | exact nobehind _ (by decide) (by decide) | rfl) : DE X I W (qa && qb) (.Compare a [op] [b] pos) (e2 qb f ma mb) :=
  PE.imp (pe_cmp (hpc ha hb) hm) fun σ H Q h => two_op hf h
theorem DT.pc {op : CmpOp} {r : R2} {f : D → D → Option D} (hpc : ∀ {ta tb : TE}, PE X a ta → PE X b tb → PC X op a b (tOp r ta tb)) (hf : OpD X.K r f) (ha : DE X I W qa a ma) (hb : DE X I W qb b mb) (hm : behindInMarks op b = false := by first | exact nobehind _ (by decide) (by decide) | rfl) : DT X I W (qa && qb) (.Compare a [op] [b] pos) (toB (e2 qb f ma mb)) :=
  PT.imp (pt_cmp (hpc ha hb) hm) fun σ H Q h => two_op hf h.ofE
theorem DE.din (hu : X.A.units + 1 < cLine) (ha : DE X I W qa a ma) (hb : DE X I W qb b mb) (hm : behindInMarks .In b = false := by rfl) : DE X I W (qa && qb) (.Compare a [.In] [b] pos) (e2 qb fIn ma mb) := DE.pc (fun h1 h2 => pc_din hu h1 h2) opd_in ha hb hm
theorem DT.din (hu : X.A.units + 1 < cLine) (ha : DE X I W qa a ma) (hb : DE X I W qb b mb) (hm : behindInMarks .In b = false := by rfl) : DT X I W (qa && qb) (.Compare a [.In] [b] pos) (toB (e2 qb fIn ma mb)) := DT.pc (fun h1 h2 => pc_din hu h1 h2) opd_in ha hb hm
theorem DE.dnotin (hu : X.A.units + 1 < cLine) (ha : DE X I W qa a ma) (hb : DE X I W qb b mb) (hm : behindInMarks .NotIn b = false := by rfl) : DE X I W (qa && qb) (.Compare a [.NotIn] [b] pos) (e2 qb fNotIn ma mb) := DE.pc (fun h1 h2 => pc_dnotin hu h1 h2) opd_notIn ha hb hm
theorem DT.dnotin (hu : X.A.units + 1 < cLine) (ha : DE X I W qa a ma) (hb : DE X I W qb b mb) (hm : behindInMarks .NotIn b = false := by rfl) : DT X I W (qa && qb) (.Compare a [.NotIn] [b] pos) (toB (e2 qb fNotIn ma mb)) := DT.pc (fun h1 h2 => pc_dnotin hu h1 h2) opd_notIn ha hb hm
/-- a is None, is not None -/
def fIsN : D → Option D
  | .imm .non => some (.imm (.bl true))
  | _ => some (.imm (.bl false))
def fNotN (d : D) : Option D := match d with
  | .imm .non => some (.imm (.bl false))
  | _ => some (.imm (.bl true))
theorem rep_non {m : Bool} {K : PySem.W.Frag} {Z F : AS} {H : Hp} {d : D} {x : V} (r : rep m K Z H d x F) : fIsN d = some (.imm (.bl (decide (x = .non)))) ∧ fNotN d = some (.imm (.bl (!decide (x = .non)))) := by
  have yes : x = .non → d = .imm .non → fIsN d = some (.imm (.bl (decide (x = .non)))) ∧ fNotN d = some (.imm (.bl (!decide (x = .non)))) := fun e q => by subst e q; exact ⟨rfl, rfl⟩
  have no : x ≠ .non → fIsN d = some (.imm (.bl false)) → fNotN d = some (.imm (.bl true)) → fIsN d = some (.imm (.bl (decide (x = .non)))) ∧ fNotN d = some (.imm (.bl (!decide (x = .non)))) := fun e q q' => by rw [q, q', decide_eq_false e]; exact ⟨rfl, rfl⟩
  cases d with
  | imm p =>
    have r := rep_imm r
    cases p with
    | non => simp only [conP] at r; exact yes r rfl
    | bl b => simp only [conP] at r; exact no (by rw [r]; exact fun z => nomatch z) rfl rfl
    | int b => simp only [conP] at r; exact no (by rw [r]; exact fun z => nomatch z) rfl rfl
    | str b => simp only [conP] at r; exact no (by rw [r]; exact fun z => nomatch z) rfl rfl
    | tup b => simp only [conP] at r; obtain ⟨a, vs, e, _⟩ := r; exact no (by rw [e]; exact fun z => nomatch z) rfl rfl
    | lst b => simp only [conP] at r; obtain ⟨a, vs, e, _⟩ := r; exact no (by rw [e]; exact fun z => nomatch z) rfl rfl
    | dct b c => simp only [conP] at r; obtain ⟨a, vs, e, _⟩ := r; exact no (by rw [e]; exact fun z => nomatch z) rfl rfl
  | lst b => simp only [rep] at r; obtain ⟨a, vs, e, _⟩ := r; exact no (by rw [e]; exact fun z => nomatch z) rfl rfl
  | dct b c => simp only [rep] at r; obtain ⟨a, vs, e, _⟩ := r; exact no (by rw [e]; exact fun z => nomatch z) rfl rfl
def rIsN : V → Hp → VK → Prop := fun x H Q => Q (.bl (decide (x = .non))) H
def rNotN : V → Hp → VK → Prop := fun x H Q => Q (.bl (!decide (x = .non))) H
theorem und_isN {K : PySem.W.Frag} : UnD K rIsN fIsN := fun Z H d1 d x Q c1 h fr => by
  rw [(rep_non c1).1] at h
  cases h
  exact fr.here conP_bl
theorem und_notN {K : PySem.W.Frag} : UnD K rNotN fNotN := fun Z H d1 d x Q c1 h fr => by
  rw [(rep_non c1).2] at h
  cases h
  exact fr.here conP_bl
variable {j : Nat} {pos' : Pos}
theorem DE.isN (ha : DE X I W q a m) : DE X I W q (.Compare a [.Is] [.Constant .none j pos'] pos) (e1 fIsN m) := PE.imp (pe_cmp (pc_isN ha)) fun σ H Q h => one_op und_isN h
theorem DT.isN (ha : DE X I W q a m) : DT X I W q (.Compare a [.Is] [.Constant .none j pos'] pos) (toB (e1 fIsN m)) := PT.imp (pt_cmp (pc_isN ha)) fun σ H Q h => one_op und_isN h.ofE
theorem DE.notN (ha : DE X I W q a m) : DE X I W q (.Compare a [.IsNot] [.Constant .none j pos'] pos) (e1 fNotN m) := PE.imp (pe_cmp (pc_notN ha)) fun σ H Q h => one_op und_notN h
theorem DT.notN (ha : DE X I W q a m) : DT X I W q (.Compare a [.IsNot] [.Constant .none j pos'] pos) (toB (e1 fNotN m)) := PT.imp (pt_cmp (pc_notN ha)) fun σ H Q h => one_op und_notN h.ofE
end
end MV

set_option Elab.async false
set_option linter.all false
set_option maxRecDepth 100000
set_option maxHeartbeats 4000000
/-! MV14: operations and built-in functions over data. -/
namespace MV
open PySem L2 PyProof.Rows

theorem rep_str {m : Bool} {K : PySem.W.Frag} {Z F : AS} {H : Hp} {i : Str} {v : V} (h : rep m K Z H (.imm (.str i)) v F) : v = .str i := by
  have := rep_imm h; simp only [conP] at this; exact this
theorem rep_bl {m : Bool} {K : PySem.W.Frag} {Z F : AS} {H : Hp} {i : Bool} {v : V} (h : rep m K Z H (.imm (.bl i)) v F) : v = .bl i := by
  have := rep_imm h; simp only [conP] at this; exact this
theorem rep_tup {m : Bool} {K : PySem.W.Frag} {Z F : AS} {H : Hp} {ps : List P} {v : V} (h : rep m K Z H (.imm (.tup ps)) v F) : ∃ a vs, v = .ref a ∧ SqT K H a vs ∧ conPs K Z H ps vs := by
  have := rep_imm h; simp only [conP] at this; exact this
theorem conP_str {K : PySem.W.Frag} {Z : AS} {H : Hp} {k : Str} : conP K Z H (.str k) (.str k) := by simp only [conP]
theorem conP_int {K : PySem.W.Frag} {Z : AS} {H : Hp} {k : Int} : conP K Z H (.int k) (.int k) := by simp only [conP]
theorem conP_tup {K : PySem.W.Frag} {Z : AS} {H : Hp} {ps : List P} {a : Addr} {vs : List V} (h : SqT K H a vs) (c : conPs K Z H ps vs) : conP K Z H (.tup ps) (.ref a) := by simp only [conP]; exact ⟨a, vs, rfl, h, c⟩
theorem conPs.append {K : PySem.W.Frag} {Z : AS} {H : Hp} : ∀ {ps qs : List P} {xs ys : List V}, conPs K Z H ps xs → conPs K Z H qs ys → conPs K Z H (ps ++ qs) (xs ++ ys)
  | [], qs, xs, ys, h1, h2 => by simp only [conPs] at h1; subst h1; exact h2
  | p :: ps, qs, xs, ys, h1, h2 => by
    simp only [conPs] at h1
    obtain ⟨v, r, e, c, c'⟩ := h1
    subst e
    simp only [List.cons_append, conPs]
    exact ⟨v, r ++ ys, rfl, c, conPs.append c' h2⟩
theorem conPs.nil {K : PySem.W.Frag} {Z : AS} {H : Hp} {vs : List V} (h : conPs K Z H [] vs) : vs = [] := by simp only [conPs] at h; exact h
theorem conPs.nil' {K : PySem.W.Frag} {Z : AS} {H : Hp} {ps : List P} (h : conPs K Z H ps []) : ps = [] := by
  have := h.length
  exact List.eq_nil_of_length_eq_zero this

/-! ### sequences as data -/
def seqL : D → Option (List P)
  | .imm (.lst ps) => some ps
  | .lst ds => allImm ds
  | _ => none
theorem seqL_ok {K : PySem.W.Frag} {Z F : AS} {H : Hp} {d : D} {v : V} {ps : List P} (r : rep false K Z H d v F) (h : seqL d = some ps) : ∃ a vs, v = .ref a ∧ SqL K H a vs ∧ conPs K Z H ps vs := by
  cases d with
  | imm p => cases p with
    | lst qs =>
      simp only [seqL] at h
      cases h
      have := rep_imm r
      simp only [conP] at this
      obtain ⟨a, vs, e, h1, h2⟩ := this
      exact ⟨a, vs, e, h1.sq, h2⟩
    | _ => simp only [seqL] at h; cases h
  | lst ds =>
    simp only [seqL] at h
    simp only [rep] at r
    obtain ⟨a, vs, e, _, h1, h2⟩ := r
    exact ⟨a, vs, e, cell_sq h1, allImm_ok h h2⟩
  | dct _ _ => simp only [seqL] at h; cases h

/-! ### arithmetic -/
def fAdd : D → D → Option D
  | .imm (.int i), .imm (.int j) => some (.imm (.int (i + j)))
  | .imm (.str x), .imm (.str y) => if x.length + y.length ≤ sizeLine then some (.imm (.str (x ++ y))) else none
  | .imm (.tup p), .imm (.tup q) => if p.length + q.length ≤ sizeLine then some (.imm (.tup (p ++ q))) else none
  | _, _ => none
def fIAdd : D → D → Option D
  | .imm (.int i), .imm (.int j) => some (.imm (.int (i + j)))
  | .imm (.str x), .imm (.str y) => if x.length + y.length ≤ sizeLine then some (.imm (.str (x ++ y))) else none
  | _, _ => none
def fSub : D → D → Option D
  | .imm (.int i), .imm (.int j) => some (.imm (.int (i - j)))
  | _, _ => none
def sm64 (i : Int) : Bool := decide (-(2 ^ 64) < i) && decide (i < 2 ^ 64)
/-- a product that may be taken: one factor below 2^64, or both not beyond reason -/
def okMul (i j : Int) : Bool := sm64 i || (sm64 j || decide (i.natAbs.log2 + j.natAbs.log2 < 1000000))
theorem sm64_ok {i : Int} (h : sm64 i = true) : -(2 ^ 64) < i ∧ i < 2 ^ 64 := ⟨of_decide_eq_true (and_l h), of_decide_eq_true (and_r h)⟩
theorem okMul_ok {i j : Int} (h : okMul i j = true) : CMul i j ∨ CMulW i j := by
  rcases Bool.or_eq_true_iff.mp h with h | h
  · exact .inl (.inl (sm64_ok h))
  · rcases Bool.or_eq_true_iff.mp h with h | h
    · exact .inl (.inr (sm64_ok h))
    · exact .inr (of_decide_eq_true (p := i.natAbs.log2 + j.natAbs.log2 < 1000000) h)
def fMul : D → D → Option D
  | .imm (.int i), .imm (.int j) => if okMul i j = true then some (.imm (.int (i * j))) else none
  | _, _ => none
def okDiv (j : Int) : Bool := decide (0 < j) && decide (j.natAbs.log2 < 9000)
def fFdiv : D → D → Option D
  | .imm (.int i), .imm (.int j) => if okDiv j = true then some (.imm (.int (i / j))) else none
  | _, _ => none
def fMod : D → D → Option D
  | .imm (.int i), .imm (.int j) => if 0 < j then some (.imm (.int (i % j))) else none
  | _, _ => none
def okPow (i j : Int) : Bool := decide (0 ≤ j) && decide (j ≤ 1000000) && decide (i.natAbs < 2 ^ 64)
def fPow : D → D → Option D
  | .imm (.int i), .imm (.int j) => if okPow i j = true then some (.imm (.int (i ^ j.toNat))) else none
  | _, _ => none
def fNeg : D → Option D
  | .imm (.int i) => some (.imm (.int (-i)))
  | _ => none
def rStrAdd : R2 := fun x y H Q => ∃ i j, x = .str i ∧ y = .str j ∧ i.length + j.length ≤ sizeLine ∧ Q (.str (i ++ j)) H
def rAdd3 (K : PySem.W.Frag) : R2 := fun x y H Q => (rI0 (fun i j => .int (i + j)) x y H Q ∨ rStrAdd x y H Q) ∨ rCatA K x y H Q
theorem op_add3 {X : Cx} : OpR X (binaryOp .Add) (rAdd3 X.K) := (op_add.or op_add_str).or op_catA
def rIAdd2 : R2 := fun x y H Q => rI0 (fun i j => .int (i + j)) x y H Q ∨ rStrAdd x y H Q
theorem iop_add2 {X : Cx} : OpR X (inplaceOp .Add) rIAdd2 := iop_add.or iop_add_str
section
variable {K : PySem.W.Frag}
theorem opd_add : OpD K (rAdd3 K) fAdd := fun Z H d1 d2 d x y Q c1 c2 h fr => by
  unfold fAdd at h
  split at h
  · cases h
    exact .inl (.inl ⟨_, _, rep_int c1, rep_int c2, fr.here conP_int⟩)
  · split at h
    · rename_i hz
      cases h
      exact .inl (.inr ⟨_, _, rep_str c1, rep_str c2, hz, fr.here conP_str⟩)
    · cases h
  · split at h
    · rename_i p q hz
      cases h
      obtain ⟨a, xs, e1, s1, k1⟩ := rep_tup c1
      obtain ⟨b, ys, e2, s2, k2⟩ := rep_tup c2
      refine .inr ⟨a, b, xs, ys, e1, e2, s1, s2, by rw [← k1.length, ← k2.length]; exact hz, fun e => ?_, fun _ e => ?_, fun _ _ pp hp => fr.tup (k1.append k2) hp⟩
      · subst e
        exact fr.here (conP_tup s2 (by rw [k1.nil']; exact k2))
      · subst e
        exact fr.here (conP_tup s1 (by rw [k2.nil', List.append_nil]; exact k1))
    · cases h
  · cases h
theorem opd_iadd : OpD K rIAdd2 fIAdd := fun Z H d1 d2 d x y Q c1 c2 h fr => by
  unfold fIAdd at h
  split at h
  · cases h
    exact .inl ⟨_, _, rep_int c1, rep_int c2, fr.here conP_int⟩
  · split at h
    · rename_i hz
      cases h
      exact .inr ⟨_, _, rep_str c1, rep_str c2, hz, fr.here conP_str⟩
    · cases h
  · cases h
theorem opd_sub : OpD K (rI0 fun i j => .int (i - j)) fSub := fun Z H d1 d2 d x y Q c1 c2 h fr => by
  unfold fSub at h
  split at h
  · cases h
    exact ⟨_, _, rep_int c1, rep_int c2, fr.here conP_int⟩
  · cases h
theorem opd_mul : OpD K (rI (fun i j => CMul i j ∨ CMulW i j) fun i j => .int (i * j)) fMul := fun Z H d1 d2 d x y Q c1 c2 h fr => by
  unfold fMul at h
  split at h
  · split at h
    · rename_i hc
      cases h
      exact ⟨_, _, rep_int c1, rep_int c2, okMul_ok hc, fr.here conP_int⟩
    · cases h
  · cases h
theorem iop_mul2 {X : Cx} : OpR X (inplaceOp .Mult) (rI (fun i j => CMul i j ∨ CMulW i j) fun i j => .int (i * j)) := opI fun _ _ _ _ _ _ _ hc q => imul_int q (hc.elim CMul.ok CMulW.ok)
theorem op_mul2 {X : Cx} : OpR X (binaryOp .Mult) (rI (fun i j => CMul i j ∨ CMulW i j) fun i j => .int (i * j)) := opI fun _ _ _ _ _ _ _ hc q => mul_int q (hc.elim CMul.ok CMulW.ok)
theorem opd_fdiv : OpD K (rI CDivW fun i j => .int (i / j)) fFdiv := fun Z H d1 d2 d x y Q c1 c2 h fr => by
  unfold fFdiv at h
  split at h
  · split at h
    · rename_i hc
      cases h
      exact ⟨_, _, rep_int c1, rep_int c2, ⟨of_decide_eq_true (and_l hc), of_decide_eq_true (and_r hc)⟩, fr.here conP_int⟩
    · cases h
  · cases h
theorem opd_mod : OpD K (rI (fun _ j => 0 < j) fun i j => .int (i % j)) fMod := fun Z H d1 d2 d x y Q c1 c2 h fr => by
  unfold fMod at h
  split at h
  · split at h
    · rename_i hc
      cases h
      exact ⟨_, _, rep_int c1, rep_int c2, hc, fr.here conP_int⟩
    · cases h
  · cases h
theorem opd_pow : OpD K (rI CPow fun i j => .int (i ^ j.toNat)) fPow := fun Z H d1 d2 d x y Q c1 c2 h fr => by
  unfold fPow at h
  split at h
  · split at h
    · rename_i hc
      cases h
      exact ⟨_, _, rep_int c1, rep_int c2, ⟨of_decide_eq_true (and_l (and_l hc)), of_decide_eq_true (and_r (and_l hc)), of_decide_eq_true (and_r hc)⟩, fr.here conP_int⟩
    · cases h
  · cases h
theorem und_neg : UnD K (rU fun i => .int (-i)) fNeg := fun Z H d1 d x Q c1 h fr => by
  unfold fNeg at h
  split at h
  · cases h
    exact ⟨_, rep_int c1, fr.here conP_int⟩
  · cases h

/-! ### order -/
def fLt : D → D → Option D
  | .imm (.int i), .imm (.int j) => some (.imm (.bl (decide (i < j))))
  | .imm (.str i), .imm (.str j) => some (.imm (.bl (decide (i.cps.toList < j.cps.toList))))
  | _, _ => none
def fLe : D → D → Option D
  | .imm (.int i), .imm (.int j) => some (.imm (.bl (decide (i ≤ j))))
  | .imm (.str i), .imm (.str j) => some (.imm (.bl (!decide (j.cps.toList < i.cps.toList))))
  | _, _ => none
def fGt : D → D → Option D
  | .imm (.int i), .imm (.int j) => some (.imm (.bl (decide (j < i))))
  | .imm (.str i), .imm (.str j) => some (.imm (.bl (decide (j.cps.toList < i.cps.toList))))
  | _, _ => none
def fGe : D → D → Option D
  | .imm (.int i), .imm (.int j) => some (.imm (.bl (decide (j ≤ i))))
  | .imm (.str i), .imm (.str j) => some (.imm (.bl (!decide (i.cps.toList < j.cps.toList))))
  | _, _ => none
def rOrd (f : Int → Int → Bool) (g : Str → Str → Bool) : R2 := fun x y H Q => rI0 (fun i j => .bl (f i j)) x y H Q ∨ ∃ i j, x = .str i ∧ y = .str j ∧ Q (.bl (g i j)) H
theorem op_lt2 {X : Cx} : OpR X (compareOp .Lt) (rOrd (fun i j => decide (i < j)) fun i j => decide (i.cps.toList < j.cps.toList)) := op_lt.or op_lt_str
theorem op_le2 {X : Cx} : OpR X (compareOp .LtE) (rOrd (fun i j => decide (i ≤ j)) fun i j => !decide (j.cps.toList < i.cps.toList)) := op_le.or op_le_str
theorem op_gt2 {X : Cx} : OpR X (compareOp .Gt) (rOrd (fun i j => decide (j < i)) fun i j => decide (j.cps.toList < i.cps.toList)) := op_gt.or op_gt_str
theorem op_ge2 {X : Cx} : OpR X (compareOp .GtE) (rOrd (fun i j => decide (j ≤ i)) fun i j => !decide (i.cps.toList < j.cps.toList)) := op_ge.or op_ge_str
theorem opd_lt : OpD K (rOrd (fun i j => decide (i < j)) fun i j => decide (i.cps.toList < j.cps.toList)) fLt := fun Z H d1 d2 d x y Q c1 c2 h fr => by
  unfold fLt at h
  split at h
  · cases h; exact .inl ⟨_, _, rep_int c1, rep_int c2, fr.here conP_bl⟩
  · cases h; exact .inr ⟨_, _, rep_str c1, rep_str c2, fr.here conP_bl⟩
  · cases h
theorem opd_le : OpD K (rOrd (fun i j => decide (i ≤ j)) fun i j => !decide (j.cps.toList < i.cps.toList)) fLe := fun Z H d1 d2 d x y Q c1 c2 h fr => by
  unfold fLe at h
  split at h
  · cases h; exact .inl ⟨_, _, rep_int c1, rep_int c2, fr.here conP_bl⟩
  · cases h; exact .inr ⟨_, _, rep_str c1, rep_str c2, fr.here conP_bl⟩
  · cases h
theorem opd_gt : OpD K (rOrd (fun i j => decide (j < i)) fun i j => decide (j.cps.toList < i.cps.toList)) fGt := fun Z H d1 d2 d x y Q c1 c2 h fr => by
  unfold fGt at h
  split at h
  · cases h; exact .inl ⟨_, _, rep_int c1, rep_int c2, fr.here conP_bl⟩
  · cases h; exact .inr ⟨_, _, rep_str c1, rep_str c2, fr.here conP_bl⟩
  · cases h
theorem opd_ge : OpD K (rOrd (fun i j => decide (j ≤ i)) fun i j => !decide (i.cps.toList < j.cps.toList)) fGe := fun Z H d1 d2 d x y Q c1 c2 h fr => by
  unfold fGe at h
  split at h
  · cases h; exact .inl ⟨_, _, rep_int c1, rep_int c2, fr.here conP_bl⟩
  · cases h; exact .inr ⟨_, _, rep_str c1, rep_str c2, fr.here conP_bl⟩
  · cases h

/-! ### equality -/
mutual
def toPy : P → PyData
  | .non => .none
  | .bl b => .bool b
  | .int i => .int i
  | .str x => .str x
  | .tup ps => .tuple (toPys ps)
  | .lst ps => .list (toPys ps)
  | .dct _ _ => .dict []
def toPys : List P → List PyData
  | [] => []
  | p :: ps => toPy p :: toPys ps
end
mutual
theorem conP.dp {K : PySem.W.Frag} {Z : AS} {H : Hp} : ∀ {p : P} {v : V}, conP K Z H p v → (toPy p).canLay0 = true → Dp K H v (toPy p)
  | .non, v, h, _ => by simp only [conP] at h; subst h; simp only [toPy]; exact .non
  | .bl b, v, h, _ => by simp only [conP] at h; subst h; simp only [toPy]; exact .bl b
  | .int b, v, h, _ => by simp only [conP] at h; subst h; simp only [toPy]; exact .int b
  | .str b, v, h, _ => by simp only [conP] at h; subst h; simp only [toPy]; exact .str b
  | .tup ps, v, h, c => by
    simp only [conP] at h
    obtain ⟨a, vs, e, h1, h2⟩ := h
    subst e
    simp only [toPy] at c ⊢
    exact .tup h1 (conPs.dp h2 (by simpa [PyData.canLay0] using c))
  | .lst ps, v, h, c => by
    simp only [conP] at h
    obtain ⟨a, vs, e, h1, h2⟩ := h
    subst e
    simp only [toPy] at c ⊢
    exact .lst h1.sq (conPs.dp h2 (by simpa [PyData.canLay0] using c))
  | .dct ks ps, v, h, c => by simp [toPy, PyData.canLay0] at c
theorem conPs.dp {K : PySem.W.Frag} {Z : AS} {H : Hp} : ∀ {ps : List P} {vs : List V}, conPs K Z H ps vs → PyData.canLayAll0 (toPys ps) = true → DpAll K H vs (toPys ps)
  | [], vs, h, _ => by simp only [conPs] at h; subst h; simp only [toPys]; exact .nil
  | p :: ps, vs, h, c => by
    simp only [conPs] at h
    obtain ⟨v, r, e, h1, h2⟩ := h
    subst e
    simp only [toPys] at c ⊢
    have c : (toPy p).canLay0 = true ∧ PyData.canLayAll0 (toPys ps) = true := by simpa [PyData.canLayAll0] using c
    exact .cons (conP.dp h1 c.1) (conPs.dp h2 c.2)
end
mutual
theorem rep.dp {m : Bool} {K : PySem.W.Frag} {Z F : AS} {H : Hp} : ∀ {d : D} {v : V}, rep m K Z H d v F → (toPy (frz d)).canLay0 = true → Dp K H v (toPy (frz d))
  | .imm p, v, h, c => by
    simp only [rep, frz] at h c ⊢
    exact h.dp c
  | .lst ds, v, h, c => by
    simp only [rep] at h
    obtain ⟨a, vs, e, _, h1, h2⟩ := h
    subst e
    simp only [frz, toPy] at c ⊢
    exact .lst (cell_sq h1) (reps.dp h2 (by simpa [PyData.canLay0] using c))
  | .dct ks ps, v, h, c => by simp [frz, toPy, PyData.canLay0] at c
theorem reps.dp {m : Bool} {K : PySem.W.Frag} {Z F : AS} {H : Hp} : ∀ {ds : List D} {vs : List V}, reps m K Z H ds vs F → PyData.canLayAll0 (toPys (frzs ds)) = true → DpAll K H vs (toPys (frzs ds))
  | [], vs, h, _ => by simp only [reps] at h; subst h; simp only [frzs, toPys]; exact .nil
  | d :: ds, vs, h, c => by
    simp only [reps] at h
    obtain ⟨v, r, F1, F2, e, _, _, _, h1, h2⟩ := h
    subst e
    simp only [frzs, toPys] at c ⊢
    have c : (toPy (frz d)).canLay0 = true ∧ PyData.canLayAll0 (toPys (frzs ds)) = true := by simpa [PyData.canLayAll0] using c
    exact .cons (rep.dp h1 c.1) (reps.dp h2 c.2)
end
/-- == of two scalars -/
def eqS : P → P → Option Bool
  | .int i, .int j => some (decide (i = j))
  | .str i, .str j => some (decide (i = j))
  | .bl i, .bl j => some (decide (i = j))
  | .non, .non => some true
  | .non, .int _ => some false | .int _, .non => some false
  | .non, .bl _ => some false | .bl _, .non => some false
  | .non, .str _ => some false | .str _, .non => some false
  | .int _, .str _ => some false | .str _, .int _ => some false
  | .bl _, .str _ => some false | .str _, .bl _ => some false
  | _, _ => none
def eqD (d e : D) : Option Bool := if SeqAt.shaped (toPy (frz d)) = true ∧ SeqAt.shaped (toPy (frz e)) = true then some (PyData.eqv (toPy (frz d)) (toPy (frz e))) else none
def eqB (d e : D) : Option Bool := match d, e with
  | .imm p, .imm q => (match eqS p q with
    | some b => some b
    | none => eqD d e)
  | d, e => eqD d e
def fEq (d e : D) : Option D := (eqB d e).map fun b => .imm (.bl b)
def fNe (d e : D) : Option D := (eqB d e).map fun b => .imm (.bl (!b))
theorem eqS_ok {K : PySem.W.Frag} {Z : AS} {H : Hp} {p q : P} {x y : V} {b : Bool} (h1 : conP K Z H p x) (h2 : conP K Z H q y) (h : eqS p q = some b) : scal x y = true ∧ decide (x = y) = b := by
  unfold eqS at h
  split at h <;> first
    | (cases h; simp only [conP] at h1 h2; subst h1 h2; simp [scal])
    | cases h
theorem eqB_ok {Z F G : AS} {H : Hp} {d e : D} {x y : V} {b : Bool} (h1 : rep false K Z H d x F) (h2 : rep false K Z H e y G) (h : eqB d e = some b) :
    (scal x y = true ∧ decide (x = y) = b) ∨ (∃ d' e', Dp K H x d' ∧ Dp K H y e' ∧ SeqAt.shaped d' = true ∧ SeqAt.shaped e' = true ∧ PyData.eqv d' e' = b) := by
  have big : eqD d e = some b → ∃ d' e', Dp K H x d' ∧ Dp K H y e' ∧ SeqAt.shaped d' = true ∧ SeqAt.shaped e' = true ∧ PyData.eqv d' e' = b := fun h => by
    unfold eqD at h
    split at h
    · rename_i hc
      cases h
      exact ⟨_, _, h1.dp (SeqAt.canLay_of_shaped hc.1), h2.dp (SeqAt.canLay_of_shaped hc.2), hc.1, hc.2, rfl⟩
    · cases h
  unfold eqB at h
  split at h
  · split at h
    · rename_i hs
      cases h
      exact .inl (eqS_ok (rep_imm h1) (rep_imm h2) hs)
    · exact .inr (big h)
  · exact .inr (big h)
def rEq2 (K : PySem.W.Frag) : R2 := fun x y H Q => rEq x y H Q ∨ rEqD K x y H Q
def rNe2 (K : PySem.W.Frag) : R2 := fun x y H Q => rNe x y H Q ∨ rNeD K x y H Q
theorem opd_eq : OpD K (rEq2 K) fEq := fun Z H d1 d2 d x y Q c1 c2 h fr => by
  obtain ⟨b, hb, e⟩ := Option.map_eq_some_iff.mp h
  subst e
  rcases eqB_ok c1 c2 hb with ⟨h1, h2⟩ | ⟨d', e', h1, h2, h3, h4, h5⟩
  · subst h2; exact .inl ⟨h1, fr.here conP_bl⟩
  · subst h5; exact .inr ⟨d', e', h1, h2, h3, h4, fr.here conP_bl⟩
theorem opd_ne : OpD K (rNe2 K) fNe := fun Z H d1 d2 d x y Q c1 c2 h fr => by
  obtain ⟨b, hb, e⟩ := Option.map_eq_some_iff.mp h
  subst e
  rcases eqB_ok c1 c2 hb with ⟨h1, h2⟩ | ⟨d', e', h1, h2, h3, h4, h5⟩
  · subst h2; exact .inl ⟨h1, fr.here conP_bl⟩
  · subst h5; exact .inr ⟨d', e', h1, h2, h3, h4, fr.here conP_bl⟩
end
theorem op_eq2 {X : Cx} (hu : X.A.units + 64 < cLine) : OpR X (compareOp .Eq) (rEq2 X.K) := op_eq.or (op_eqD hu)
theorem op_ne2 {X : Cx} (hu : X.A.units + 64 < cLine) : OpR X (compareOp .NotEq) (rNe2 X.K) := op_ne.or (op_neD hu)
end MV

set_option Elab.async false
set_option linter.all false
set_option maxRecDepth 100000
set_option maxHeartbeats 4000000
/-! MV15: items of anything; built-in functions; isinstance. -/
namespace MV
open PySem L2 PyProof.Rows

/-! ### a[k] -/
def rDG : R2 := fun x y H Q => ∃ a v, x = .ref a ∧ DGet H a y (some v) ∧ Q v H
theorem ix_dict {X : Cx} (hu : X.A.units + 1 < cLine) : IxR X rDG := by
  intro value slice pins s σ H x y v u Q I rx ry h hs
  obtain ⟨a, r, rfl, g, q⟩ := h
  obtain rfl : v = Value.ref a := rx
  exact tail_any (dict_typeIs I g) slot_dict_getitem.lookup (d_getItem hu I g ry fun w' s3 I3 rw' => ⟨r, H, I3, rw', q⟩) hs
def rGet (K : PySem.W.Frag) : R2 := fun x y H Q => rIx K x y H Q ∨ rDG x y H Q
theorem ix_get {X : Cx} (hu : X.A.units + 1 < cLine) : IxR X (rGet X.K) := ix_seq.or (ix_dict hu)
def item : D → P → Option D
  | .imm (.tup ps), .int i => (atI ps i).map .imm
  | .imm (.lst ps), .int i => (atI ps i).map .imm
  | .lst ds, .int i => atI ds i
  | .imm (.str z), .int i => if z.length ≤ sizeLine then (atI z.cps.toList i).map fun c => .imm (.str ⟨#[c]⟩) else none
  | d, k => if (keyOf k).isSome = true then itemD d k else none
theorem atI_conPs {K : PySem.W.Frag} {Z : AS} {H : Hp} {ps : List P} {vs : List V} {i : Int} {p : P} (c : conPs K Z H ps vs) (h : atI ps i = some p) : ∃ v, atI vs i = some v ∧ conP K Z H p v := by
  unfold atI at h ⊢
  rw [c.length] at h
  obtain ⟨j, hj, h⟩ := Option.bind_eq_some_iff.mp h
  have get : ∀ {ps : List P} {vs : List V} {j : Nat} {p : P}, conPs K Z H ps vs → ps[j]? = some p → ∃ v, vs[j]? = some v ∧ conP K Z H p v := fun {ps} => by
    induction ps with
    | nil => intro vs j p c h; simp at h
    | cons q ps ih =>
      intro vs j p c h
      simp only [conPs] at c
      obtain ⟨v, r, e, c1, c2⟩ := c
      subst e
      cases j with
      | zero => simp at h; subst h; exact ⟨v, by simp, c1⟩
      | succ j => simpa using ih c2 (by simpa using h)
  obtain ⟨v, hv, cv⟩ := get c h
  exact ⟨v, by rw [hj]; exact hv, cv⟩
theorem atI_reps {m : Bool} {K : PySem.W.Frag} {Z F : AS} {H : Hp} {ds : List D} {vs : List V} {i : Int} {d : D} (c : reps m K Z H ds vs F) (h : atI ds i = some d) : ∃ v F', atI vs i = some v ∧ rep m K Z H d v F' ∧ ∀ b, F' b → F b := by
  unfold atI at h ⊢
  rw [c.length] at h
  obtain ⟨j, hj, h⟩ := Option.bind_eq_some_iff.mp h
  have get : ∀ {ds : List D} {vs : List V} {j : Nat} {d : D} {F : AS}, reps m K Z H ds vs F → ds[j]? = some d → ∃ v F', vs[j]? = some v ∧ rep m K Z H d v F' ∧ ∀ b, F' b → F b := fun {ds} => by
    induction ds with
    | nil => intro vs j p F c h; simp at h
    | cons q ds ih =>
      intro vs j p F c h
      simp only [reps] at c
      obtain ⟨v, r, F1, F2, e, s1, s2, _, c1, c2⟩ := c
      subst e
      cases j with
      | zero => simp at h; subst h; exact ⟨v, F1, by simp, c1, s1⟩
      | succ j =>
        obtain ⟨v', F', e1, e2, e3⟩ := ih c2 (by simpa using h)
        exact ⟨v', F', by simpa using e1, e2, fun b z => s2 b (e3 b z)⟩
  obtain ⟨v, F', hv, cv, cs⟩ := get c h
  exact ⟨v, F', by rw [hj]; exact hv, cv, cs⟩
theorem item_ok {K : PySem.W.Frag} {Z F : AS} {H : Hp} {d d' : D} {k : P} {x y : V} (r : rep false K Z H d x F) (ck : conP K Z H k y) (h : item d k = some d') : ∃ v, rep false K Z H d' v F ∧ ∀ Q : VK, Q v H → rGet K x y H Q := by
  have dic : (if (keyOf k).isSome = true then itemD d k else none) = some d' → ∃ v, rep false K Z H d' v F ∧ ∀ Q : VK, Q v H → rGet K x y H Q := fun h => by
    split at h
    case isFalse => cases h
    rename_i hk
    obtain ⟨k0, hk0⟩ := Option.isSome_iff_exists.mp hk
    have ek := keyOf_ok hk0
    subst ek
    have ck := conP_key ck
    subst ck
    obtain ⟨a, v, e1, e2, e3⟩ := item_get r h
    exact ⟨v, e3, fun Q q => .inr ⟨a, v, e1, e2, q⟩⟩
  have int : ∀ {i : Int}, k = .int i → y = .int i := fun {i} e => by subst e; simp only [conP] at ck; exact ck
  unfold item at h
  split at h
  · obtain ⟨p, hp, e⟩ := Option.map_eq_some_iff.mp h
    subst e
    obtain ⟨a, vs, e1, e2, e3⟩ := rep_tup r
    obtain ⟨v, hv, cv⟩ := atI_conPs e3 hp
    exact ⟨v, by simp only [rep]; exact cv, fun Q q => .inl (.inr (.inl ⟨a, vs, _, v, e1, int rfl, e2, hv, q⟩))⟩
  · obtain ⟨p, hp, e⟩ := Option.map_eq_some_iff.mp h
    subst e
    have r' := rep_imm r
    simp only [conP] at r'
    obtain ⟨a, vs, e1, e2, e3⟩ := r'
    obtain ⟨v, hv, cv⟩ := atI_conPs e3 hp
    exact ⟨v, by simp only [rep]; exact cv, fun Q q => .inl (.inl ⟨a, vs, _, v, e1, int rfl, e2.sq, hv, q⟩)⟩
  · simp only [rep] at r
    obtain ⟨a, vs, e, _, h1, h2⟩ := r
    obtain ⟨v, F', e1, e2, e3⟩ := atI_reps h2 h
    exact ⟨v, e2.stay Ex.rfl.staysF (fun _ z => z) fun b z => (e3 b z).1, fun Q q => .inl (.inl ⟨a, vs, _, v, e, int rfl, cell_sq h1, e1, q⟩)⟩
  · split at h
    case isFalse => cases h
    rename_i hz
    obtain ⟨c, hc, e⟩ := Option.map_eq_some_iff.mp h
    subst e
    exact ⟨.str ⟨#[c]⟩, by simp only [rep, conP], fun Q q => .inl (.inr (.inr ⟨_, _, c, rep_str r, int rfl, hz, hc, q⟩))⟩
  · exact dic h
def eGt (qk : Bool) (ma mk : ME) : ME := fun ρ => (ma ρ).bind fun va ρ1 => (mk ρ1).bind fun vk ρ2 => if okq va qk = true then (match vk with
    | .own (.imm k) => (match (item va.d k).bind (pick va) with
        | some v => .ok v ρ2
        | none => .stuck)
    | _ => .stuck) else .stuck
def eGtN (i : Nat) (mk : ME) : ME := fun ρ => match (ρ[i]?).bind (rdSlot i) with
  | none => .stuck
  | some _ => (mk ρ).bind fun vk ρ2 => match vk with
    | .own (.imm k) => (match (ρ2[i]?).bind (rdSlot i) with
      | some va => (match (item va.d k).bind (pick va) with
        | some v => .ok v ρ2
        | none => .stuck)
      | none => .stuck)
    | _ => .stuck
section
variable {X : Cx} {I : Option (Addr × Value × Option Addr)} {W : WX} {q qa qk : Bool} {pos : Pos} {a b e : Expr} {es : List Expr} {ma mk m : ME} {ms : MA} {pm : Par} {σ : L2.St} {H : Hp}
theorem DE.get (hu : X.A.units + 1 < cLine) (ha : DE X I W qa a ma) (hb : DE X I W qk b mk) (hs : PlainIx b := by exact fun _ _ => rfl) : DE X I W (qa && qk) (.Subscript a b pos) (eGt qk ma mk) := by
  refine PE.imp (pe_ix (ix_get hu) ha hb hs) fun σ H Q h => ?_
  refine tE.bind h fun Z S F ρ va ρ1 x H1 Z1 F1 G1 ok1 h1 => ?_
  refine ⟨ρ1, Z1, S, F1, ok1.sta, ?_⟩
  revert h1
  cases mk ρ1 with
  | stuck => exact fun h1 => h1
  | exc z ρ2 => exact fun h1 c dd H' Z' F' y => h1 c dd H' Z' F' (ok1.t.afterX y)
  | ok vk ρ2 =>
    intro h1 y H2 Z2 F2 G2 ok2
    rw [R.bind_ok] at h1
    split at h1
    case isFalse => exact h1.elim
    rename_i hq
    have rv := ok1.val.later ok1.sta ok2 hq
    split at h1
    case h_2 => exact h1.elim
    rename_i k
    split at h1
    case h_2 => exact h1.elim
    rename_i val hv
    obtain ⟨d', hi, hp⟩ := Option.bind_eq_some_iff.mp hv
    have rv2 : rep false X.K Z2 H2 va.d x (valF F2 S va) := by
      cases va with
      | own d => exact rv
      | bor d i =>
        obtain ⟨e1, e2⟩ := ok2.qt hq
        have := ok1.val.1
        rw [← e2] at this
        exact this.stay e1.staysF ok2.go.zm fun _ z => z
    obtain ⟨v, hr, hg⟩ := item_ok rv2 (rep_imm ok2.val.1) hi
    refine hg Q (h1 v H2 Z2 F2 (fun _ => False) ⟨ok2.sta, pick_ok (pm := ⟨X.K, X.mg, I⟩) (G := G2) (x := x) hp hr, ((ok1.go.less fun a t => .inl t).trans ok2.go).less fun a t => t.elim .inl False.elim, fun z => ?_, ok1.kp.trans ok2.kp⟩)
    exact ⟨(ok1.qt (and_l z)).1.trans (ok2.qt (and_r z)).1, (ok2.qt (and_r z)).2.trans (ok1.qt (and_l z)).2⟩
theorem DE.getN (i : Nat) {x : Str} {p : Pos} (hu : X.A.units + 1 < cLine) (hb : DE X I W q b mk) (hs : PlainIx b := by exact fun _ _ => rfl) (hN : X.N[i]? = some x := by rfl) (hv : Vis X.env.scope x := by first | exact Or.inl rfl | exact Or.inr (Or.inl rfl) | exact Or.inr (Or.inr rfl))
    (hd : (x == ("__debug__" : Str)) = false := by decide) (hcd : (x == ("__classdict__" : Str)) = false := by decide) : DE X I W q (.Subscript (.Name x p) b pos) (eGtN i mk) := by
  refine PE.imp (pe_ix (ix_get hu) (pe_var hN hv hd hcd) hb hs) fun σ H Q h => ?_
  obtain ⟨ρ, Z, S, F, s, h⟩ := h
  unfold eGtN at h
  split at h
  · exact h.elim
  · rename_i va0 hv0
    obtain ⟨sl0, hs0, hr0⟩ := Option.bind_eq_some_iff.mp hv0
    obtain ⟨v, e, _⟩ := s.rd (q := true) hs0 hr0
    refine ⟨v, e, ρ, Z, S, F, s, ?_⟩
    revert h
    cases mk ρ with
    | stuck => exact fun h => h
    | exc z ρ2 => exact fun h => h
    | ok vk ρ2 =>
      intro h y H2 Z2 F2 G2 ok2
      rw [R.bind_ok] at h
      split at h
      case h_2 => exact h.elim
      rename_i k
      split at h
      case h_2 => exact h.elim
      rename_i va hva
      split at h
      case h_2 => exact h.elim
      rename_i val hval
      obtain ⟨sl, hs, hr⟩ := Option.bind_eq_some_iff.mp hva
      obtain ⟨v2, e2, okv⟩ := ok2.sta.rd (q := true) hs hr
      rw [e] at e2
      cases e2
      obtain ⟨d', hi, hp⟩ := Option.bind_eq_some_iff.mp hval
      have rv2 : rep false X.K Z2 H2 va.d v (valF F2 S va) := by
        cases va with
        | own d => exact okv.val.view
        | bor d i => exact okv.val.1
      obtain ⟨w, hw, hg⟩ := item_ok rv2 (rep_imm ok2.val.1) hi
      exact hg Q (h w H2 Z2 F2 (fun _ => False) ⟨ok2.sta, pick_ok (pm := ⟨X.K, X.mg, I⟩) (G := G2) (x := v) hp hw, ok2.go.less fun a t => t.elim .inl False.elim, ok2.qt, ok2.kp⟩)

/-! ### built-in functions -/
def cAbs : List D → Option D
  | [.imm (.int i)] => some (.imm (.int (if i < 0 then -i else i)))
  | _ => none
def cMax2 : List D → Option D
  | [.imm (.int i), .imm (.int j)] => some (.imm (.int (if j > i then j else i)))
  | _ => none
def cMin2 : List D → Option D
  | [.imm (.int i), .imm (.int j)] => some (.imm (.int (if j < i then j else i)))
  | _ => none
def cInt : List D → Option D
  | [.imm (.int i)] => some (.imm (.int i))
  | [.imm (.bl b)] => some (.imm (.int (if b then 1 else 0)))
  | _ => none
def lenD : D → Option Nat
  | .imm (.str x) => if x.length ≤ sizeLine then some x.length else none
  | .imm (.tup ps) => some ps.length
  | .imm (.lst ps) => some ps.length
  | .lst ds => some ds.length
  | _ => none
def cLen : List D → Option D
  | [d] => (lenD d).map fun (n : Nat) => .imm (.int (n : Int))
  | _ => none
def cGcd : List D → Option D
  | [.imm (.int a), .imm (.int b)] => some (.imm (.int ((Nat.gcd a.natAbs b.natAbs : Nat) : Int)))
  | _ => none
def okComb (a b : Int) : Bool := decide (0 ≤ a) && decide (0 ≤ b) && decide (a ≤ 18000)
def cComb : List D → Option D
  | [.imm (.int a), .imm (.int b)] => if okComb a b = true then some (.imm (.int (PySem.W.mcComb a b))) else none
  | _ => none
def cList : List D → Option D
  | [.imm (.tup ps)] => some (.lst (ps.map .imm))
  | [d] => (seqL d).map fun ps => .lst (ps.map .imm)
  | _ => none
def cTuple : List D → Option D
  | [.imm (.tup ps)] => some (.imm (.tup ps))
  | [d] => (seqL d).map fun ps => .imm (.tup ps)
  | _ => none
def cStr : List D → Option D
  | [.imm (.int i)] => if i.natAbs.log2 < 1920 then some (.imm (.str (toString i))) else none
  | [.imm (.str x)] => some (.imm (.str x))
  | _ => none
def rComb : List V → Hp → VK → Prop := fun vs H Q => ∃ a b : Int, vs = [.int a, .int b] ∧ 0 ≤ a ∧ 0 ≤ b ∧ a ≤ 18000 ∧ Q (.int (PySem.W.mcComb a b)) H
theorem cr_comb {X : Cx} : CallR X (.builtin "math.comb") rComb := by
  intro pins s σ H vs us Q I r h
  obtain ⟨a, b, rfl, h1, h2, h3, q⟩ := h
  obtain ⟨t, u, rfl⟩ := Vals.int2 r
  exact PySem.W.mc_comb h1 h2 (by omega) (.inr h3) fun _ => ⟨.int _, H, I.tok _, ⟨_, rfl⟩, q⟩
end
theorem reps_imm {m : Bool} {K : PySem.W.Frag} {Z : AS} {H : Hp} : ∀ {ps : List P} {vs : List V}, conPs K Z H ps vs → reps m K Z H (ps.map .imm) vs (fun _ => False)
  | [], vs, h => by simp only [conPs] at h; simp only [List.map_nil, reps]; exact h
  | p :: ps, vs, h => by
    simp only [conPs] at h
    obtain ⟨v, r, e, h1, h2⟩ := h
    simp only [List.map_cons, reps]
    exact ⟨v, r, fun _ => False, fun _ => False, e, fun b z => z, fun b z => z, fun b z => z.elim, by simp only [rep]; exact h1, reps_imm h2⟩
theorem len_view {K : PySem.W.Frag} {Z F : AS} {H : Hp} {d : D} {x : V} {n : Nat} (r : rep false K Z H d x F) (h : lenD d = some n) : LenV K x H n := by
  unfold lenD at h
  split at h
  · split at h
    · rename_i hz
      cases h
      rw [rep_str r]
      exact ⟨hz, rfl⟩
    · cases h
  · cases h
    obtain ⟨a, vs, e, h1, h2⟩ := rep_tup r
    subst e
    exact .inr ⟨vs, h1, h2.length⟩
  · cases h
    have r' := rep_imm r
    simp only [conP] at r'
    obtain ⟨a, vs, e, h1, h2⟩ := r'
    subst e
    exact .inl ⟨vs, h1.sq, h2.length⟩
  · cases h
    simp only [rep] at r
    obtain ⟨a, vs, e, _, h1, h2⟩ := r
    subst e
    exact .inl ⟨vs, cell_sq h1, h2.length⟩
  · cases h
section
variable {K : PySem.W.Frag}
theorem cd_abs : CallD K (fun xs H Q => ∃ i, xs = [.int i] ∧ Q (.int (if i < 0 then -i else i)) H) cAbs := fun Z H ds d vs Q w h fr => by
  unfold cAbs at h
  split at h
  · cases h
    obtain ⟨x, e, r⟩ := vws1 w
    exact ⟨_, by rw [e, rep_int r], fr.here conP_int⟩
  · cases h
theorem cd_max2 : CallD K (fun xs H Q => ∃ i j, xs = [.int i, .int j] ∧ Q (.int (if j > i then j else i)) H) cMax2 := fun Z H ds d vs Q w h fr => by
  unfold cMax2 at h
  split at h
  · cases h
    obtain ⟨x, y, e, r1, r2⟩ := vws2 w
    exact ⟨_, _, by rw [e, rep_int r1, rep_int r2], fr.here conP_int⟩
  · cases h
theorem cd_min2 : CallD K (fun xs H Q => ∃ i j, xs = [.int i, .int j] ∧ Q (.int (if j < i then j else i)) H) cMin2 := fun Z H ds d vs Q w h fr => by
  unfold cMin2 at h
  split at h
  · cases h
    obtain ⟨x, y, e, r1, r2⟩ := vws2 w
    exact ⟨_, _, by rw [e, rep_int r1, rep_int r2], fr.here conP_int⟩
  · cases h
theorem cd_int : CallD K (fun xs H Q => (∃ i, xs = [.int i] ∧ Q (.int i) H) ∨ ∃ k, xs = [.bl k] ∧ Q (.int (if k then 1 else 0)) H) cInt := fun Z H ds d vs Q w h fr => by
  unfold cInt at h
  split at h
  · cases h
    obtain ⟨x, e, r⟩ := vws1 w
    exact .inl ⟨_, by rw [e, rep_int r], fr.here conP_int⟩
  · cases h
    obtain ⟨x, e, r⟩ := vws1 w
    exact .inr ⟨_, by rw [e, rep_bl r], fr.here conP_int⟩
  · cases h
theorem cd_len : CallD K (fun xs H Q => ∃ x n, xs = [x] ∧ LenV K x H n ∧ Q (.int n) H) cLen := fun Z H ds d vs Q w h fr => by
  unfold cLen at h
  split at h
  · obtain ⟨n, hn, e⟩ := Option.map_eq_some_iff.mp h
    subst e
    obtain ⟨x, e, r⟩ := vws1 w
    exact ⟨x, n, e, len_view r hn, fr.here conP_int⟩
  · cases h
theorem cd_gcd : CallD K rGcd cGcd := fun Z H ds d vs Q w h fr => by
  unfold cGcd at h
  split at h
  · cases h
    obtain ⟨x, y, e, r1, r2⟩ := vws2 w
    exact ⟨_, _, by rw [e, rep_int r1, rep_int r2], fr.here conP_int⟩
  · cases h
theorem cd_comb : CallD K rComb cComb := fun Z H ds d vs Q w h fr => by
  unfold cComb at h
  split at h
  · split at h
    · rename_i hc
      cases h
      obtain ⟨x, y, e, r1, r2⟩ := vws2 w
      exact ⟨_, _, by rw [e, rep_int r1, rep_int r2], of_decide_eq_true (and_l (and_l hc)), of_decide_eq_true (and_r (and_l hc)), of_decide_eq_true (and_r hc), fr.here conP_int⟩
    · cases h
  · cases h
theorem cd_list : CallD K (fun xs H Q => ∃ p ys, xs = [.ref p] ∧ (SqL K H p ys ∨ SqT K H p ys) ∧ ∀ l, H l = none → Q (.ref l) (upd H l (.lst ys))) cList := fun Z H ds d vs Q w h fr => by
  unfold cList at h
  split at h
  · cases h
    obtain ⟨x, e, r⟩ := vws1 w
    obtain ⟨a, xs, e1, s1, k1⟩ := rep_tup r
    exact ⟨a, xs, by rw [e, e1], .inr s1, fun l hl => fr.lst (reps_imm k1) (fun _ z => z) hl⟩
  · obtain ⟨ps, hp, e'⟩ := Option.map_eq_some_iff.mp h
    subst e'
    obtain ⟨x, e, r⟩ := vws1 w
    obtain ⟨a, xs, e1, s1, k1⟩ := seqL_ok r hp
    exact ⟨a, xs, by rw [e, e1], .inl s1, fun l hl => fr.lst (reps_imm k1) (fun _ z => z) hl⟩
  · cases h
theorem cd_tuple : CallD K (fun xs H Q => ∃ p ys, xs = [.ref p] ∧ ((SqL K H p ys ∧ ∀ l, H l = none → Q (.ref l) (upd H l (.tup ys))) ∨ (SqT K H p ys ∧ Q (.ref p) H))) cTuple := fun Z H ds d vs Q w h fr => by
  unfold cTuple at h
  split at h
  · cases h
    obtain ⟨x, e, r⟩ := vws1 w
    obtain ⟨a, xs, e1, s1, k1⟩ := rep_tup r
    exact ⟨a, xs, by rw [e, e1], .inr ⟨s1, fr.here (conP_tup s1 k1)⟩⟩
  · obtain ⟨ps, hp, e'⟩ := Option.map_eq_some_iff.mp h
    subst e'
    obtain ⟨x, e, r⟩ := vws1 w
    obtain ⟨a, xs, e1, s1, k1⟩ := seqL_ok r hp
    exact ⟨a, xs, by rw [e, e1], .inl ⟨s1, fun l hl => fr.tup k1 hl⟩⟩
  · cases h
def rStr2 : List V → Hp → VK → Prop := fun xs H Q => (∃ i : Int, xs = [.int i] ∧ i.natAbs.log2 < 1920 ∧ Q (.str (toString i)) H) ∨ ∃ a, xs = [.str a] ∧ Q (.str a) H
theorem cr_str2 {X : Cx} : CallR X (.type "str") rStr2 := call_str_int.or SkE.call_str_str
theorem cd_str : CallD K rStr2 cStr := fun Z H ds d vs Q w h fr => by
  unfold cStr at h
  split at h
  · split at h
    · rename_i hz
      cases h
      obtain ⟨x, e, r⟩ := vws1 w
      exact .inl ⟨_, by rw [e, rep_int r], hz, fr.here conP_str⟩
    · cases h
  · cases h
    obtain ⟨x, e, r⟩ := vws1 w
    exact .inr ⟨_, by rw [e, rep_str r], fr.here conP_str⟩
  · cases h
end

/-! ### isinstance(x, T), T a built-in type -/
def tyD : D → Option String
  | .imm .non => some "NoneType"
  | .imm (.bl _) => some "bool"
  | .imm (.int _) => some "int"
  | .imm (.str _) => some "str"
  | .imm (.tup _) => some "tuple"
  | .imm (.lst _) => some "list"
  | .lst _ => some "list"
  | .dct ks _ => if atomK ks = true then some "dict" else none
  | .imm (.dct ks _) => if atomK ks = true then some "dict" else none
/-- the built-in types that stand here: the answer -/
def kits (a T : String) : Option Bool :=
  if T = "int" then (if a = "int" ∨ a = "bool" then some true else some false)
  else if T = "bool" ∨ T = "str" ∨ T = "tuple" ∨ T = "list" ∨ T = "dict" then some (decide (a = T)) else none
def fIsi (T : String) (d : D) : Option D := (tyD d).bind fun a => (kits a T).map fun b => .imm (.bl b)
theorem tyD_in {d : D} {a : String} (h : tyD d = some a) : a = "NoneType" ∨ a = "bool" ∨ a = "int" ∨ a = "str" ∨ a = "tuple" ∨ a = "list" ∨ a = "dict" := by
  unfold tyD at h
  split at h <;> first
    | (cases h; simp; done)
    | (split at h <;> cases h; simp; done)
theorem kits_ok {a T : String} {b : Bool} (ha : a = "NoneType" ∨ a = "bool" ∨ a = "int" ∨ a = "str" ∨ a = "tuple" ∨ a = "list" ∨ a = "dict") (h : kits a T = some b) : kitB a T = some b := by
  unfold kits at h
  split at h
  · rename_i e
    subst e
    rcases ha with e | e | e | e | e | e | e <;> subst e <;> (simp at h; subst h; decide +kernel)
  · split at h
    · rename_i e
      rcases e with e | e | e | e | e <;> subst e <;> rcases ha with e | e | e | e | e | e | e <;> subst e <;> (simp at h; subst h; decide +kernel)
    · cases h
theorem tyD_ok {K : PySem.W.Frag} {Z F : AS} {H : Hp} {d : D} {x : V} {a : String} (r : rep false K Z H d x F) (h : tyD d = some a) : TyX K H x (.type a) := by
  have sqL : ∀ {p : Addr} {xs : List V}, SqL K H p xs → TyX K H (.ref p) (.type "list") := fun {p xs} s => by
    rcases s with (s | ⟨o, s⟩) | ⟨o, its, n, e1, e2, _⟩
    · exact .base (.lst s)
    · exact .base (.frz s)
    · exact .kList e1 e2
  have dk : ∀ {p : Addr} {kk : List (Key × V)}, Rd H p (.dK kk) → TyX K H (.ref p) (.type "dict") := fun {p kk} s => by
    rcases s with s | ⟨o, s⟩
    · exact .base (.dK s)
    · exact .fDict s
  cases d with
  | imm p =>
    have r' := rep_imm r
    cases p with
    | non => simp only [tyD] at h; cases h; simp only [conP] at r'; subst r'; exact .base .non
    | bl b => simp only [tyD] at h; cases h; simp only [conP] at r'; subst r'; exact .base (.bl b)
    | int b => simp only [tyD] at h; cases h; simp only [conP] at r'; subst r'; exact .base (.int b)
    | str b => simp only [tyD] at h; cases h; simp only [conP] at r'; subst r'; exact .base (.str b)
    | tup ps =>
      simp only [tyD] at h; cases h
      obtain ⟨p, vs, e, s, _⟩ := rep_tup r
      subst e
      rcases s with (s | ⟨o, s⟩) | s
      · exact .base (.tup s)
      · exact .fTuple s
      · obtain ⟨o, its, n, e1, e2, _⟩ := s
        exact .kTuple e1 e2
    | lst ps =>
      simp only [tyD] at h; cases h
      simp only [conP] at r'
      obtain ⟨p, vs, e, s, _⟩ := r'
      subst e
      exact sqL s.sq
    | dct ks ps =>
      simp only [tyD] at h
      split at h
      · rename_i hc
        cases h
        simp only [conP] at r'
        obtain ⟨p, vs, e, _, s, _⟩ := r'
        subst e
        obtain ⟨kk, _, _, _, s⟩ := dctC_atoms s hc
        exact dk s
      · cases h
  | lst ds =>
    simp only [tyD] at h; cases h
    simp only [rep] at r
    obtain ⟨p, vs, e, _, s, _⟩ := r
    subst e
    exact sqL (cell_sq s)
  | dct ks ds =>
    simp only [tyD] at h
    split at h
    · rename_i hc
      cases h
      simp only [rep] at r
      obtain ⟨p, vs, e, _, s, _⟩ := r
      subst e
      obtain ⟨kk, _, _, _, s⟩ := dctC_atoms s hc
      exact dk (cell.rd s)
    · cases h
section
variable {X : Cx} {I : Option (Addr × Value × Option Addr)} {W : WX} {q qa qk : Bool} {pos p1 p2 : Pos} {a b e : Expr}  {m : ME} {pm : Par} {σ : L2.St} {H : Hp}
def rIsiB (K : PySem.W.Frag) (T : String) : V → Hp → VK → Prop := fun x H Q => rIsi K [x, .ty T] H Q
theorem und_isi {K : PySem.W.Frag} {T : String} : UnD K (rIsiB K T) (fIsi T) := fun Z H d1 d x Q c1 h fr => by
  obtain ⟨a, ha, h⟩ := Option.bind_eq_some_iff.mp h
  obtain ⟨b, hb, e⟩ := Option.map_eq_some_iff.mp h
  subst e
  exact ⟨x, .ty T, .type a, .type T, b, rfl, .ty T, tyD_ok c1 ha, kit_ty (kits_ok (tyD_in ha) hb), fr.here conP_bl⟩
theorem DE.isi {T : String} {x : Str} (hm : X.mg "isinstance" = none) (hm2 : X.mg x = none) (ha : DE X I W q a m) (hg : Gl X "isinstance" := by rfl) (hg2 : Gl X x := by rfl) (hb2 : bootBuiltins x = some (.type T) := by decide +kernel) (hn : x ≠ "__name__" := by decide) (hdb : (x == ("__debug__" : Str)) = false := by decide)
    (he : starEach [a, .Name x p2] X.env = (false, eval a X.env) :: starEach [.Name x p2] X.env := by rfl) (he2 : starEach [.Name x p2] X.env = (false, eval (.Name x p2) X.env) :: starEach [] X.env := by rfl) (hpl : (backTo pos (starEach [.Name x p2] X.env)).any (·.1) = false := by rfl) :
    DE X I W q (.Call (.Name "isinstance" p1) [a, .Name x p2] [] pos) (e1 (fIsi T) m) :=
  PE.imp (pe_callB call_isi hg hm (by decide +kernel) (pa_cons ha (pa_cons (pe_bltn (v := .ty T) hg2 hm2 hb2 rfl hn hdb) pa_nil he2) he) (by decide) (by decide) he hpl) fun σ H Q h => one_op (r := rIsiB X.K T) und_isi h
end
end MV

set_option Elab.async false
set_option linter.all false
set_option maxRecDepth 100000
set_option maxHeartbeats 4000000
/-! MV16: what stands at the module's names; the head's Hook. -/
namespace MV
open PySem L2 PyProof.Rows

theorem takes0 {X : Cx} : L2.Takes X W0 := fun u s' h => by
  obtain ⟨a, B, sI, pins, σ, H, cls, d, e, I, nb, up, sky, na, os, ag, w⟩ := h
  exact w.elim

/-! ### written data -/
def vOf : Value → V
  | .none => .non
  | .bool b => .bl b
  | .int i _ => .int i
  | .str x _ => .str x
  | .ref a => .ref a
  | _ => .non
mutual
def datB (K : PySem.W.Frag) : P → Value → Bool
  | .non, u => decide (u = .none)
  | .bl b, u => decide (u = .bool b)
  | .int i, .int j _ => decide (i = j)
  | .str x, .str y _ => decide (x = y)
  | .tup ps, .ref a => (match K.lookup a with
    | some ⟨.type c, _, .seq its _, _⟩ => decide (c = "tuple") && (decide (its.size ≤ sizeLine) && datBs K ps its.toList)
    | _ => false)
  | .lst ps, .ref a => (match K.lookup a with
    | some ⟨.type c, none, .seq its _, _⟩ => decide (c = "list") && (decide (its.size ≤ sizeLine) && datBs K ps its.toList)
    | _ => false)
  | _, _ => false
def datBs (K : PySem.W.Frag) : List P → List Value → Bool
  | [], [] => true
  | p :: ps, u :: us => datB K p u && datBs K ps us
  | _, _ => false
end
mutual
theorem datB_ok {K : PySem.W.Frag} : ∀ {p : P} {u : Value}, datB K p u = true → RelV (vOf u) u ∧ ∀ Z H, conP K Z H p (vOf u)
  | .non, u, h => by
    simp only [datB] at h
    have := of_decide_eq_true h
    subst this
    exact ⟨rfl, fun Z H => by simp only [conP]; rfl⟩
  | .bl b, u, h => by
    simp only [datB] at h
    have := of_decide_eq_true h
    subst this
    exact ⟨rfl, fun Z H => by simp only [conP]; rfl⟩
  | .int i, u, h => by
    cases u <;> simp only [datB] at h <;> first
      | (have := of_decide_eq_true h; subst this; exact ⟨⟨_, rfl⟩, fun Z H => by simp only [conP]; rfl⟩)
      | cases h
  | .str i, u, h => by
    cases u <;> simp only [datB] at h <;> first
      | (have := of_decide_eq_true h; subst this; exact ⟨⟨_, rfl⟩, fun Z H => by simp only [conP]; rfl⟩)
      | cases h
  | .tup ps, u, h => by
    cases u <;> simp only [datB] at h <;> try cases h
    rename_i a
    cases q : K.lookup a with
    | none => rw [q] at h; cases h
    | some o =>
      obtain ⟨oc, od, dt, osl⟩ := o
      rw [q] at h
      cases oc with
      | type c =>
        cases dt with
        | seq its n =>
          have h : (decide (c = "tuple") && (decide (its.size ≤ sizeLine) && datBs K ps its.toList)) = true := h
          obtain ⟨h1, h2⟩ := Bool.and_eq_true_iff.mp h
          obtain ⟨h3, h4⟩ := Bool.and_eq_true_iff.mp h2
          obtain ⟨vs, r1, r2⟩ := datBs_ok h4
          refine ⟨rfl, fun Z H => ?_⟩
          simp only [conP]
          exact ⟨a, vs, rfl, .inr ⟨_, its, n, q, congrArg Value.type (of_decide_eq_true h1), rfl, of_decide_eq_true h3, r1⟩, r2 Z H⟩
        | _ => cases h
      | _ => cases dt <;> cases h
  | .lst ps, u, h => by
    cases u <;> simp only [datB] at h <;> try cases h
    rename_i a
    cases q : K.lookup a with
    | none => rw [q] at h; cases h
    | some o =>
      obtain ⟨oc, od, dt, osl⟩ := o
      rw [q] at h
      cases oc with
      | type c =>
        cases od with
        | none =>
          cases dt with
          | seq its n =>
            have h : (decide (c = "list") && (decide (its.size ≤ sizeLine) && datBs K ps its.toList)) = true := h
            obtain ⟨h1, h2⟩ := Bool.and_eq_true_iff.mp h
            obtain ⟨h3, h4⟩ := Bool.and_eq_true_iff.mp h2
            obtain ⟨vs, r1, r2⟩ := datBs_ok h4
            refine ⟨rfl, fun Z H => ?_⟩
            simp only [conP]
            exact ⟨a, vs, rfl, .inr ⟨_, its, n, q, congrArg Value.type (of_decide_eq_true h1), rfl, rfl, of_decide_eq_true h3, r1⟩, r2 Z H⟩
          | _ => cases h
        | some d => cases dt <;> cases h
      | _ => cases od <;> cases dt <;> cases h
  | .dct ks ps, u, h => by cases u <;> simp only [datB] at h <;> cases h
theorem datBs_ok {K : PySem.W.Frag} : ∀ {ps : List P} {us : List Value}, datBs K ps us = true → ∃ vs, Vals vs us ∧ ∀ Z H, conPs K Z H ps vs
  | [], [], _ => ⟨[], .nil, fun Z H => by simp only [conPs]⟩
  | [], _ :: _, h => by simp only [datBs] at h; cases h
  | _ :: _, [], h => by simp only [datBs] at h; cases h
  | p :: ps, u :: us, h => by
    simp only [datBs] at h
    obtain ⟨h1, h2⟩ := Bool.and_eq_true_iff.mp h
    obtain ⟨r, c⟩ := datB_ok h1
    obtain ⟨vs, r2, c2⟩ := datBs_ok h2
    exact ⟨vOf u :: vs, .cons r r2, fun Z H => by simp only [conPs]; exact ⟨_, _, rfl, c Z H, c2 Z H⟩⟩
end
/-- the module's name x is the data p -/
def gDat (K : PySem.W.Frag) (x : Str) (p : P) : Bool := match PySem.W.nsIn K mainGlobals x with
  | some (some u) => datB K p u
  | _ => false
def gBlt (K : PySem.W.Frag) (x : Str) (id : String) : Bool := He.eqO (PySem.W.nsIn K mainGlobals x) (some (some (.builtin id)))
/-- what is known of a module's name that is data -/
def IsDat (K : PySem.W.Frag) (mg : Str → Option Value) (x : Str) (p : P) : Prop := ∃ u, mg x = some u ∧ RelV (vOf u) u ∧ ∀ Z H, conP K Z H p (vOf u)
theorem gDat_ok {K : PySem.W.Frag} {h : Heap} {mg : Str → Option Value} (X : K.In h) (G : h.Ns mainGlobals mg) {x : Str} {p : P} (c : gDat K x p = true) : IsDat K mg x p := by
  unfold gDat at c
  cases e : PySem.W.nsIn K mainGlobals x with
  | none => rw [e] at c; cases c
  | some o =>
    rw [e] at c
    cases o with
    | none => cases c
    | some u =>
      obtain ⟨r, k⟩ := datB_ok c
      exact ⟨u, PySem.W.mg_of X G e, r, k⟩
theorem gBlt_ok {K : PySem.W.Frag} {h : Heap} {mg : Str → Option Value} (X : K.In h) (G : h.Ns mainGlobals mg) {x : Str} {id : String} (c : gBlt K x id = true) : mg x = some (.builtin id) := PySem.W.mg_of X G (He.eqO_ok c)
theorem DE.gcon {X : Cx} {I : Option (Addr × Value × Option Addr)} {W : WX} {pos : Pos} {x : Str} {p : P} (d : IsDat X.K X.mg x p) (hg : Gl X x := by rfl) (hd : (x == ("__debug__" : Str)) = false := by decide) : DE X I W true (.Name x pos) (eC p) := by
  obtain ⟨u, h1, h2, h3⟩ := d
  exact DE.glob hg h1 h2 h3 hd

/-! ### the Hook -/
def obsM (ck : PySem.W.Frag → Bool) (fn : List He.DefD) (K : PySem.W.Frag) : He.AlD := (ck K && fn.all fun d => d.ok K, fn.map fun d => He.fnW K d.at_)
def SaysM (ck : PySem.W.Frag → Bool) (fn : List He.DefD) (K : PySem.W.Frag) : Prop := obsM ck fn K = He.valD fn
def obsMG (n : Nat) (ck : PySem.W.Frag → Bool) (fn : List He.DefD) (g : Addr → Option Obj) : He.AlD := obsM ck fn (He.frG g (He.asD g n))
def hookM (n : Nat) (ck : PySem.W.Frag → Bool) (fn : List He.DefD) : PySem.W.Hook where
  α := He.AlD
  obs := fun s => obsMG n ck fn s.heap.get?
  val := fun _ => He.valD fn
  says := fun _ h => ∃ K : PySem.W.Frag, K.In h ∧ SaysM ck fn K
  of := fun _ _ e => ⟨_, He.frG_in, e⟩
  keeps := fun _ _ _ ⟨K, hK, c⟩ k => ⟨K, PySem.W.Frag.In.keeps hK k, c⟩
theorem obsMG_eq {n : Nat} {ck : PySem.W.Frag → Bool} {fn : List He.DefD} {g : Addr → Option Obj} {s : Shared} (h : ∀ a, g a = s.heap.get? a) : obsMG n ck fn g = (hookM n ck fn).obs s := by
  have e : g = s.heap.get? := funext h
  rw [e] <;> rfl
section
variable {ch : PySem.W.Frag → Bool} {fn : List He.DefD} {K : PySem.W.Frag}
theorem SaysM.chk (c : SaysM ch fn K) : ch K = true := (Bool.and_eq_true_iff.mp (show (ch K && fn.all fun d => d.ok K) = true from congrArg (fun z : He.AlD => z.1) c)).1
theorem SaysM.def_ (c : SaysM ch fn K) (i : Nat) {d : He.DefD} (h : fn[i]? = some d := by rfl) : ∃ fd, FunD K d.name d.qual d.params d.body d.scope (d.dvs K) (d.kws K) (He.fAd K d.at_) fd := by
  have c2 := (Bool.and_eq_true_iff.mp (show (ch K && fn.all fun d => d.ok K) = true from congrArg (fun z : He.AlD => z.1) c)).2
  have e : fn.map (fun d => He.fnW K d.at_) = fn.map He.DefD.val := congrArg (fun z : He.AlD => z.2) c
  have e2 : (fn.map fun d => He.fnW K d.at_)[i]? = (fn.map He.DefD.val)[i]? := by rw [e]
  rw [List.getElem?_map, List.getElem?_map, h] at e2
  exact He.DefD.funD (Option.some.inj e2) (List.all_eq_true.mp c2 d (List.mem_of_getElem? h))
end
/-- facts of names, by place -/
theorem all_at {α : Type} {f : α → Bool} {l : List α} (h : l.all f = true) (i : Nat) {a : α} (e : l[i]? = some a := by rfl) : f a = true := List.all_eq_true.mp h a (List.mem_of_getElem? e)
theorem funOf {K : PySem.W.Frag} {x qual : Str} {st : Stmt} {f : Addr} {fd : FuncData} (F : FunD K x qual (defArgs st) (defBody st) (defScope st) [] [] f fd) : Fun K x qual st f fd := by
  obtain ⟨oc, od, dV, kV, doc, pm, an, cdv, ct, osl, e, lk, hcd, hD, _⟩ := F.ex
  rcases hD with ⟨_, e2⟩ | ⟨e2, _⟩
  · subst e2
    exact ⟨⟨oc, od, kV, doc, pm, an, cdv, ct, osl, e, lk, hcd⟩, F.kp⟩
  · exact absurd rfl e2

/-! ### slices -/
def optV : V → Option Int → Prop
  | .non, none => True
  | .int i, some j => j = i
  | _, _ => False
def partD : D → Option (Option Int)
  | .imm .non => some none
  | .imm (.int i) => some (some i)
  | _ => none
def tO (t : TE) : TO := fun σ H Q => t σ H fun x H1 => ∃ o, optV x o ∧ Q o H1
def DO (X : Cx) (I : Option (Addr × Value × Option Addr)) (W : WX) (q : Bool) (e : Option Expr) (m : ME) : Prop := PO X e (tO (tE ⟨X.K, X.mg, I⟩ W q m))
theorem PO.imp {X : Cx} {e : Option Expr} {t t' : TO} (h : PO X e t) (f : ∀ σ H Q, t' σ H Q → t σ H Q) : PO X e t' := ⟨fun pins s σ H Q I q => h.run pins s σ H Q I (f σ H Q q)⟩
def oNone : ME := eC .non
def oSome (m : ME) : ME := fun ρ => (m ρ).bind fun v ρ1 => match v with
  | .own (.imm (.int i)) => .ok (.own (.imm (.int i))) ρ1
  | _ => .stuck
def cutP {α : Type} (xs : List α) (lo hi : Option Int) : List α := (xs.drop (HT.sIx xs.length 0 lo)).take (HT.sIx xs.length xs.length hi - HT.sIx xs.length 0 lo)
def cutD (d : D) (lo hi : Option Int) : Option D := match d with
  | .imm (.tup ps) => some (.imm (.tup (cutP ps lo hi)))
  | .imm (.str z) => if z.length ≤ sizeLine then some (.imm (.str (cutS z lo hi))) else none
  | d => (seqL d).map fun ps => .lst ((cutP ps lo hi).map .imm)
def eSl (ql qh : Bool) (m lo hi : ME) : ME := fun ρ => (m ρ).bind fun va ρ1 => (lo ρ1).bind fun vl ρ2 => match partD vl.d with
  | none => .stuck
  | some l => (hi ρ2).bind fun vh ρ3 => if okq va (ql && qh) = true then (match (partD vh.d).bind (cutD va.d l) with
      | some d => .ok (.own d) ρ3
      | none => .stuck) else .stuck
def rSl3 (K : PySem.W.Frag) : V → Option Int → Option Int → Hp → VK → Prop := fun x lo hi H Q => (rSlL K x lo hi H Q ∨ rSlA K x lo hi H Q) ∨ rSlS x lo hi H Q
theorem sl_3 {X : Cx} : SlR X (rSl3 X.K) := (sl_list.or sl_tupA).or sl_str
theorem conPs.take {K : PySem.W.Frag} {Z : AS} {H : Hp} : ∀ {ps : List P} {vs : List V} (n : Nat), conPs K Z H ps vs → conPs K Z H (ps.take n) (vs.take n)
  | [], vs, n, h => by have := h.nil; subst this; simpa using h
  | p :: ps, vs, 0, h => by simp only [List.take_zero, conPs]
  | p :: ps, vs, n + 1, h => by
    simp only [conPs] at h
    obtain ⟨v, r, e, h1, h2⟩ := h
    subst e
    simp only [List.take_succ_cons, conPs]
    exact ⟨v, _, rfl, h1, h2.take n⟩
theorem conPs.drop {K : PySem.W.Frag} {Z : AS} {H : Hp} : ∀ {ps : List P} {vs : List V} (n : Nat), conPs K Z H ps vs → conPs K Z H (ps.drop n) (vs.drop n)
  | [], vs, n, h => by have := h.nil; subst this; simpa using h
  | p :: ps, vs, 0, h => by simpa using h
  | p :: ps, vs, n + 1, h => by
    simp only [conPs] at h
    obtain ⟨v, r, e, h1, h2⟩ := h
    subst e
    simpa using h2.drop n
theorem conPs.cut {K : PySem.W.Frag} {Z : AS} {H : Hp} {ps : List P} {vs : List V} (h : conPs K Z H ps vs) (lo hi : Option Int) : conPs K Z H (cutP ps lo hi) (cutV vs lo hi) := by
  unfold cutP cutV
  rw [h.length]
  exact (h.drop _).take _
theorem cut_ok {K : PySem.W.Frag} {Z F : AS} {H : Hp} {d d' : D} {x : V} {lo hi : Option Int} {Q : VK} (r : rep false K Z H d x F) (h : cutD d lo hi = some d') (fr : Fresh K Z H d' Q) : rSl3 K x lo hi H Q := by
  unfold cutD at h
  split at h
  · cases h
    obtain ⟨a, vs, e1, e2, e3⟩ := rep_tup r
    refine .inl (.inr ⟨a, vs, e1, e2, fun w => ?_, fun _ p hp => fr.tup (e3.cut lo hi) hp⟩)
    refine fr.here (conP_tup e2 ?_)
    have : cutV vs lo hi = vs := by
      unfold cutV
      rw [w.1, w.2]
      simp
    rw [← this]
    exact e3.cut lo hi
  · split at h
    · rename_i hz
      cases h
      exact .inr ⟨_, rep_str r, hz, fr.here conP_str⟩
    · cases h
  · obtain ⟨ps, hp, e⟩ := Option.map_eq_some_iff.mp h
    subst e
    obtain ⟨a, vs, e1, e2, e3⟩ := seqL_ok r hp
    exact .inl (.inl ⟨a, vs, e1, e2, fun p hp => fr.lst (reps_imm (e3.cut lo hi)) (fun _ z => z) hp⟩)
theorem part_opt {m : Bool} {K : PySem.W.Frag} {Z F : AS} {H : Hp} {d : D} {x : V} {o : Option Int} (r : rep m K Z H d x F) (h : partD d = some o) : optV x o := by
  unfold partD at h
  split at h
  · cases h
    have := rep_imm r
    simp only [conP] at this
    subst this
    exact True.intro
  · cases h
    rw [rep_int r]
    exact rfl
  · cases h
section
variable {X : Cx} {I : Option (Addr × Value × Option Addr)} {W : WX} {q qa ql qh : Bool} {pos p2 : Pos} {e : Expr} {lo hi : Option Expr} {m ml mh : ME} {pm : Par} {σ : L2.St} {H : Hp}
theorem DO.none : DO X I W true Option.none oNone := PO.imp po_none fun σ H Q h => by
  obtain ⟨ρ, Z, S, F, s, h⟩ := h
  obtain ⟨o, h1, h2⟩ := postE.done s h Ex.rfl (v := .non) (by simp only [conP])
  cases o with
  | none => exact h2
  | some i => exact h1.elim
theorem DO.some (h : DE X I W q e m) : DO X I W q (Option.some e) (oSome m) := PO.imp (po_some h) fun σ H Q h => by
  refine tE.bind h fun Z S F ρ val ρ1 v H1 Z1 F1 G ok h1 => ?_
  split at h1
  · rename_i i
    have ev := rep_int ok.val.1
    obtain ⟨o, h2, h3⟩ := h1 v H1 Z1 F1 G ok
    subst ev
    cases o with
    | none => exact h2.elim
    | some j =>
      have : j = i := h2
      subst this
      exact ⟨j, Eq.refl _, h3⟩
  · exact h1.elim
theorem DE.slice (he : DE X I W qa e m) (hl : DO X I W ql lo ml) (hh : DO X I W qh hi mh) : DE X I W (qa && (ql && qh)) (.Subscript e (.Slice lo hi Option.none p2) pos) (eSl ql qh m ml mh) := by
  refine PE.imp (pe_slice sl_3 he hl hh) fun σ H Q h => ?_
  refine tE.bind h fun Z S F ρ va ρ1 x H1 Z1 F1 G1 ok1 h1 => ?_
  refine ⟨ρ1, Z1, S, F1, ok1.sta, ?_⟩
  revert h1
  cases ml ρ1 with
  | stuck => exact fun h1 => h1
  | exc z ρ2 => exact fun h1 c dd H' Z' F' y => h1 c dd H' Z' F' (ok1.t.afterX y)
  | ok vl ρ2 =>
    intro h1 y H2 Z2 F2 G2 ok2
    rw [R.bind_ok] at h1
    split at h1
    case h_1 => exact h1.elim
    rename_i l hl
    refine ⟨l, part_opt ok2.val.view hl, ρ2, Z2, S, F2, ok2.sta, ?_⟩
    revert h1
    cases mh ρ2 with
    | stuck => exact fun h1 => h1
    | exc z ρ3 => exact fun h1 c dd H' Z' F' y => h1 c dd H' Z' F' (ok1.t.afterX (ok2.t.afterX y))
    | ok vh ρ3 =>
      intro h1 z H3 Z3 F3 G3 ok3
      rw [R.bind_ok] at h1
      split at h1
      case isFalse => exact h1.elim
      rename_i hq
      split at h1
      case h_2 => exact h1.elim
      rename_i d hd
      obtain ⟨o, ho, hc⟩ := Option.bind_eq_some_iff.mp hd
      refine ⟨o, part_opt ok3.val.view ho, cut_ok (Z := Z3) (F := fun _ => True) (d := va.d) ?_ hc ?_⟩
      · have g12 : Go H1 Z1 (MV.un F1) H3 Z3 (MV.un F3) := ((ok2.go.less fun a t => .inl t).trans ok3.go).less fun a t => .inl t
        cases va with
        | own d => exact (ok1.val.1.ro).stay (ok1.sta.go_staysF g12 fun a g => (ok1.val.2 a g).2.2.2) g12.zm fun _ _ => True.intro
        | bor d i => exact ok1.val.1.stay ((ok2.qt (and_l hq)).1.trans (ok3.qt (and_r hq)).1).staysF g12.zm fun _ _ => True.intro
      · refine postE.freshAt (T1 := fun a => MV.un F3 a ∨ G3 a) ok3.sta ((ok1.go.less fun a t => .inl t).trans ((ok2.go.less fun a t => .inl t).trans ok3.go)) (fun a t => .inl t) (fun z => ?_) (ok1.kp.trans (ok2.kp.trans ok3.kp)) h1
        have z2 := and_r z
        exact ⟨(ok1.qt (and_l z)).1.trans ((ok2.qt (and_l z2)).1.trans (ok3.qt (and_r z2)).1), (ok3.qt (and_r z2)).2.trans ((ok2.qt (and_l z2)).2.trans (ok1.qt (and_l z)).2)⟩
end
end MV

set_option Elab.async false
set_option linter.all false
set_option maxRecDepth 100000
set_option maxHeartbeats 4000000
/-! MV17: the end of a law. -/
namespace L2
open PySem PyProof.Rows MV
theorem law_sp {K : PySem.W.Frag} {mg : Str → Option Value} {f : MV.FS} {H : Hp} {a : Addr} {ns : List Int} (hS : SqL K H a (ns.map V.int)) (h : ∃ ρ, f [.own (.imm (.lst (ns.map P.int)))] = .ok (.imm (.bl true)) ρ) : MV.spD K mg 1 f [.ref a] H (fun v _ => v = .bl true) fun _ _ _ => False := by
  obtain ⟨ρ, h⟩ := h
  have cs : ∀ (Z : AS) (l : List Int), conPs K Z H (l.map P.int) (l.map V.int) := fun Z l => by
    induction l with
    | nil => simp only [List.map_nil, conPs]
    | cons x l ih => simp only [List.map_cons, conPs]; exact ⟨_, _, rfl, by simp only [conP], ih⟩
  have main : ∀ Z : AS, (∀ b, Z b → H b ≠ none) → frzL K Z H a (ns.map V.int) → MV.spD K mg 1 f [.ref a] H (fun v _ => v = .bl true) fun _ _ _ => False := fun Z hz hf => by
    refine ⟨[.own (.imm (.lst (ns.map P.int)))], Z, fun _ => False, fun _ _ => False, rfl, ⟨rfl, fun i s hi => ?_, fun i j a h => h.elim, fun i a h => h.elim, fun b h => h.elim (hz b) False.elim⟩, ?_⟩
    · cases i with
      | zero =>
        cases hi
        refine ⟨.ref a, rfl, ?_⟩
        simp only [rep, conP]
        exact ⟨a, _, rfl, hf, cs Z ns⟩
      | succ i => simp at hi
    · rw [h]
      exact fun v H' Z' F' G o => rep_bl o.val.1
  rcases hS with h1 | h1
  · refine main (fun b => b = a) (fun b e => ?_) (.inl ⟨rfl, h1⟩)
    subst e
    rcases h1 with h1 | ⟨o, h1⟩ <;> (rw [h1]; exact fun z => nomatch z)
  · exact main (fun _ => False) (fun b e => e.elim) (.inr h1)
theorem walk_mv {l : PySem.W.OpenLaw} {n k : Nat} {q : Program} {loose : List Str} {XP : (Str → Option Value) → Heap → Prop} {YP : World → Heap → Prop} {d : DefRec}
    (hn : l.most = some n) (hn2 : n ≤ sizeLine) (hdf : d.params.defaults = []) (hr : Room k callerA)
    (F : ∀ (w : World) (mg : Str → Option Value) (fa : Addr) (h : Heap), YP w h → h.Ns mainGlobals mg → mg d.name = some (.ref fa) →
      ∃ (K : PySem.W.Frag) (fd : FuncData) (f : MV.FS), K.In h ∧ (∀ (s : Shared) (u : Value), BindsTo s fd ⟨[u], []⟩ [("script", u)]) ∧
        (∀ ns : List Int, ns.length ≤ n → ∃ ρ, f [.own (.imm (.lst (ns.map P.int)))] = .ok (.imm (.bl true)) ρ) ∧
        ∀ base : Heap, K.In base → base.Ns mainGlobals mg → FnOk l.prog w K mg base (L2.CX l.prog w) k fa fd ["script"] (MV.spD K mg 1 f)) :
    PySem.W.WalkO q loose XP YP l.row.toRowW d [] (fun f vs => PySem.call f vs) := by
  refine Att.attach_call hn hdf fun w s₀ s₁ mg mb fa o pm cd doc a vs ns G Y ho hd hcd hmg hobj hints hlen hg => ?_
  obtain ⟨K, fd, f, KX, hb, hsp, hF⟩ := F w mg fa _ Y G.T.g hmg
  exact law_call KX G.T.g G.T.b G.T.builtins G.T.nolimit hg hobj hints (Nat.le_trans hlen hn2) hr hF hb (fun H hO hS => law_sp hS (hsp ns hlen)) fun H e s' c => by
    obtain ⟨_, _, _, _, _, _, _, _, _, _, _, _, z⟩ := c
    exact z
end L2

set_option Elab.async false
set_option linter.all false
set_option maxRecDepth 100000
set_option maxHeartbeats 4000000
/-! MVc: list + list, whatever the lists. -/
namespace MV
open PySem PySem.P L2 PyProof.Rows
theorem add_plain (l : Addr) (items : Array Value) (n : Nat) (sl : Array (Option Value)) (b : Addr) (items2 : Array Value) (n2 : Nat) (sl2 : Array (Option Value)) (hc0 : items.size + items2.size ≤ sizeLine) :
    Meets (Builtin.«list.__add__» ⟨[.ref l, .ref b], []⟩) (fun _ R s => s.heap.get? l = some { cls := .type "list", dict := none, data := .seq items n, slots := sl } ∧ s.heap.get? b = some { cls := .type "list", dict := none, data := .seq items2 n2, slots := sl2 } ∧ R (.ok (.ret (Value.ref s.heap.objs.size))) { s with heap := s.heap.push { cls := Value.type "list", data := Data.seq (items ++ items2) }, toks := s.toks }) :=
  .of_wp fun prog w A R s h => by obtain ⟨hp, g, d, tk, os⟩ := s; obtain ⟨hl, hb, h⟩ := h; have f1 := AutoSeq1.idx_int; have f2 := AutoSeq1.sub_tuple_tuple; have f3 := AutoSeq1.sub_list_list; have f4 := AutoSeq1.sub_tuple_list; have f5 := AutoSeq1.sub_list_tuple; wp_walk using AutoSeq1.wpAny_loadPart' hl, AutoSeq1.wpAny_loadPart' hb; exact ⟨_, rfl, h⟩
def rCatL (K : PySem.W.Frag) : R2 := fun x y H Q => ∃ l b xs zs, x = .ref l ∧ y = .ref b ∧ SqL K H l xs ∧ SqL K H b zs ∧ xs.length + zs.length ≤ sizeLine ∧ ∀ p, H p = none → Q (.ref p) (upd H p (.lst (xs ++ zs)))
theorem op_catL {X : Cx} : OpR X (binaryOp .Add) (rCatL X.K) := by
  intro pins s σ H x y v u Q I rx ry h
  obtain ⟨l, b, xs, zs, rfl, rfl, hH, hB, hz, q⟩ := h
  cases rx
  cases ry
  obtain ⟨its, r, ⟨o, n, e, oc, od, oe⟩, _⟩ := I.list hH
  obtain ⟨its2, r2, ⟨o2, n2, e2, oc2, od2, oe2⟩, _⟩ := I.list hB
  have hl := r.length
  have hl2 := r2.length
  obtain ⟨c1, c2, c3, sl⟩ := o
  obtain ⟨d1, d2, d3, sl2⟩ := o2
  simp only at oc od oe oc2 od2 oe2
  subst oc od oe oc2 od2 oe2
  refine PySem.concat_meets ⟨_, e, rfl⟩ ⟨_, e2, rfl⟩ noFill_list_add seq_list_add F.slot_list_add F.entry_list_add (F.args_list_add_2 _ _) (add_plain l its.toArray n sl b its2.toArray n2 sl2 (by rw [List.size_toArray, List.size_toArray]; omega)) ⟨e, e2, ?_⟩
  have ea : its.toArray ++ its2.toArray = (its ++ its2).toArray := by simp
  rw [ea]
  refine ⟨.ref _, _, I.lnew (t' := s.toks) (r.append r2) (by rw [List.length_append]; omega), rfl, q _ I.fresh⟩
end MV

set_option Elab.async false
set_option linter.all false
set_option maxRecDepth 100000
set_option maxHeartbeats 4000000
/-! MV18: list + list, xs[::-1], two names at once, lcm. -/
namespace MV
open PySem L2 PyProof.Rows

/-! ### + of lists too -/
def listD : D → Option (List P)
  | .lst ds => allImm ds
  | .imm (.lst ps) => some ps
  | _ => none
theorem listD_seq {d : D} {ps : List P} (h : listD d = some ps) : seqL d = some ps := by
  cases d with
  | lst ds => exact h
  | imm p => cases p <;> first | exact h | cases h
  | dct ks ds => cases h
theorem listD_ok {K : PySem.W.Frag} {Z F : AS} {H : Hp} {d : D} {v : V} {ps : List P} (r : rep false K Z H d v F) (h : listD d = some ps) : ∃ a vs, v = .ref a ∧ SqL K H a vs ∧ conPs K Z H ps vs := seqL_ok r (listD_seq h)
def fAddL (a b : D) : Option D := match listD a, listD b with
  | some p, some q => if p.length + q.length ≤ sizeLine then some (.lst ((p ++ q).map .imm)) else none
  | _, _ => fAdd a b
def rAdd4 (K : PySem.W.Frag) : R2 := fun x y H Q => rAdd3 K x y H Q ∨ rCatL K x y H Q
theorem op_add4 {X : Cx} : OpR X (binaryOp .Add) (rAdd4 X.K) := op_add3.or op_catL
theorem opd_add4 {K : PySem.W.Frag} : OpD K (rAdd4 K) fAddL := fun Z H d1 d2 d x y Q c1 c2 h fr => by
  unfold fAddL at h
  split at h
  · rename_i p q hp hq
    split at h
    · rename_i hz
      cases h
      obtain ⟨a, xs, e1, s1, k1⟩ := listD_ok c1 hp
      obtain ⟨b, ys, e2, s2, k2⟩ := listD_ok c2 hq
      exact .inr ⟨a, b, xs, ys, e1, e2, s1, s2, by rw [← k1.length, ← k2.length]; exact hz, fun l hl => fr.lst (reps_imm (k1.append k2)) (fun _ z => z) hl⟩
    · cases h
  · exact .inl (opd_add Z H d1 d2 d x y Q c1 c2 h fr)

/-! ### xs[::-1] of a list -/
def rRevL (K : PySem.W.Frag) : V → Hp → VK → Prop := fun x H Q => ∃ a xs, x = .ref a ∧ SqL K H a xs ∧ ∀ p, H p = none → Q (.ref p) (upd H p (.lst xs.reverse))
def fRev (d : D) : Option D := (seqL d).map fun ps => .lst (ps.reverse.map .imm)
theorem conPs.rev {K : PySem.W.Frag} {Z : AS} {H : Hp} : ∀ {ps : List P} {vs : List V}, conPs K Z H ps vs → conPs K Z H ps.reverse vs.reverse
  | [], vs, h => by have := h.nil; subst this; simpa using h
  | p :: ps, vs, h => by
    simp only [conPs] at h
    obtain ⟨v, r, e, h1, h2⟩ := h
    subst e
    rw [List.reverse_cons, List.reverse_cons]
    exact (conPs.rev h2).append (by simp only [conPs]; exact ⟨v, [], rfl, h1, rfl⟩)
theorem und_rev {K : PySem.W.Frag} : UnD K (rRevL K) fRev := fun Z H d1 d x Q c1 h fr => by
  obtain ⟨ps, hp, e⟩ := Option.map_eq_some_iff.mp h
  subst e
  obtain ⟨a, xs, e1, s1, k1⟩ := seqL_ok c1 hp
  exact ⟨a, xs, e1, s1, fun p hp => fr.lst (reps_imm k1.rev) (fun _ z => z) hp⟩
section
variable {X : Cx} {I : Option (Addr × Value × Option Addr)} {W : WX} {q : Bool} {pos p1 p2 p3 : Pos} {e : Expr} {m : ME} {k : Nat}
theorem DE.revL (he : DE X I W q e m) : DE X I W q (.Subscript e (.Slice none none (some (.UnaryOp .USub (.Constant (.int 1) k p1) p2)) p3) pos) (e1 fRev m) :=
  PE.imp (pe_revL he) fun σ H Q h => one_op und_rev h
end

/-! ### x, y = a, b -/
def sPar (i j : Nat) (ms : MA) : MS := fun ρ => (ms ρ).bindS fun ds ρ1 => match ds with
  | [.imm p, .imm q] => (match bindN [i, j] [p, q] ρ1 with
    | some ρ2 => .nx ρ2
    | none => .stuck)
  | _ => .stuck
section
variable {X : Cx} {I : Option (Addr × Value × Option Addr)} {W : WX} {q : Bool} {pos px py pt pt2 : Pos} {a b : Expr} {ms : MA} {kt k2 : Nat}
theorem DS.par (i j : Nat) {x y : Str} (hc : X.calm = true) (hN : X.N.Nodup) (ha : DA X I W q [a, b] ms) (hi : X.N[i]? = some x := by rfl) (hj : X.N[j]? = some y := by rfl) (hij : i ≠ j := by decide)
    (hx : X.env.scope.names.lookup x = some .local := by rfl) (hy : X.env.scope.names.lookup y = some .local := by rfl)
    (hw : swappedStores [.Tuple [.Name x px, .Name y py] kt pt] (.Tuple [a, b] k2 pt2) X.env = pure (some [x, y]) := by rfl)
    (hs : swapsWithSole [.Tuple [.Name x px, .Name y py] kt pt] (.Tuple [a, b] k2 pt2) pos.line X.env = pure false := by rfl) :
    DS X I W (.Assign [.Tuple [.Name x px, .Name y py] kt pt] (.Tuple [a, b] k2 pt2) pos) (sPar i j ms) := by
  refine PS.imp (ps_par hc hN hi hj hij hx hy ha hw hs) fun N σ H h => ?_
  obtain ⟨ρ, Z, S, F, s, h⟩ := h
  refine ⟨ρ, Z, S, F, s, ?_⟩
  unfold sPar at h
  revert h
  cases ms ρ with
  | stuck => exact fun h => h
  | exc z ρ1 => exact fun h c dd H1 Z1 F1 y => h c dd σ H1 Z1 F1 ⟨y.sta, y.exc, y.go, y.kp.keep⟩
  | ok ds ρ1 =>
    intro h vs H1 Z1 F1 G ok
    rw [R.bindS_ok] at h
    split at h
    case h_2 => exact h.elim
    rename_i p r
    split at h
    case h_2 => exact h.elim
    rename_i ρ2 hb
    have hv := ok.val
    simp only [reps] at hv
    obtain ⟨v, w, F3, F4, e, _, _, _, r1, v', w', F5, F6, e', _, _, _, r2, e3⟩ := hv
    subst e3
    subst e'
    subst e
    refine ⟨v, v', Eq.refl _, ?_⟩
    have cp : conPs X.K Z1 H1 [p, r] [v, v'] := by simp only [conPs]; exact ⟨v, _, rfl, rep_imm r1, v', _, rfl, rep_imm r2, rfl⟩
    have g := bindN_ok (pm := ⟨X.K, X.mg, I⟩) (Q := N.nx) ok.sta cp hb fun σ' F' o _ => h σ' H1 Z1 F' ⟨o.sta, ?_, ok.kp.keep.trans o.keep⟩
    · obtain ⟨_, _, e1, _, _, e2, e3, hq⟩ := g
      cases e1
      cases e2
      exact hq
    · exact ok.go.less fun a t => (o.sub a t).elim .inl False.elim
end

/-! ### math.lcm -/
def okLcm (a b : Int) : Bool := decide (a.natAbs < 2 ^ 6000) && decide (b.natAbs < 2 ^ 6000)
def cLcm : List D → Option D
  | [.imm (.int a), .imm (.int b)] => if okLcm a b = true then some (.imm (.int ((Nat.lcm a.natAbs b.natAbs : Nat) : Int))) else none
  | _ => none
def rLcm : List V → Hp → VK → Prop := fun vs H Q => ∃ a b : Int, vs = [.int a, .int b] ∧ okLcm a b = true ∧ Q (.int ((Nat.lcm a.natAbs b.natAbs : Nat) : Int)) H
theorem lg_lt {n k : Nat} (h : n < 2 ^ k) : n.log2 < k + 1 := by
  by_cases e : n = 0
  · subst e
    simp
  · have := (Nat.log2_lt e).mpr h
    omega
theorem cr_lcm {X : Cx} : CallR X (.builtin "math.lcm") rLcm := by
  intro pins s σ H vs us Q I r h
  obtain ⟨a, b, rfl, hk, q⟩ := h
  obtain ⟨t, u, rfl⟩ := Vals.int2 r
  have ha : a.natAbs < 2 ^ 6000 := of_decide_eq_true (and_l hk)
  have hb : b.natAbs < 2 ^ 6000 := of_decide_eq_true (and_r hk)
  have one : (1 : Nat) < 2 ^ 6000 := Nat.one_lt_two_pow (by decide)
  have m1 : (max 1 a.natAbs).log2 < 6001 := lg_lt (by omega)
  have m2 : (max a.natAbs b.natAbs).log2 < 6001 := lg_lt (by omega)
  have e1 : Nat.lcm 1 a.natAbs = a.natAbs := PySem.W.mc_lcm_one _
  have ml : (a.natAbs.lcm b.natAbs) < 2 ^ 12000 := by
    refine Nat.lt_of_le_of_lt (PySem.W.mc_lcm_le _ _) ?_
    have := Nat.mul_lt_mul'' ha hb
    rwa [← Nat.pow_add] at this
  have m3 : (a.natAbs.lcm b.natAbs).log2 < 12001 := lg_lt ml
  have bl : (12001 : Nat) < bitsLine := by decide
  have hsz : ((((Nat.lcm 1 a.natAbs).lcm b.natAbs : Nat) : Int)).natAbs.log2 < bitsLine := by
    rw [e1]
    show (a.natAbs.lcm b.natAbs).log2 < bitsLine
    omega
  refine call_function_meets PySem.W.MGF.kind_lcm PySem.W.MGF.plain_lcm PySem.W.MGF.entry_lcm (PySem.W.MGF.args_lcm _ _) (PySem.W.mg_run_lcm a t b u (by omega) (by omega) hsz).meets ?_
  refine ⟨.int _, H, I.tok _, ⟨_, rfl⟩, ?_⟩
  rw [e1]
  exact q
theorem cd_lcm {K : PySem.W.Frag} : CallD K rLcm cLcm := fun Z H ds d vs Q w h fr => by
  unfold cLcm at h
  split at h
  · split at h
    · rename_i hc
      cases h
      obtain ⟨x, y, e, r1, r2⟩ := vws2 w
      exact ⟨_, _, by rw [e, rep_int r1, rep_int r2], hc, fr.here conP_int⟩
    · cases h
  · cases h
end MV

set_option Elab.async false
set_option linter.all false
set_option maxRecDepth 100000
set_option maxHeartbeats 4000000
/-! MV19: three names at once; is True, is False. -/
namespace MV
open PySem L2 PyProof.Rows

/-! ### x, y, z = a, b, c -/
def sPar3 (i j l : Nat) (ms : MA) : MS := fun ρ => (ms ρ).bindS fun ds ρ1 => match ds with
  | [.imm p, .imm q, .imm r] => (match bindN [i, j, l] [p, q, r] ρ1 with
    | some ρ2 => .nx ρ2
    | none => .stuck)
  | _ => .stuck
section
variable {X : Cx} {I : Option (Addr × Value × Option Addr)} {W : WX} {q : Bool} {pos px py pz pt pt2 pos' : Pos} {a b c : Expr} {ms : MA} {kt k2 j : Nat} {m : ME}
theorem DS.par3 (i j l : Nat) {x y z : Str} (hc : X.calm = true) (hN : X.N.Nodup) (ha : DA X I W q [a, b, c] ms) (hi : X.N[i]? = some x := by rfl) (hj : X.N[j]? = some y := by rfl) (hl : X.N[l]? = some z := by rfl) (hij : i ≠ j := by decide) (hil : i ≠ l := by decide) (hjl : j ≠ l := by decide)
    (hx : X.env.scope.names.lookup x = some .local := by rfl) (hy : X.env.scope.names.lookup y = some .local := by rfl) (hz : X.env.scope.names.lookup z = some .local := by rfl)
    (hw : swappedStores [.Tuple [.Name x px, .Name y py, .Name z pz] kt pt] (.Tuple [a, b, c] k2 pt2) X.env = pure (some [x, y, z]) := by rfl)
    (hs : swapsWithSole [.Tuple [.Name x px, .Name y py, .Name z pz] kt pt] (.Tuple [a, b, c] k2 pt2) pos.line X.env = pure false := by rfl) :
    DS X I W (.Assign [.Tuple [.Name x px, .Name y py, .Name z pz] kt pt] (.Tuple [a, b, c] k2 pt2) pos) (sPar3 i j l ms) := by
  refine PS.imp (ps_par3 hc hN hi hj hl hij hil hjl hx hy hz ha hw hs) fun N σ H h => ?_
  obtain ⟨ρ, Z, S, F, s, h⟩ := h
  refine ⟨ρ, Z, S, F, s, ?_⟩
  unfold sPar3 at h
  revert h
  cases ms ρ with
  | stuck => exact fun h => h
  | exc z ρ1 => exact fun h c dd H1 Z1 F1 y => h c dd σ H1 Z1 F1 ⟨y.sta, y.exc, y.go, y.kp.keep⟩
  | ok ds ρ1 =>
    intro h vs H1 Z1 F1 G ok
    rw [R.bindS_ok] at h
    split at h
    case h_2 => exact h.elim
    rename_i p r t
    split at h
    case h_2 => exact h.elim
    rename_i ρ2 hb
    have hv := ok.val
    simp only [reps] at hv
    obtain ⟨v, w, F3, F4, e, _, _, _, r1, v', w', F5, F6, e', _, _, _, r2, v2, w2, F7, F8, e2, _, _, _, r3, e3⟩ := hv
    subst e3
    subst e2
    subst e'
    subst e
    refine ⟨v, v', v2, Eq.refl _, ?_⟩
    have cp : conPs X.K Z1 H1 [p, r, t] [v, v', v2] := by simp only [conPs]; exact ⟨v, _, rfl, rep_imm r1, v', _, rfl, rep_imm r2, v2, _, rfl, rep_imm r3, rfl⟩
    have g := bindN_ok (pm := ⟨X.K, X.mg, I⟩) (Q := N.nx) ok.sta cp hb fun σ' F' o _ => h σ' H1 Z1 F' ⟨o.sta, ?_, ok.kp.keep.trans o.keep⟩
    · obtain ⟨_, _, e1, _, _, e2, _, _, e4, e3, hq⟩ := g
      cases e1
      cases e2
      cases e4
      exact hq
    · exact ok.go.less fun a t => (o.sub a t).elim .inl False.elim

/-! ### is True, is False -/
def fIsB : D → D → Option D
  | .imm (.bl a), .imm (.bl b) => some (.imm (.bl (decide (a = b))))
  | _, _ => none
def fNotB : D → D → Option D
  | .imm (.bl a), .imm (.bl b) => some (.imm (.bl (!decide (a = b))))
  | _, _ => none
theorem opd_isB {K : PySem.W.Frag} : OpD K rIsB fIsB := fun Z H d1 d2 d x y Q c1 c2 h fr => by
  unfold fIsB at h
  split at h
  · cases h
    exact ⟨_, _, rep_bl c1, rep_bl c2, fr.here conP_bl⟩
  · cases h
theorem opd_notB {K : PySem.W.Frag} : OpD K rNotB fNotB := fun Z H d1 d2 d x y Q c1 c2 h fr => by
  unfold fNotB at h
  split at h
  · cases h
    exact ⟨_, _, rep_bl c1, rep_bl c2, fr.here conP_bl⟩
  · cases h
end
end MV

set_option Elab.async false
set_option linter.all false
set_option maxRecDepth 100000
set_option maxHeartbeats 4000000
/-! MV20: in, not in of anything; a list's repetition. -/
namespace MV
open PySem L2 PyProof.Rows

/-- a sequence's items, of any kind of sequence -/
def seqP : D → Option (List P)
  | .imm (.tup ps) => some ps
  | .imm (.lst ps) => some ps
  | .lst ds => allImm ds
  | _ => none
theorem seqP_ok {K : PySem.W.Frag} {Z F : AS} {H : Hp} {d : D} {v : V} {ps : List P} (r : rep false K Z H d v F) (h : seqP d = some ps) : ∃ a vs, v = .ref a ∧ (SqL K H a vs ∨ SqT K H a vs) ∧ conPs K Z H ps vs := by
  have viaL : seqL d = some ps → ∃ a vs, v = .ref a ∧ (SqL K H a vs ∨ SqT K H a vs) ∧ conPs K Z H ps vs := fun h => by
    obtain ⟨a, vs, e, s, c⟩ := seqL_ok r h
    exact ⟨a, vs, e, .inl s, c⟩
  cases d with
  | imm p => cases p with
    | tup qs =>
      simp only [seqP] at h
      cases h
      obtain ⟨a, vs, e, s, c⟩ := rep_tup r
      exact ⟨a, vs, e, .inr s, c⟩
    | lst qs => exact viaL h
    | _ => simp only [seqP] at h; cases h
  | lst ds => exact viaL h
  | dct _ _ => simp only [seqP] at h; cases h
def flatP : P → Bool
  | .non => true
  | .bl _ => true
  | .int _ => true
  | .str _ => true
  | _ => false
def eqPf : P → P → Bool
  | .non, .non => true
  | .bl a, .bl b => a == b
  | .bl a, .int b => (if a then 1 else 0) == b
  | .int a, .bl b => a == (if b then 1 else 0)
  | .int a, .int b => a == b
  | .str a, .str b => a == b
  | _, _ => false
theorem flat_ok {K : PySem.W.Frag} {Z : AS} {H : Hp} {p : P} {v : V} (c : conP K Z H p v) (h : flatP p = true) : flatV v = true := by
  cases p <;> first | (simp only [conP] at c; subst c; rfl) | (simp [flatP] at h)
theorem eqPf_ok {K : PySem.W.Frag} {Z : AS} {H : Hp} {p q : P} {v w : V} (c : conP K Z H p v) (c' : conP K Z H q w) (h : flatP p = true) (h' : flatP q = true) : eqV v w = eqPf p q := by
  cases p <;> first | (simp [flatP] at h; done) | (cases q <;> first | (simp [flatP] at h'; done) | (simp only [conP] at c c'; subst c c'; rfl))
theorem flats_ok {K : PySem.W.Frag} {Z : AS} {H : Hp} {p : P} {v : V} (c : conP K Z H p v) (h : flatP p = true) : ∀ {ps : List P} {vs : List V}, conPs K Z H ps vs → ps.all flatP = true → vs.all flatV = true ∧ inV v vs = ps.any fun q => eqPf q p
  | [], vs, c1, _ => by have := c1.nil; subst this; exact ⟨rfl, rfl⟩
  | q :: ps, vs, c1, h1 => by
    simp only [conPs] at c1
    obtain ⟨w, r, e, c2, c3⟩ := c1
    subst e
    rw [List.all_cons] at h1
    obtain ⟨h2, h3⟩ := Bool.and_eq_true_iff.mp h1
    obtain ⟨a1, a2⟩ := flats_ok c h c3 h3
    unfold inV at a2 ⊢
    rw [List.all_cons, List.any_cons, List.any_cons, a1, a2, flat_ok c2 h2, eqPf_ok c2 c h2 h]
    exact ⟨rfl, rfl⟩
theorem conPs.dps {K : PySem.W.Frag} {Z : AS} {H : Hp} {ps : List P} {vs : List V} (c : conPs K Z H ps vs) (h : SeqAt.shaped (.list (toPys ps)) = true) : DpAll K H vs (toPys ps) :=
  conPs.dp c (by have := SeqAt.canLay_of_shaped h; simpa [PyData.canLay0] using this)
def deepIn (p : P) (ps : List P) : Bool := (toPys ps).any fun z => PyData.eqv z (toPy p)
/-- is a in b -/
def inD (a b : D) : Option Bool := match hasK a b with
  | some c => some c
  | none => match a, b with
    | .imm (.str x), .imm (.str z) => (match x.cps.toList with
      | [c] => some (decide (c ∈ z.cps.toList))
      | _ => none)
    | .imm p, d => (match seqP d with
      | some ps => if flatP p = true ∧ ps.all flatP = true then some (ps.any fun q => eqPf q p)
        else (match seqL d with
          | some ps => if SeqAt.shaped (toPy p) = true ∧ SeqAt.shaped (.list (toPys ps)) = true then some (deepIn p ps) else none
          | none => none)
      | none => none)
    | _, _ => none
def fIn5 (a b : D) : Option D := (inD a b).map fun c => .imm (.bl c)
def fNotIn5 (a b : D) : Option D := (inD a b).map fun c => .imm (.bl (!c))
theorem op_dinR {X : Cx} (hu : X.A.units + 1 < cLine) : OpR X (compareOp .In) rDIn := by
  intro pins s σ H x y v u Q I rx ry h
  obtain ⟨a, o, rfl, g, q⟩ := h
  obtain rfl : u = Value.ref a := ry
  exact d_in hu I g rx fun s3 I3 => ⟨.bl o.isSome, H, I3, rfl, q⟩
theorem op_dninR {X : Cx} (hu : X.A.units + 1 < cLine) : OpR X (compareOp .NotIn) rDNotIn := by
  intro pins s σ H x y v u Q I rx ry h
  obtain ⟨a, o, rfl, g, q⟩ := h
  obtain rfl : u = Value.ref a := ry
  exact d_notIn hu I g rx fun s3 I3 => ⟨.bl (!o.isSome), H, I3, rfl, q⟩
def rSgn (neg : Bool) : R2 := fun x y H Q => ∃ (c : Nat) (z : Str), x = .str ⟨#[c]⟩ ∧ y = .str z ∧ Q (.bl (if neg then !decide (c ∈ z.cps.toList) else decide (c ∈ z.cps.toList))) H
def rDp (K : PySem.W.Frag) (neg : Bool) : R2 := fun x y H Q => ∃ d ds, Dp K H x d ∧ Dp K H y (.list ds) ∧ SeqAt.shaped d = true ∧ SeqAt.shaped (.list ds) = true ∧ Q (.bl (if neg then !ds.any fun z => PyData.eqv z d else ds.any fun z => PyData.eqv z d)) H
def rIn5 (K : PySem.W.Frag) : R2 := fun x y H Q => ((rDIn x y H Q ∨ rSgn false x y H Q) ∨ rIn K false x y H Q) ∨ rDp K false x y H Q
def rNotIn5 (K : PySem.W.Frag) : R2 := fun x y H Q => ((rDNotIn x y H Q ∨ rSgn true x y H Q) ∨ rIn K true x y H Q) ∨ rDp K true x y H Q
theorem op_in5 {X : Cx} (hu : X.A.units + 65 < cLine) : OpR X (compareOp .In) (rIn5 X.K) :=
  (((op_dinR (by omega)).or op_in_sign).or op_in_seq).or (op_inD hu)
theorem op_notIn5 {X : Cx} (hu : X.A.units + 65 < cLine) : OpR X (compareOp .NotIn) (rNotIn5 X.K) :=
  (((op_dninR (by omega)).or op_notIn_sign).or op_notIn_seq).or (op_notInD hu)
theorem inD_ok {K : PySem.W.Frag} {Z : AS} {H : Hp} {d1 d2 : D} {x y : V} {c : Bool} (c1 : rep false K Z H d1 x (fun _ => True)) (c2 : rep false K Z H d2 y (fun _ => True)) (h : inD d1 d2 = some c) :
    (∃ a o, y = .ref a ∧ DGet H a x o ∧ o.isSome = c) ∨ (∃ (k : Nat) (z : Str), x = .str ⟨#[k]⟩ ∧ y = .str z ∧ decide (k ∈ z.cps.toList) = c) ∨ (∃ p xs, y = .ref p ∧ (SqL K H p xs ∨ SqT K H p xs) ∧ flatV x = true ∧ xs.all flatV = true ∧ inV x xs = c) ∨
    (∃ d ds, Dp K H x d ∧ Dp K H y (.list ds) ∧ SeqAt.shaped d = true ∧ SeqAt.shaped (.list ds) = true ∧ (ds.any fun z => PyData.eqv z d) = c) := by
  unfold inD at h
  split at h
  · rename_i hk
    cases h
    exact .inl (hasK_ok c1 c2 hk)
  · split at h
    · rename_i sx sz _
      split at h
      · rename_i k hc
        cases h
        refine .inr (.inl ⟨k, sz, ?_, rep_str c2, rfl⟩)
        rw [rep_str c1]
        congr 1
        cases sx with
        | mk cps =>
          simp only at hc
          congr 1
          rw [← hc]
      · cases h
    · rename_i p _ _
      split at h
      · rename_i ps hp
        split at h
        · rename_i hf
          cases h
          obtain ⟨a, vs, e, s, c⟩ := seqP_ok c2 hp
          obtain ⟨a1, a2⟩ := flats_ok (rep_imm c1) hf.1 c hf.2
          exact .inr (.inr (.inl ⟨a, vs, e, s, flat_ok (rep_imm c1) hf.1, a1, a2⟩))
        · split at h
          · rename_i ps2 hp2
            split at h
            · rename_i hs
              cases h
              obtain ⟨a, vs, e, s, c⟩ := seqL_ok c2 hp2
              subst e
              exact .inr (.inr (.inr ⟨_, toPys ps2, (rep_imm c1).dp (SeqAt.canLay_of_shaped hs.1), .lst s (c.dps hs.2), hs.1, hs.2, rfl⟩))
            · cases h
          · cases h
      · cases h
    · cases h
theorem opd_in5 {K : PySem.W.Frag} : OpD K (rIn5 K) fIn5 := fun Z H d1 d2 d x y Q c1 c2 h fr => by
  obtain ⟨c, hc, e⟩ := Option.map_eq_some_iff.mp h
  subst e
  rcases inD_ok c1 c2 hc with ⟨a, o, e1, e2, e3⟩ | ⟨k, z, e1, e2, e3⟩ | ⟨p, xs, e1, e2, e3, e4, e5⟩ | ⟨d', ds, e1, e2, e3, e4, e5⟩
  · exact .inl (.inl (.inl ⟨a, o, e1, e2, by rw [e3]; exact fr.here conP_bl⟩))
  · exact .inl (.inl (.inr ⟨k, z, e1, e2, by rw [e3]; exact fr.here conP_bl⟩))
  · exact .inl (.inr ⟨p, xs, e1, e2, e3, e4, by rw [e5]; exact fr.here conP_bl⟩)
  · exact .inr ⟨d', ds, e1, e2, e3, e4, by rw [e5]; exact fr.here conP_bl⟩
theorem opd_notIn5 {K : PySem.W.Frag} : OpD K (rNotIn5 K) fNotIn5 := fun Z H d1 d2 d x y Q c1 c2 h fr => by
  obtain ⟨c, hc, e⟩ := Option.map_eq_some_iff.mp h
  subst e
  rcases inD_ok c1 c2 hc with ⟨a, o, e1, e2, e3⟩ | ⟨k, z, e1, e2, e3⟩ | ⟨p, xs, e1, e2, e3, e4, e5⟩ | ⟨d', ds, e1, e2, e3, e4, e5⟩
  · exact .inl (.inl (.inl ⟨a, o, e1, e2, by rw [e3]; exact fr.here conP_bl⟩))
  · exact .inl (.inl (.inr ⟨k, z, e1, e2, by rw [e3]; exact fr.here conP_bl⟩))
  · exact .inl (.inr ⟨p, xs, e1, e2, e3, e4, by rw [e5]; exact fr.here conP_bl⟩)
  · exact .inr ⟨d', ds, e1, e2, e3, e4, by rw [e5]; exact fr.here conP_bl⟩

theorem room65 {A : Around} {k : Nat} (hr : Room k A) : A.units + 65 < cLine := by have := hr.un; omega

/-! ### xs * k -/
def repP (n : Nat) (ps : List P) : List P := (List.replicate n ps).flatten
def fRep : D → D → Option D
  | .lst ds, .imm (.int k) => (match allImm ds with
    | some ps => if ps.length * k.toNat ≤ sizeLine ∧ (-(2 ^ 62) < k ∧ k < 2 ^ 62) then some (.lst ((repP k.toNat ps).map .imm)) else none
    | none => none)
  | _, _ => none
theorem conPs.rep {K : PySem.W.Frag} {Z : AS} {H : Hp} {ps : List P} {vs : List V} (c : conPs K Z H ps vs) : ∀ n : Nat, conPs K Z H (repP n ps) (List.replicate n vs).flatten
  | 0 => by simp [repP, conPs]
  | n + 1 => by
    have := conPs.rep c n
    unfold repP at this ⊢
    rw [List.replicate_succ, List.replicate_succ, List.flatten_cons, List.flatten_cons]
    exact c.append this
theorem opd_rep {K : PySem.W.Frag} : OpD K rRep fRep := fun Z H d1 d2 d x y Q c1 c2 h fr => by
  unfold fRep at h
  split at h
  · rename_i ds k
    split at h
    · rename_i ps hp
      split at h
      · rename_i hc
        cases h
        simp only [MV.rep] at c1
        obtain ⟨a, vs, e, _, h1, h2⟩ := c1
        have cp := allImm_ok hp h2
        refine ⟨a, k, vs, e, rep_int c2, h1.at, by omega, by omega, by rw [← cp.length]; exact hc.1, fun l hl => fr.lst (reps_imm (cp.rep _)) (fun _ z => z) hl⟩
      · cases h
    · cases h
  · cases h
end MV

set_option Elab.async false
set_option linter.all false
set_option maxRecDepth 100000
set_option maxHeartbeats 4000000
/-! MV21: dict comprehensions, keys ints and texts. -/
namespace L2
open PySem PySem.Spec PyProof.Rows
variable {X : Cx}
theorem ps_setDc {i : Nat} {y : Str} {py : Pos} {kx vx tg iter : Expr} {ifs : List Expr} {scope : Scope} {own : List (Str × Nat)} {pos spos : Pos} {wi : TI} {g : TG} {tt : TT} {tk tv : TE} (hc : X.calm = true) (hN : X.N.Nodup) (hy : X.N[i]? = some y) (hyl : X.env.scope.names.lookup y = some .local)
    (hsw : swapsWith (.DictComp kx vx [⟨tg, iter, ifs, 0⟩] scope pos) (some (.Name y py)) spos.line X.env = pure true) (hi : PI X tg iter wi) (ok : BlkOk X.N X.env.scope scope own)
    (hg : ∀ (s : Shared) (H : Hp) (C : Addr) (cl : List (Str × Addr)) (fp : List Addr), PG (X.blk s H scope (compEnvC scope cl C X.env) fp) tg g) (ht : ∀ (s : Shared) (H : Hp) (C : Addr) (cl : List (Str × Addr)) (fp : List Addr), PTs (X.blk s H scope (compEnvC scope cl C X.env) fp) ifs tt)
    (hk : ∀ (s : Shared) (H : Hp) (C : Addr) (cl : List (Str × Addr)) (fp : List Addr), PE (X.blk s H scope (compEnvC scope cl C X.env) fp) kx tk)
    (he : ∀ (s : Shared) (H : Hp) (C : Addr) (cl : List (Str × Addr)) (fp : List Addr), PE (X.blk s H scope (compEnvC scope cl C X.env) fp) vx tv) (hs : ∀ x, foldedSetIterable iter X.env x = pure x := by intro _; rfl) :
    PS X (.Assign [.Name y py] (.DictComp kx vx [⟨tg, iter, ifs, 0⟩] scope pos) spos) (tAsg (tDc wi g tt tk tv (own.map (·.2))) (gName i)) := by
  refine ⟨fun pins s σ H D I h => ?_⟩
  rw [exec_Assign_Name_used _ _ _ _ hsw]
  refine wpAny_bind (wpAny_standAt (wpAny_bind ?_))
  show wpAny _ X.A (do let _ ← comprehension (.DictComp kx vx [⟨tg, iter, ifs, 0⟩] scope pos) scope X.env (firstIterPos [⟨tg, iter, ifs, 0⟩] pos) newDict false (eval iter X.env) (some (assign (.Name y py) X.env))) _ _ s
  have h : tDc wi g tt tk tv (own.map (·.2)) σ H (fun x H1 => gName i x σ H1 D.nx) := h
  refine wpAny_bind (thn (dc_core (Qf := fun _ s' => SP X pins D .next s') hc hN I hi ok hg ht hk he hs h fun L C s' m H' I' q hn f => ?_) fun _ s' hq => wpAny_pure (wpAny_pure hq))
  show wpAny _ _ (assign (.Name y py) X.env (.ref L)) _ _ _
  refine wpAny_assign_Name (store_ok2 (v := V.ref L) I' hN hy (.inl hyl) rfl (fun s2 I2 ⟨a, sb, ha⟩ => ?_) (.inr hyl))
  obtain ⟨f0, f1, f2, f3, f4, f5⟩ := f
  have haC : C ≠ a := by
    rcases ha with z | z
    · rw [z]; exact f1
    · exact fun e => f4 y a z e.symm
  refine ⟨m, hn.sameBut sb haC, fun h3 sb3 => ?_⟩
  exact ⟨_, H', I2.turned (t' := s2.toks) (fun b o hb e => (sb3.2 b hb).trans e) f0 f1 f3 f4 f5, q⟩
theorem sw_trueD {kx vx : Expr} {gs : List Comprehension} {scope : Scope} {pos py : Pos} {y : Str} {l : Nat} {env : Env} (hk : env.scope.kind = .function) (hy : env.scope.names.lookup y = some .local) (hl : (py.line == pos.line) = true)
    (ha : (scope.names.any fun (n, k) => n == y && (k == .local || k == .cell)) = false) : swapsWith (.DictComp kx vx gs scope pos) (some (.Name y py)) l env = pure true := by
  have ky : env.kindOf y = some .local := hy
  have hb : env.blockKind = .function := by unfold Env.blockKind; rw [hk]; rfl
  unfold swapsWith
  simp only [hb, ky, ha, Expr.pos, hl]
  rfl
end L2
namespace MV
open PySem L2 PyProof.Rows
section
variable {X : Cx} {I : Option (Addr × Value × Option Addr)} {W : WX} {q : Bool} {pos : Pos} {pm : Par} {σ : L2.St} {H : Hp}
def dcL (tg : Tg) (vs : List Nat) (t : MT) (k m : ME) : List P → List P → List D → Sl → R (List P × List D)
  | [], ks, acc, ρ => .ok (ks, acc) ρ
  | p :: ps, ks, acc, ρ => match bindG tg (.imm p) ρ with
    | none => .stuck
    | some ρ1 => (t ρ1).bind fun b ρ2 => if b = true then ((k ρ2).bind fun kv ρ3 => match kv with
      | .own (.imm kp) => if (keyOf kp).isSome = true then ((m ρ3).bind fun v ρ4 => match v with
        | .own d => if ks.length < sizeLine then dcL tg vs t k m ps (putKs ks kp) (putD ks acc kp d) (wipeS ρ4 vs) else .stuck
        | .bor _ _ => .stuck) else .stuck
      | _ => .stuck) else dcL tg vs t k m ps ks acc (wipeS ρ2 vs)
structure OkD (pm : Par) (S : AS) (σw : L2.St) (Hs : Hp) (Zs : AS) (Fs : FA) (ρw : Sl) (Dl : Addr) (ks : List P) (acc : List D) (ρ : Sl) (H : Hp) (Z : AS) (F : FA) (G : AS) : Prop where
  sta : Sta pm H Z S ρ σw F
  acc : ∃ (kk : List Key) (vs : List V), ks = kk.map ofKey ∧ kk.length = vs.length ∧ kk.Nodup ∧ H Dl = some (.dK (kk.zip vs)) ∧ reps true pm.K Z H acc vs (fun b => G b ∧ b ≠ Dl)
  gD : G Dl
  dis : ∀ a, G a → Own H a ∧ ¬ Z a ∧ ¬ S a ∧ ¬ un F a
  go : Go Hs Zs (un Fs) H Z (fun a => un F a ∨ G a)
  kp : KeepE ρw ρ
def postD (pm : Par) (S : AS) (σw : L2.St) (Hs : Hp) (Zs : AS) (Fs : FA) (ρw : Sl) (Dl : Addr) (Q : VK) : R (List P × List D) → Prop
  | .ok acc ρ => ∀ H Z F G, OkD pm S σw Hs Zs Fs ρw Dl acc.1 acc.2 ρ H Z F G → Q (.ref Dl) H
  | _ => False
theorem dcL_ok {S : AS} {J : It} {ps : List P} {Hst : AS → Hp → Prop} {tg : Tg} {vs : List Nat} {t : MT} {k m : ME} {qt qk : Bool} {Hs : Hp} {Zs : AS} {Fs : FA} {ρ0 : Sl} {Q : VK} (st : Stands pm.K J ps Hst)
    (stay : ∀ Z H Z' H', Hst Z H → StaysF Z S H H' → (∀ a, Z a → Z' a) → Hst Z' H') (s : Sta pm Hs Zs S ρ0 σ Fs) (h0 : Hst Zs Hs) (hv : ∀ i ∈ tg.slots, i ∈ vs) {Dl : Addr} (hD : Hs Dl = none)
    (h : postD pm S (L2.wipe σ vs) Hs Zs Fs (wipeS ρ0 vs) Dl Q (dcL tg vs t k m ps [] [] (wipeS ρ0 vs))) :
    ∃ Wf : Nat → Nat → Hp → Prop, (∃ m, Wf 0 m (upd Hs Dl (.dK []))) ∧ ∀ i mm H, Wf i mm H →
      (J.stop i H ∧ Q (.ref Dl) H) ∨ (J.go i H ∧ ∃ Nx : Hp → Prop, (∀ H', Nx H' → ∃ m', m' < mm ∧ Wf (i + 1) m' H') ∧ ∀ x H', J.yld i H x H' → tG pm.K tg x (L2.wipe σ vs) H' fun σ2 H2 => L2.wipe σ2 vs = L2.wipe σ vs ∧ tT pm W0 qt t σ2 H2 fun b H3 =>
        if b = true then tE pm W0 qk k σ2 H3 fun y H4 => tE pm W0 q m σ2 H4 fun z H5 => ∃ kvs k, y = kV k ∧ H5 Dl = some (.dK kvs) ∧ kvs.length < sizeLine ∧ Nx (upd H5 Dl (.dK (putK kvs k z))) else Nx H3) := by
  have ex0 := Ex.new (o := .dK []) hD
  have start : OkD pm S (L2.wipe σ vs) Hs Zs Fs (wipeS ρ0 vs) Dl [] [] (wipeS ρ0 vs) (upd Hs Dl (.dK [])) Zs Fs (fun a => a = Dl) := by
    refine ⟨s.wipe.ex ex0, ⟨[], [], rfl, rfl, List.nodup_nil, upd_same, by simp only [reps]⟩, rfl, fun a e => ?_, ⟨fun a o e _ => ex0 a o e, fun _ z => z, fun _ z => .inl z, fun a z => z.elim .inl fun e => .inr (by rw [e]; exact hD), fun a z => ex0.ne (s.dm a z)⟩, KeepE.rfl⟩
    subst e
    exact ⟨⟨_, upd_same, True.intro⟩, s.fresh_none hD⟩
  refine ⟨fun i mm H => mm = ps.length - i ∧ i ≤ ps.length ∧ ∃ ks acc ρ Z F G, OkD pm S (L2.wipe σ vs) Hs Zs Fs (wipeS ρ0 vs) Dl ks acc ρ H Z F G ∧ Hst Z H ∧ postD pm S (L2.wipe σ vs) Hs Zs Fs (wipeS ρ0 vs) Dl Q (dcL tg vs t k m (ps.drop i) ks acc ρ),
    ⟨ps.length, by simp, Nat.zero_le _, [], [], _, Zs, Fs, _, start, stay Zs Hs Zs _ h0 ex0.staysF fun _ z => z, h⟩, ?_⟩
  rintro i mm H ⟨rfl, hi, ks, acc, ρ, Z, F, G, ok, hh, h⟩
  by_cases hlt : i < ps.length
  · refine .inr ⟨st.go Z i H hh hlt, fun H' => ∃ ks acc ρ Z F G, OkD pm S (L2.wipe σ vs) Hs Zs Fs (wipeS ρ0 vs) Dl ks acc ρ H' Z F G ∧ Hst Z H' ∧ postD pm S (L2.wipe σ vs) Hs Zs Fs (wipeS ρ0 vs) Dl Q (dcL tg vs t k m (ps.drop (i + 1)) ks acc ρ), fun H' z => ⟨ps.length - (i + 1), by omega, rfl, hlt, z⟩, fun x H' hy => ?_⟩
    obtain ⟨e, p, hp, c⟩ := st.yld Z i H x H' hh hlt hy
    subst e
    have ed : ps.drop i = p :: ps.drop (i + 1) := by
      obtain ⟨l, e⟩ := List.getElem?_eq_some_iff.mp hp
      rw [List.drop_eq_getElem_cons l, e]
    rw [ed] at h
    simp only [dcL] at h
    split at h
    case h_1 => exact h.elim
    rename_i ρ1 hb
    refine bindG_ok ok.sta (valR.imm c) hb fun σ2 F2 o out => ⟨(out (fun τ => L2.wipe τ vs) fun i hi x τ => wipe_set i (hv i hi) x τ).trans wipe_wipe, ρ1, Z, S, F2, o.sta, ?_⟩
    have ew : L2.wipe σ2 vs = L2.wipe σ vs := (out (fun τ => L2.wipe τ vs) fun i hi x τ => wipe_set i (hv i hi) x τ).trans wipe_wipe
    have sub2 : ∀ a, un F2 a → un F a := fun a z => (o.sub a z).elim id False.elim
    revert h
    cases t ρ1 with
    | stuck => exact fun h => h.elim
    | exc y ρ2 => exact fun h => h.elim
    | ok b ρ2 =>
      intro h H3 Z3 F3 ok3
      rw [R.bind_ok] at h
      have h3 := held o.sta (fun a g => ⟨(ok.dis a g).1, (ok.dis a g).2.1, (ok.dis a g).2.2.1, fun z => (ok.dis a g).2.2.2 (sub2 a z)⟩) ok3.go
      have st3 : StaysF Z (fun a => G a ∨ S a) H' H3 := o.sta.go_staysF ok3.go fun a z => z.elim (fun g z => (ok.dis a g).2.2.2 (sub2 a z)) fun z ⟨j, y⟩ => (o.sta.own j a y).2.2 z
      have go3 : Go Hs Zs (un Fs) H3 Z3 (fun a => un F3 a ∨ G a) := ok.go.cut ok3.go (fun a z => .inl (sub2 a z)) fun a z => z.elim .inl fun g => .inr (.inr g)
      obtain ⟨kk, us, ek, hlen, hnd, hD1, hacc⟩ := ok.acc
      have hD3 : H3 Dl = some (.dK (kk.zip us)) := st3 Dl _ hD1 (.inr (.inl (.inl ok.gD)))
      have acc3 : reps true pm.K Z3 H3 acc us (fun b => G b ∧ b ≠ Dl) := hacc.stay (st3.sub fun a z => .inl z.1) ok3.go.zm fun _ z => z
      have kp3 : KeepE (wipeS ρ0 vs) ρ2 := (ok.kp.trans o.keep.e).trans ok3.kp
      have hh3 : Hst Z3 H3 := stay Z H' Z3 H3 hh (st3.sub fun a z => .inr z) ok3.go.zm
      cases b with
      | false =>
        rw [if_neg Bool.false_ne_true] at h ⊢
        refine ⟨ks, acc, wipeS ρ2 vs, Z3, F3, G, ⟨?_, ⟨kk, us, ek, hlen, hnd, hD3, acc3⟩, ok.gD, h3, go3, kp3.wipe⟩, hh3, h⟩
        have := ok3.sta.wipe (vs := vs)
        rw [ew] at this
        exact this
      | true =>
        rw [if_pos rfl] at h ⊢
        refine ⟨ρ2, Z3, S, F3, ok3.sta, ?_⟩
        revert h
        cases k ρ2 with
        | stuck => exact fun h => h.elim
        | exc y ρ3 => exact fun h => h.elim
        | ok kv ρk =>
        intro h yk Hk Zk Fk Gk okk
        rw [R.bind_ok] at h
        split at h
        case h_2 => exact h.elim
        rename_i kp
        split at h
        case isFalse => exact h.elim
        rename_i hkp
        obtain ⟨kq, hkq⟩ := Option.isSome_iff_exists.mp hkp
        have ekq := keyOf_ok hkq
        subst ekq
        have ck := conP_key (rep_imm okk.val.1)
        subst ck
        have hk' := held ok3.sta h3 okk.go
        have hk : ∀ a, G a → Own Hk a ∧ ¬ Zk a ∧ ¬ S a ∧ ¬ un Fk a := fun a g => ⟨(hk' a g).1, (hk' a g).2.1, (hk' a g).2.2.1, fun z => (hk' a g).2.2.2 (.inl z)⟩
        have stk : StaysF Z3 (fun a => G a ∨ S a) H3 Hk := ok3.sta.go_staysF okk.go fun a z => z.elim (fun g => (h3 a g).2.2.2) fun z ⟨j, y⟩ => (ok3.sta.own j a y).2.2 z
        have gok : Go Hs Zs (un Fs) Hk Zk (fun a => un Fk a ∨ G a) := go3.cut (okk.go.less fun a t => .inl t) (fun a z => .inl z) fun a z => z.elim .inl fun g => .inr (.inr g)
        have hDk : Hk Dl = some (.dK (kk.zip us)) := stk Dl _ hD3 (.inr (.inl (.inl ok.gD)))
        have acck : reps true pm.K Zk Hk acc us (fun b => G b ∧ b ≠ Dl) := acc3.stay (stk.sub fun a z => .inl z.1) okk.go.zm fun _ z => z
        have hhk : Hst Zk Hk := stay Z3 H3 Zk Hk hh3 (stk.sub fun a z => .inr z) okk.go.zm
        refine ⟨ρk, Zk, S, Fk, okk.sta, ?_⟩
        revert h
        cases m ρk with
        | stuck => exact fun h => h.elim
        | exc y ρ3 => exact fun h => h.elim
        | ok val ρ3 =>
          intro h y H4 Z4 F4 G4 ok4
          rw [R.bind_ok] at h
          cases val with
          | bor d x => exact h.elim
          | own d =>
            have h : postD pm S (L2.wipe σ vs) Hs Zs Fs (wipeS ρ0 vs) Dl Q (if ks.length < sizeLine then dcL tg vs t k m (ps.drop (i + 1)) (putKs ks (ofKey kq)) (putD ks acc (ofKey kq) d) (wipeS ρ3 vs) else .stuck) := h
            split at h
            case isFalse => exact h.elim
            rename_i hz
            have h4 := held okk.sta hk ok4.go
            have st4 : StaysF Zk (fun a => G a ∨ S a) Hk H4 := okk.sta.go_staysF ok4.go fun a z => z.elim (fun g => (hk a g).2.2.2) fun z ⟨j, y⟩ => (okk.sta.own j a y).2.2 z
            have go4 : Go Hs Zs (un Fs) H4 Z4 (fun a => un F4 a ∨ (G a ∨ G4 a)) := gok.cut ok4.go (fun a z => .inl z) fun a z => by
              rcases z with z | z | z
              · exact .inl (.inl z)
              · exact .inr (.inr z)
              · exact .inl (.inr z)
            have hD4 : H4 Dl = some (.dK (kk.zip us)) := st4 Dl _ hDk (.inr (.inl (.inl ok.gD)))
            have acc4 : reps true pm.K Z4 H4 acc us (fun b => G b ∧ b ≠ Dl) := acck.stay (st4.sub fun a z => .inl z.1) ok4.go.zm fun _ z => z
            have nD : ∀ a, G4 a → a ≠ Dl := fun a g e => (h4 Dl ok.gD).2.2.2 (.inr (e ▸ g))
            obtain ⟨kk', vs', t1, t2, t3, t4, t5⟩ := put_val kq ok4.val.1 (fun b f g => (h4 b f.1).2.2.2 (.inr g)) hlen acc4 hnd
            have keepD : ∀ b u, b ≠ Dl → H4 b = some u → upd H4 Dl (.dK (kk'.zip vs')) b = some u := fun b u n e => by rw [upd_ne n]; exact e
            have stD : StaysF Z4 (fun a => a ≠ Dl) H4 (upd H4 Dl (.dK (kk'.zip vs'))) := fun b u e z => keepD b u (fun q => by
              subst q
              rcases z with z | z | z
              · exact (h4 b ok.gD).2.1 z
              · exact z rfl
              · rw [hD4] at e
                cases e
                exact z True.intro) e
            have s4 := (ok4.sta.wipe (vs := vs)).wr (a := Dl) (o := .dK (kk'.zip vs')) ⟨⟨_, hD4, True.intro⟩, (h4 Dl ok.gD).2.1, (h4 Dl ok.gD).2.2.1, fun z => (h4 Dl ok.gD).2.2.2 (.inl z)⟩ True.intro
            rw [ew] at s4
            subst ek
            refine ⟨kk.zip us, kq, rfl, hD4, ?_, putKs (kk.map ofKey) (ofKey kq), putD (kk.map ofKey) acc (ofKey kq) d, wipeS ρ3 vs, Z4, F4, fun a => G a ∨ G4 a, ⟨by rw [t4]; exact s4, ⟨kk', vs', t1, t2, t3, by rw [t4]; exact upd_same, ?_⟩, .inl ok.gD, fun a g => ?_, ?_, ((kp3.trans okk.kp).trans ok4.kp).wipe⟩, ?_, h⟩
            · rw [List.length_zip, ← hlen, Nat.min_self]
              rwa [List.length_map] at hz
            · rw [t4]
              exact t5.stay (stD.sub fun a z => z.elim (fun y => y.2) (nD a)) (fun _ z => z) fun a z => z.elim (fun y => ⟨.inl y.1, y.2⟩) fun y => ⟨.inr y, nD a y⟩
            · rw [t4]
              have own5 : Own (upd H4 Dl (.dK (kk'.zip vs'))) a := by
                by_cases e : a = Dl
                · subst e; exact ⟨_, upd_same, True.intro⟩
                · have : Own H4 a := g.elim (fun y => (h4 a y).1) fun y => (ok4.val.2 a y).1
                  obtain ⟨o', e', m'⟩ := this
                  exact ⟨o', keepD a o' e e', m'⟩
              rcases g with g | g
              · exact ⟨own5, (h4 a g).2.1, (h4 a g).2.2.1, fun z => (h4 a g).2.2.2 (.inl z)⟩
              · exact ⟨own5, (ok4.val.2 a g).2.1, (ok4.val.2 a g).2.2.1, (ok4.val.2 a g).2.2.2⟩
            · rw [t4]
              refine go4.cut (T1 := fun a => a = Dl) (T2 := fun a => a = Dl) ⟨fun a o e n => keepD a o n e, fun _ z => z, fun _ z => .inl z, fun _ z => .inl z, fun a z => by
                subst z; rw [upd_same]; exact fun z => nomatch z⟩ (fun a z => by subst z; exact .inr (.inl ok.gD)) fun a z => .inr z
            · rw [t4]
              refine stay Z4 H4 Z4 _ (stay Zk Hk Z4 H4 hhk (st4.sub fun a z => .inr z) ok4.go.zm) (stD.sub fun a z e => ?_) fun _ z => z
              subst e
              exact (h4 a ok.gD).2.2.1 z
  · have e : i = ps.length := by omega
    subst e
    rw [List.drop_length] at h
    exact .inl ⟨st.stop Z _ H hh (Nat.le_refl _), h H Z F G ok⟩
def dcEnd (ρ0 : Sl) (vs : List Nat) (r : R (List P × List D)) : R Val := match r with
  | .ok acc ρ => .ok (.own (.dct acc.1 acc.2)) (restS ρ ρ0 vs)
  | _ => .stuck
def dcE (tg : Tg) (vs : List Nat) (t : MT) (k m : ME) (ps : List P) : ME := fun ρ => if vs.all (fun v => plainS ρ[v]?) = true then dcEnd ρ vs (dcL tg vs t k m ps [] [] (wipeS ρ vs)) else .stuck
def dcK (tg : Tg) (vs : List Nat) (t : MT) (k m : ME) (ps : List P) : Option Nat → ME
  | none, ρ => dcE tg vs t k m ps ρ
  | some x, ρ => (match ρ[x]? with
    | some (.own d) => (dcE tg vs t k m ps (ρ.set x (.ro d))).mapE fun ρ => ρ.set x (.own d)
    | some (.pin d) => (dcE tg vs t k m ps (ρ.set x (.ro d))).mapE fun ρ => ρ.set x (.pin d)
    | _ => .stuck)
def eDc (tg : Tg) (vs : List Nat) (mi : MI) (t : MT) (k m : ME) : ME := fun ρ => (mi ρ).bind fun pl ρ1 => dcK tg vs t k m pl.1 pl.2 ρ1
structure OkWd (pm : Par) (S : AS) (σ : L2.St) (Hs : Hp) (Zs : AS) (Fs : FA) (ρ0 : Sl) (Dl : Addr) (acc : List P × List D) (ρ : Sl) (H : Hp) (Z : AS) (F : FA) (G : AS) : Prop where
  sta : Sta pm H Z S ρ σ F
  val : rep true pm.K Z H (.dct acc.1 acc.2) (.ref Dl) G
  dis : ∀ a, G a → Own H a ∧ ¬ Z a ∧ ¬ S a ∧ ¬ un F a
  go : Go Hs Zs (un Fs) H Z (fun a => un F a ∨ G a)
  kp : KeepE ρ0 ρ
theorem dcE_ok {S : AS} {J : It} {ps : List P} {Hst : AS → Hp → Prop} {tg : Tg} {vs : List Nat} {t : MT} {k m : ME} {qt qk : Bool} {Hs : Hp} {Zs : AS} {Fs : FA} {ρ0 : Sl} {Q : VK} (st : Stands pm.K J ps Hst)
    (stay : ∀ Z H Z' H', Hst Z H → StaysF Z S H H' → (∀ a, Z a → Z' a) → Hst Z' H') (s : Sta pm Hs Zs S ρ0 σ Fs) (h0 : Hst Zs Hs) (hv : ∀ i ∈ tg.slots, i ∈ vs) {Dl : Addr} (hD : Hs Dl = none)
    (h : match dcE tg vs t k m ps ρ0 with
      | .ok (.own (.dct ks acc)) ρ => ∀ H Z F G, OkWd pm S σ Hs Zs Fs ρ0 Dl (ks, acc) ρ H Z F G → Q (.ref Dl) H
      | _ => False) :
    ∃ Wf : Nat → Nat → Hp → Prop, (∃ m, Wf 0 m (upd Hs Dl (.dK []))) ∧ ∀ i mm H, Wf i mm H →
      (J.stop i H ∧ Q (.ref Dl) H) ∨ (J.go i H ∧ ∃ Nx : Hp → Prop, (∀ H', Nx H' → ∃ m', m' < mm ∧ Wf (i + 1) m' H') ∧ ∀ x H', J.yld i H x H' → tG pm.K tg x (L2.wipe σ vs) H' fun σ2 H2 => L2.wipe σ2 vs = L2.wipe σ vs ∧ tT pm W0 qt t σ2 H2 fun b H3 =>
        if b = true then tE pm W0 qk k σ2 H3 fun y H4 => tE pm W0 q m σ2 H4 fun z H5 => ∃ kvs k, y = kV k ∧ H5 Dl = some (.dK kvs) ∧ kvs.length < sizeLine ∧ Nx (upd H5 Dl (.dK (putK kvs k z))) else Nx H3) := by
  unfold dcE at h
  split at h
  case h_2 => exact h.elim
  rename_i ks acc ρ' he
  split at he
  case isFalse => cases he
  rename_i hall
  have hp : ∀ v ∈ vs, plainS ρ0[v]? = true := fun v hv => List.all_eq_true.mp hall v hv
  refine dcL_ok (qt := qt) (qk := qk) (q := q) st stay s h0 hv hD ?_
  revert he
  cases dcL tg vs t k m ps [] [] (wipeS ρ0 vs) with
  | stuck => intro he; cases he
  | exc x ρ1 => intro he; cases he
  | ok acc' ρ1 =>
    intro he
    simp only [dcEnd] at he
    cases he
    intro H Z F G o
    obtain ⟨kk, us, ek, hl, hn, hD', hr⟩ := o.acc
    have stZ : Stays Zs Hs H := (s.go_staysF o.go (G := fun _ => False) fun _ z => z.elim).base
    refine h H Z F G ⟨s.rest hp stZ o.go.zm o.sta, ?_, o.dis, o.go, o.kp.rest hp⟩
    simp only [rep]
    exact ⟨Dl, us, rfl, o.gD, .inl ⟨kk, ek, ⟨hl, hn⟩, hD'⟩, hr⟩
theorem dcE_shape {tg : Tg} {vs : List Nat} {t : MT} {k m : ME} {ps : List P} {ρ : Sl} : (∃ ks acc ρ', dcE tg vs t k m ps ρ = .ok (.own (.dct ks acc)) ρ') ∨ dcE tg vs t k m ps ρ = .stuck := by
  unfold dcE
  split
  · cases dcL tg vs t k m ps [] [] (wipeS ρ vs) with
    | ok acc ρ1 => exact .inl ⟨acc.1, acc.2, _, rfl⟩
    | exc x ρ1 => exact .inr rfl
    | stuck => exact .inr rfl
  · exact .inr rfl
theorem dc_post {Q : VK} {tg : Tg} {vs : List Nat} {mi : MI} {t : MT} {k m : ME} {qt qk : Bool} (hv : ∀ i ∈ tg.slots, i ∈ vs) (h : tE pm W false (eDc tg vs mi t k m) σ H Q) :
    tDc (tI pm W mi) (tG pm.K tg) (tT pm W0 qt t) (tE pm W0 qk k) (tE pm W0 q m) vs σ H Q := by
  obtain ⟨ρ, Z, S, F, s, h⟩ := h
  refine ⟨ρ, Z, S, F, s, ?_⟩
  unfold eDc at h
  revert h
  cases mi ρ with
  | stuck => exact fun h => h
  | exc x ρ1 => exact fun h => h
  | ok pl ρ1 =>
    obtain ⟨ps, lk⟩ := pl
    intro h J Hst H1 Z1 F1 L o Dl hD
    have h : postE pm W S σ false H Z F ρ Q (dcK tg vs t k m ps lk ρ1) := h
    cases lk with
    | none =>
      refine dcE_ok (qt := qt) (qk := qk) (q := q) (S := fun a => S a ∨ L a) o.st (fun Z1 H1 Z2 H2 hh st zm => o.stay Z1 H1 Z2 H2 hh (st.sub fun a z => z.elim (fun y => y.elim .inl False.elim) .inr) zm) (lockT o.sta o.dis) o.hst hv hD ?_
      simp only [dcK] at h
      rcases dcE_shape (tg := tg) (vs := vs) (t := t) (k := k) (m := m) (ps := ps) (ρ := ρ1) with ⟨ks, acc, ρ', e⟩ | e
      · rw [e] at h ⊢
        intro H' Z' F' G w
        have s' := unlockT o.sta o.dis w.sta (w.go.less fun a t => .inl t) w.kp.keep
        exact h _ H' Z' F' G ⟨s', ⟨w.val, fun a g => ⟨(w.dis a g).1, (w.dis a g).2.1, fun z => (w.dis a g).2.2.1 (.inl z), (w.dis a g).2.2.2⟩⟩, (o.go.less fun a t => .inl t).trans w.go, (fun z => nomatch z), o.kp.trans w.kp⟩
      · rw [e] at h
        exact h.elim
    | some x =>
      simp only [dcK] at h
      have go2 : ∀ {s0 : Slot} {d : D}, ρ1[x]? = some s0 → (s0 = .own d ∨ s0 = .pin d) → postE pm W S σ false H Z F ρ Q ((dcE tg vs t k m ps (ρ1.set x (.ro d))).mapE fun ρ => ρ.set x s0) → _ := fun {s0 d} hx hs h => by
        have s2 := MV.lockS o.sta hx hs
        have dis2 : ∀ a, L a → Own H1 a ∧ ¬ Z1 a ∧ ¬ (fun a => S a ∨ F1 x a) a ∧ ¬ un (clr F1 x) a := fun a l => ⟨(o.dis a l).1, (o.dis a l).2.1, fun z => z.elim (o.dis a l).2.2.1 fun y => (o.dis a l).2.2.2 ⟨x, y⟩, fun ⟨j, n, y⟩ => (o.dis a l).2.2.2 ⟨j, y⟩⟩
        refine dcE_ok (qt := qt) (qk := qk) (q := q) (k := k) (m := m) (t := t) (vs := vs) (tg := tg) (Dl := Dl) (Q := Q) o.st (fun Z1 H1 Z2 H2 hh st zm => o.stay Z1 H1 Z2 H2 hh st zm) (MV.lockT s2 dis2) o.hst hv hD ?_
        rcases dcE_shape (tg := tg) (vs := vs) (t := t) (k := k) (m := m) (ps := ps) (ρ := ρ1.set x (.ro d)) with ⟨ks, acc, ρ', e⟩ | e
        · rw [e] at h ⊢
          intro H' Z' F' G w
          have s' := unlockT s2 dis2 w.sta (w.go.less fun a t => .inl t) w.kp.keep
          have u := unlockS o.sta hx hs s' w.go w.kp.keep
          exact h _ H' Z' (unF F1 F' x) G ⟨u.sta, ⟨w.val, fun a g => ⟨(w.dis a g).1, (w.dis a g).2.1, fun z => (w.dis a g).2.2.1 (.inl (.inl z)), u.nG (fun a g z => (w.dis a g).2.2.1 (.inl (.inr z))) (fun a g => (w.dis a g).2.2.2) a g⟩⟩, (o.go.less fun a t => .inl t).trans u.go, (fun z => nomatch z), o.kp.trans u.keep.e⟩
        · rw [e] at h
          exact h.elim
      cases hx : ρ1[x]? with
      | none => rw [hx] at h; exact h.elim
      | some s0 =>
        rw [hx] at h
        cases s0 with
        | own d => exact go2 hx (.inl rfl) h
        | pin d => exact go2 hx (.inr rfl) h
        | no => exact h.elim
        | ro d => exact h.elim
        | ex e => exact h.elim
theorem DE.dc {kx vx tg iter : Expr} {ifs : List Expr} {scope : Scope} {own : List (Str × Nat)} {g : Tg} {mi : MI} {t : MT} {k m : ME} {qt qk : Bool} (hc : X.calm = true) (hN : X.N.Nodup) (hi : DI X I W tg iter mi) (ok : BlkOk X.N X.env.scope scope own)
    (hg : ∀ (s : Shared) (H : Hp) (C : Addr) (cl : List (Str × Addr)) (fp : List Addr), DG (X.blk s H scope (compEnvC scope cl C X.env) fp) tg g) (ht : ∀ (s : Shared) (H : Hp) (C : Addr) (cl : List (Str × Addr)) (fp : List Addr), DTs (X.blk s H scope (compEnvC scope cl C X.env) fp) I W0 qt ifs t)
    (hk : ∀ (s : Shared) (H : Hp) (C : Addr) (cl : List (Str × Addr)) (fp : List Addr), DE (X.blk s H scope (compEnvC scope cl C X.env) fp) I W0 qk kx k)
    (he : ∀ (s : Shared) (H : Hp) (C : Addr) (cl : List (Str × Addr)) (fp : List Addr), DE (X.blk s H scope (compEnvC scope cl C X.env) fp) I W0 q vx m) (hv : inAll g (own.map (·.2)) = true := by rfl) (hs : ∀ x, foldedSetIterable iter X.env x = pure x := by intro _; rfl) :
    DE X I W false (.DictComp kx vx [⟨tg, iter, ifs, 0⟩] scope pos) (eDc g (own.map (·.2)) mi t k m) :=
  PE.imp (pe_dc (g := tG X.K g) (tt := tT ⟨X.K, X.mg, I⟩ W0 qt t) (tk := tE ⟨X.K, X.mg, I⟩ W0 qk k) (tv := tE ⟨X.K, X.mg, I⟩ W0 q m) hc hN hi ok hg ht hk he hs) fun σ H Q h => dc_post (inAll_ok hv) h
theorem DS.setDc (i : Nat) {y : Str} {py spos : Pos} {kx vx tg iter : Expr} {ifs : List Expr} {scope : Scope} {own : List (Str × Nat)} {g : Tg} {mi : MI} {t : MT} {k m : ME} {qt qk : Bool} (hc : X.calm = true) (hN : X.N.Nodup) (hyl : X.env.scope.names.lookup y = some .local)
    (hsw : swapsWith (.DictComp kx vx [⟨tg, iter, ifs, 0⟩] scope pos) (some (.Name y py)) spos.line X.env = pure true) (hi : DI X I W tg iter mi) (ok : BlkOk X.N X.env.scope scope own)
    (hg : ∀ (s : Shared) (H : Hp) (C : Addr) (cl : List (Str × Addr)) (fp : List Addr), DG (X.blk s H scope (compEnvC scope cl C X.env) fp) tg g) (ht : ∀ (s : Shared) (H : Hp) (C : Addr) (cl : List (Str × Addr)) (fp : List Addr), DTs (X.blk s H scope (compEnvC scope cl C X.env) fp) I W0 qt ifs t)
    (hk : ∀ (s : Shared) (H : Hp) (C : Addr) (cl : List (Str × Addr)) (fp : List Addr), DE (X.blk s H scope (compEnvC scope cl C X.env) fp) I W0 qk kx k)
    (he : ∀ (s : Shared) (H : Hp) (C : Addr) (cl : List (Str × Addr)) (fp : List Addr), DE (X.blk s H scope (compEnvC scope cl C X.env) fp) I W0 q vx m) (hy : X.N[i]? = some y := by rfl) (hv : inAll g (own.map (·.2)) = true := by rfl) (hs : ∀ x, foldedSetIterable iter X.env x = pure x := by intro _; rfl) :
    DS X I W (.Assign [.Name y py] (.DictComp kx vx [⟨tg, iter, ifs, 0⟩] scope pos) spos) (sAsg (.nm i) (eDc g (own.map (·.2)) mi t k m)) := by
  refine PS.imp (ps_setDc (g := tG X.K g) (tt := tT ⟨X.K, X.mg, I⟩ W0 qt t) (tk := tE ⟨X.K, X.mg, I⟩ W0 qk k) (tv := tE ⟨X.K, X.mg, I⟩ W0 q m) hc hN hy hyl hsw hi ok hg ht hk he hs) fun N σ H h => ?_
  have h2 : tE ⟨X.K, X.mg, I⟩ W false (eDc g (own.map (·.2)) mi t k m) σ H (fun x H1 => gName i x σ H1 N.nx) := asg_ok (q := false) h
  exact dc_post (inAll_ok hv) h2
end
end MV

set_option Elab.async false
set_option linter.all false
set_option maxRecDepth 100000
set_option maxHeartbeats 4000000
/-! MV22: x[i] = e, x a name of a list. -/
namespace MV
open PySem L2 PyProof.Rows
section
variable {X : Cx} {I : Option (Addr × Value × Option Addr)} {W : WX} {q : Bool} {pos : Pos} {pm : Par} {σ : L2.St} {H : Hp} {qk : Bool} {mk m : ME}
/-- the item's place -/
def idxP (n : Nat) : P → Option Nat
  | .int k => L2.ixN n k
  | _ => none
def sLput (i : Nat) (mk m : ME) : MS := fun ρ => (m ρ).bindS fun v ρ1 => match v with
  | .bor _ _ => .stuck
  | .own d => (match ((ρ1[i]?).bind slD).bind asLst with
    | none => .stuck
    | some _ => (mk ρ1).bindS fun vk ρ2 => (match vk with
      | .own (.imm k) => (match ρ2[i]? with
        | some s0 => (match (slD s0).bind asLst with
          | some ds => (match idxP ds.length k with
            | some j => .nx (ρ2.set i (reS s0 (.lst (ds.set j d))))
            | none => .stuck)
          | none => .stuck)
        | _ => .stuck)
      | _ => .stuck))
theorem set_reps {K : PySem.W.Frag} {Z : AS} {H : Hp} {d : D} {v : V} {G : AS} (hd : rep true K Z H d v G) : ∀ (j : Nat) {ds : List D} {vs : List V} {F : AS}, (∀ b, F b → ¬ G b) → reps true K Z H ds vs F →
    reps true K Z H (ds.set j d) (vs.set j v) (fun b => F b ∨ G b)
  | j, [], vs, F, hF, r => by
    simp only [reps] at r
    subst r
    simp only [List.set_nil, reps]
  | 0, d0 :: ds, vs, F, hF, r => by
    simp only [reps] at r
    obtain ⟨w, r', F1, F2, e, h1, h2, h3, h4, h5⟩ := r
    subst e
    simp only [List.set_cons_zero, reps]
    exact ⟨v, r', G, F2, Eq.refl _, fun b z => .inr z, fun b z => .inl (h2 b z), fun b z y => hF b (h2 b y) z, hd, h5⟩
  | j + 1, d0 :: ds, vs, F, hF, r => by
    simp only [reps] at r
    obtain ⟨w, r', F1, F2, e, h1, h2, h3, h4, h5⟩ := r
    subst e
    simp only [List.set_cons_succ, reps]
    exact ⟨w, _, F1, fun b => F2 b ∨ G b, Eq.refl _, fun b z => .inl (h1 b z), fun b z => z.imp (h2 b) id, fun b z y => y.elim (h3 b z) (hF b (h1 b z)), h4, set_reps hd j (fun b z => hF b (h2 b z)) h5⟩
theorem DS.lput (i : Nat) {x : Str} {k e : Expr} {xpos pos' : Pos} {qm : Bool} (he : DE X I W qm e m) (hk : DE X I W qk k mk) (hN : X.N[i]? = some x := by rfl) (hv : Vis X.env.scope x := by first | exact Or.inl rfl | exact Or.inr (Or.inl rfl) | exact Or.inr (Or.inr rfl)) (hd : (x == ("__debug__" : Str)) = false := by decide)
    (hcd : (x == ("__classdict__" : Str)) = false := by decide) (hs : swapsWithSole [.Subscript (.Name x xpos) k pos'] e pos.line X.env = pure false := by rfl) (hw : swappedStores [.Subscript (.Name x xpos) k pos'] e X.env = pure none := by rfl)
    (h1 : (assignEach [.Subscript (.Name x xpos) k pos'] X.env).map (·.2) = [assign (.Subscript (.Name x xpos) k pos') X.env] := by rfl)
    (ha : ∀ v, assign (.Subscript (.Name x xpos) k pos') X.env v = (do let ov ← holding [v] (eval (.Name x xpos) X.env); let iv ← holding [v, ov] (eval k X.env); standAt pos'; holding [v, ov, iv] (setItem ov iv v); release [v, ov, iv] []) := by intro _; rfl) : DS X I W (.Assign [.Subscript (.Name x xpos) k pos'] e pos) (sLput i mk m) := by
  refine PS.imp (ps_asg he (pg_sub (pe_var hN hv hd hcd) hk set_list ha) hs hw h1) fun N σ H h => ?_
  obtain ⟨ρ, Z, S, F, s, h⟩ := h
  refine ⟨ρ, Z, S, F, s, ?_⟩
  unfold sLput at h
  revert h
  cases m ρ with
  | stuck => exact fun h => h
  | exc y ρ1 => exact fun h c dd H1 Z1 F1 y => h c dd σ H1 Z1 F1 ⟨y.sta, y.exc, y.go, y.kp.keep⟩
  | ok val ρ1 =>
    intro h y H1 Z1 F1 G ok
    rw [R.bindS_ok] at h
    cases val with
    | bor d j => exact h.elim
    | own d =>
      simp only [] at h
      split at h
      · exact h.elim
      rename_i p0 hp0
      obtain ⟨d0, g1, g2⟩ := Option.bind_eq_some_iff.mp hp0
      obtain ⟨s0, g3, g4⟩ := Option.bind_eq_some_iff.mp g1
      obtain ⟨v, e1, e2, r⟩ := ok.sta.slotD g3 g4
      refine ⟨v, e1, ρ1, Z1, S, F1, ok.sta, ?_⟩
      revert h
      cases mk ρ1 with
      | stuck => exact fun h => h
      | exc y ρ2 => exact fun h c dd H2 Z2 F2 y => h c dd σ H2 Z2 F2 ⟨y.sta, y.exc, (ok.go.less fun a t => .inl t).trans y.go, (ok.kp.trans y.kp).keep⟩
      | ok vk ρ2 =>
        intro h z H2 Z2 F2 G2 ok2
        rw [R.bindS_ok] at h
        split at h
        case h_2 => exact h.elim
        rename_i k
        split at h
        case h_2 => exact h.elim
        rename_i s1 hs1
        split at h
        case h_2 => exact h.elim
        rename_i ds hp
        split at h
        case h_2 => exact h.elim
        rename_i j hj
        cases k with
        | int kk =>
        obtain ⟨d1, l1, l2⟩ := Option.bind_eq_some_iff.mp hp
        obtain ⟨w, k1, k2, r1⟩ := ok2.sta.slotD hs1 l1
        rw [e1] at k1
        cases k1
        have ed := asLst_ok l2
        subst ed
        simp only [rep] at r1
        obtain ⟨a, vs, ev, fa, ca, ra⟩ := r1
        subst ev
        have ck := rep_int ok2.val.1
        subst ck
        have hG := held ok.sta ok.val.2 ok2.go
        have nG : ∀ b, G b → b ≠ a := fun b g q => (hG b g).2.2.2 (.inl ⟨i, by rw [q]; exact fa⟩)
        have rd : rep true X.K Z2 H2 d y G := ok.val.1.stay (ok.sta.go_staysF ok2.go fun a g => (ok.val.2 a g).2.2.2) ok2.go.zm fun _ z => z
        have t5 := set_reps rd j (fun b f g => (hG b g).2.2.2 (.inl ⟨i, f.1⟩)) ra
        have ca' : H2 a = some (.lst vs) := ca
        refine ⟨a, vs, kk, j, Eq.refl _, Eq.refl _, ca', by rw [← ra.length]; exact hj, ?_⟩
        have own2 : ∀ b, G b → Own H2 b ∧ ¬ Z2 b ∧ ¬ S b ∧ ¬ MV.un F2 b := fun b g => ⟨(hG b g).1, (hG b g).2.1, (hG b g).2.2.1, fun t => (hG b g).2.2.2 (.inl t)⟩
        have r2 : rep true X.K Z2 (upd H2 a (.lst (vs.set j y))) (.lst (ds.set j d)) (.ref a) (fun b => F2 i b ∨ G b) := by
          simp only [rep]
          refine ⟨a, vs.set j y, Eq.refl _, .inl fa, upd_same, ?_⟩
          refine t5.stay (F := fun b => (F2 i b ∧ b ≠ a) ∨ G b) (fun b u e z => ?_) (fun _ z => z) fun b z => z.elim (fun y => ⟨.inl y.1, y.2⟩) fun y => ⟨.inr y, nG b y⟩
          rw [upd_ne (fun q => ?_)]
          · exact e
          · subst q
            rcases z with z | z | z
            · exact (ok2.sta.own i b fa).2.1 z
            · exact z.elim (fun y => y.2 (Eq.refl _)) fun y => nG b y (Eq.refl _)
            · rw [ca'] at e; cases e; exact z True.intro
        have s2 := ok2.sta.mut (o := .lst (vs.set j y)) hs1 l1 fa own2 True.intro k2 r2
        have g12 : Go H Z (MV.un F) H2 Z2 (fun a => MV.un F2 a ∨ G a) := ok.go.cut ok2.go (fun a t => .inl t) fun a t => by
          rcases t with t | t
          · exact .inl (.inl t)
          · exact .inr (.inr t)
        exact h σ _ Z2 _ ⟨s2, g12.trans (ok2.sta.mutGo fa fun b g => (own2 b g).1), ((ok.kp.trans ok2.kp).trans (KeepE.re hs1 l1)).keep⟩
        | _ => cases hj
end
end MV

set_option Elab.async false
set_option linter.all false
set_option maxRecDepth 100000
set_option maxHeartbeats 4000000
/-! MV23: a list that does not change from here on, put into another. -/
namespace MV
open PySem L2 PyProof.Rows
/-- the name's value, which no one changes any more: it stays in the name -/
def eFz (i : Nat) : ME := fun ρ => match ρ[i]? with
  | some (.own (.imm p)) => .ok (.own (.imm p)) ρ
  | some (.pin (.imm p)) => .ok (.own (.imm p)) ρ
  | some (.ro (.imm p)) => .ok (.own (.imm p)) ρ
  | some (.own d) => .ok (.own (.imm (frz d))) (ρ.set i (.own (.imm (frz d))))
  | _ => .stuck
section
variable {X : Cx} {I : Option (Addr × Value × Option Addr)} {W : WX} {q : Bool} {pos : Pos} {pm : Par} {σ : L2.St} {H : Hp}
theorem Sta.freeze {S Z : AS} {F : FA} {ρ : Sl} {i : Nat} {d : D} (s : Sta pm H Z S ρ σ F) (hs : ρ[i]? = some (.own d)) : ∃ v, σ[i]? = some (some v) ∧ OkE pm S σ false H Z F ρ (.own (.imm (frz d))) (ρ.set i (.own (.imm (frz d)))) v H (fun a => Z a ∨ F i a) (clr F i) (fun _ => False) := by
  obtain ⟨v, e1, e2, r⟩ := s.slotD hs (Eq.refl _)
  have c : conP pm.K (fun a => Z a ∨ F i a) H (frz d) v := r.frz (fun a z => .inl z) fun a z => .inr z
  have lt := (List.getElem?_eq_some_iff.mp hs).1
  have s1 : Sta pm H (fun a => Z a ∨ F i a) S (ρ.set i .no) σ (clr F i) := (s.take (i := i)).zup (fun a z => .inl z) (fun a z t => by
    obtain ⟨j, n, t⟩ := t
    rcases z with z | z
    · exact (s.own j a t).2.1 z
    · exact n (s.disj j i a t z)) fun a z => z.elim (fun y => s.dom a (.inl y)) fun y => (s.own i a y).1.some
  refine ⟨v, e1, ⟨⟨by rw [List.length_set]; exact s.len, fun j sl h => ?_, s1.disj, s1.own, s1.dom⟩, valR.imm c, ⟨fun a o e _ => e, fun a z => .inl z, fun a z => z.elim .inl fun y => .inr (.inl ⟨i, y⟩), fun a t => t.elim (fun ⟨j, _, y⟩ => .inl ⟨j, y⟩) False.elim, fun a t => s.dm a t⟩, (fun z => nomatch z), fun j => ?_⟩⟩
  · by_cases e : j = i
    · subst e
      rw [List.getElem?_set_self lt] at h
      cases h
      exact ⟨v, e2, by simp only [rep]; exact c⟩
    · rw [List.getElem?_set_ne (Ne.symm e)] at h
      exact s1.slot j sl (by rw [List.getElem?_set_ne (Ne.symm e)]; exact h)
  · by_cases e : j = i
    · subst e
      rw [List.getElem?_set_self lt, hs]
      exact ⟨fun d q => (by cases q), fun d q => (by cases q), fun d q => (by cases q)⟩
    · rw [List.getElem?_set_ne (Ne.symm e)]
      exact ⟨fun d q => ⟨d, q⟩, fun d q => q, fun d q => q⟩
theorem DE.frz (i : Nat) {x : Str} (hN : X.N[i]? = some x := by rfl) (hv : Vis X.env.scope x := by first | exact Or.inl rfl | exact Or.inr (Or.inl rfl) | exact Or.inr (Or.inr rfl)) (hd : (x == ("__debug__" : Str)) = false := by decide)
    (hcd : (x == ("__classdict__" : Str)) = false := by decide) : DE X I W false (.Name x pos) (eFz i) := by
  refine PE.imp (pe_var hN hv hd hcd) fun σ H Q h => ?_
  obtain ⟨ρ, Z, S, F, s, h⟩ := h
  unfold eFz at h
  split at h
  · rename_i p hs
    obtain ⟨v, e1, ok⟩ := s.rd (q := false) (val := .own (.imm p)) hs (Eq.refl _)
    exact ⟨v, e1, h v H Z F _ ok⟩
  · rename_i p hs
    obtain ⟨v, e1, ok⟩ := s.rd (q := false) (val := .own (.imm p)) hs (Eq.refl _)
    exact ⟨v, e1, h v H Z F _ ok⟩
  · rename_i p hs
    obtain ⟨v, e1, ok⟩ := s.rd (q := false) (val := .own (.imm p)) hs (Eq.refl _)
    exact ⟨v, e1, h v H Z F _ ok⟩
  · rename_i d _ hs
    obtain ⟨v, e1, ok⟩ := s.freeze hs
    exact ⟨v, e1, h v H _ _ _ ok⟩
  · exact h.elim
/-- a new value that no one changes -/
def eFv (m : ME) : ME := fun ρ => (m ρ).bind fun v ρ1 => match v with
  | .own d => .ok (.own (.imm (frz d))) ρ1
  | .bor _ _ => .stuck
theorem DE.frv {e : Expr} {m : ME} (h : DE X I W q e m) : DE X I W q e (eFv m) := by
  refine PE.imp h fun σ H Q h => ?_
  obtain ⟨ρ, Z, S, F, s, h⟩ := h
  refine ⟨ρ, Z, S, F, s, ?_⟩
  unfold eFv at h
  revert h
  cases m ρ with
  | stuck => exact fun h => h
  | exc x ρ1 => exact fun h => h
  | ok v ρ1 =>
    intro h y H1 Z1 F1 G1 ok1
    rw [R.bind_ok] at h
    cases v with
    | bor d x => exact h.elim
    | own d =>
      have z2 : ∀ a, Z1 a → (Z1 a ∨ G1 a) := fun a z => .inl z
      have s2 : Sta ⟨X.K, X.mg, I⟩ H1 (fun a => Z1 a ∨ G1 a) S ρ1 σ F1 := ok1.sta.zup z2 (fun a z t => z.elim (fun y => by
        obtain ⟨i, t⟩ := t
        exact (ok1.sta.own i a t).2.1 y) fun y => (ok1.val.2 a y).2.2.2 t) fun a z => z.elim (fun y => ok1.sta.dom a (.inl y)) fun y => (ok1.val.2 a y).1.some
      have c : conP X.K (fun a => Z1 a ∨ G1 a) H1 (MV.frz d) y := ok1.val.1.frz z2 fun a g => .inr g
      refine h y H1 (fun a => Z1 a ∨ G1 a) F1 (fun _ => False) ⟨s2, valR.imm c, ⟨ok1.go.keep, fun a z => .inl (ok1.go.zm a z), fun a z => ?_, fun a t => ?_, ok1.go.dm⟩, ok1.qt, ok1.kp⟩
      · rcases z with z | z
        · exact ok1.go.nz a z
        · exact .inr (ok1.go.nt a (.inr z))
      · rcases t with t | t
        · exact ok1.go.nt a (.inl t)
        · exact t.elim
end
end MV

/-! MVx: the whole walk layer. -/

set_option Elab.async false
set_option linter.all false
set_option maxRecDepth 100000
set_option maxHeartbeats 1000000
/-! P0: what a reading comes to, asked from its head (wp), for simp. -/
namespace MV
open PySem L2

/-- what stands beside such a word is left alone by simp -/
inductive Tok {α : Sort _} (a : α) : Type where
  | mk
def R.sat {α : Type} (r : R α) (P : α → Sl → Prop) (_ : Tok P := .mk) : Prop := match r with
  | .ok a ρ => P a ρ
  | _ => False
structure En where
  nx : Sl → Prop := fun _ => False
  bk : Sl → Prop := fun _ => False
  ct : Sl → Prop := fun _ => False
  rt : D → Sl → Prop := fun _ _ => False
def SR.sat (r : SR) (N : En) (_ : Tok N := .mk) : Prop := match r with
  | .nx ρ => N.nx ρ
  | .bk ρ => N.bk ρ
  | .ct ρ => N.ct ρ
  | .rt d ρ => N.rt d ρ
  | _ => False
def osat {α : Type} (o : Option α) (P : α → Prop) (_ : Tok P := .mk) : Prop := match o with
  | some a => P a
  | none => False
def vsat (v : Val) (P : D → Prop) (_ : Tok P := .mk) : Prop := match v with
  | .own d => P d
  | .bor _ _ => False
def bsat (b : Bool) (P Q : Prop) (_ : Tok P := .mk) (_ : Tok Q := .mk) : Prop := match b with
  | true => P
  | false => Q
theorem R.sat_ext {α : Type} {r : R α} {P Q : α → Sl → Prop} (h : ∀ a ρ, P a ρ = Q a ρ) : r.sat P = r.sat Q := by
  have e : P = Q := funext fun a => funext fun ρ => h a ρ
  subst e
  rfl
@[simp] theorem R.sat_ok {α : Type} {a : α} {ρ : Sl} {P : α → Sl → Prop} : (R.ok a ρ).sat P = P a ρ := (rfl)
@[simp] theorem osat_some {α : Type} {a : α} {P : α → Prop} : osat (some a) P = P a := (rfl)
@[simp] theorem osat_none {α : Type} {P : α → Prop} : osat none P = False := (rfl)
@[simp] theorem osat_ite {α : Type} {c : Prop} [Decidable c] {a : α} {P : α → Prop} : osat (if c then some a else none) P = (c ∧ P a) := by
  by_cases h : c
  · rw [if_pos h]; simp [h]
  · rw [if_neg h]; simp [h]
@[simp] theorem osat_map {α β : Type} {o : Option α} {f : α → β} {P : β → Prop} : osat (o.map f) P = osat o fun a => P (f a) := by cases o <;> rfl
@[simp] theorem osat_bind {α β : Type} {o : Option α} {f : α → Option β} {P : β → Prop} : osat (o.bind f) P = osat o fun a => osat (f a) P := by cases o <;> rfl
@[simp] theorem vsat_own {d : D} {P : D → Prop} : vsat (.own d) P = P d := (rfl)
@[simp] theorem bsat_t {P Q : Prop} : bsat true P Q = P := (rfl)
@[simp] theorem bsat_f {P Q : Prop} : bsat false P Q = Q := (rfl)
@[simp] theorem bsat_dec {c : Prop} [Decidable c] {P Q : Prop} : bsat (decide c) P Q = ((c → P) ∧ (¬ c → Q)) := by
  by_cases h : c
  · rw [decide_eq_true h]; simp [h]
  · rw [decide_eq_false h]; simp [h]
@[simp] theorem bsat_not {b : Bool} {P Q : Prop} : bsat (!b) P Q = bsat b Q P := by cases b <;> rfl
@[simp] theorem SR.sat_nx {ρ : Sl} {N : En} : (SR.nx ρ).sat N = N.nx ρ := (rfl)
@[simp] theorem SR.sat_bk {ρ : Sl} {N : En} : (SR.bk ρ).sat N = N.bk ρ := (rfl)
@[simp] theorem SR.sat_ct {ρ : Sl} {N : En} : (SR.ct ρ).sat N = N.ct ρ := (rfl)
@[simp] theorem SR.sat_rt {ρ : Sl} {d : D} {N : En} : (SR.rt d ρ).sat N = N.rt d ρ := (rfl)
theorem R.sat_bind {α β : Type} {r : R α} {f : α → Sl → R β} {P : β → Sl → Prop} : (r.bind f).sat P = r.sat fun a ρ => (f a ρ).sat P := by cases r <;> rfl
theorem R.sat_bindS {α : Type} {r : R α} {f : α → Sl → SR} {N : En} : (r.bindS f).sat N = r.sat fun a ρ => (f a ρ).sat N := by cases r <;> rfl
theorem R.sat_mono {α : Type} {r : R α} {P Q : α → Sl → Prop} (h : r.sat P) (f : ∀ a ρ, P a ρ → Q a ρ) : r.sat Q := by
  cases r with
  | ok a ρ => exact f a ρ h
  | exc => exact h
  | stuck => exact h
theorem SR.sat_mono {r : SR} {N M : En} (h : r.sat N) (f1 : ∀ ρ, N.nx ρ → M.nx ρ) (f2 : ∀ ρ, N.bk ρ → M.bk ρ) (f3 : ∀ ρ, N.ct ρ → M.ct ρ) (f4 : ∀ d ρ, N.rt d ρ → M.rt d ρ) : r.sat M := by
  cases r with
  | nx ρ => exact f1 ρ h
  | bk ρ => exact f2 ρ h
  | ct ρ => exact f3 ρ h
  | rt d ρ => exact f4 d ρ h
  | exc => exact h
  | stuck => exact h
theorem R.of_sat {α : Type} {r : R α} {P : α → Sl → Prop} (h : r.sat P) : ∃ a ρ, r = .ok a ρ ∧ P a ρ := by
  cases r with
  | ok a ρ => exact ⟨a, ρ, rfl, h⟩
  | exc => exact h.elim
  | stuck => exact h.elim

/-! ### expressions -/
section
variable {ρ : Sl} {P : Val → Sl → Prop} {PL : List D → Sl → Prop} {PO : List (Option D) → Sl → Prop} {PB : Bool → Sl → Prop} {PI : List MV.P × Option Nat → Sl → Prop} {N : En}
@[simp] theorem sat_eC {p : MV.P} : (eC p ρ).sat P = P (.own (.imm p)) ρ := (rfl)
@[simp] theorem sat_eN {i : Nat} : (eN i ρ).sat P = osat (ρ[i]?) fun s => osat (rdSlot i s) fun v => P v ρ := by
  unfold eN
  cases ρ[i]? with
  | none => rfl
  | some s =>
    show (match rdSlot i s with | some v => (R.ok v ρ : R Val) | none => .stuck).sat P = osat (rdSlot i s) fun v => P v ρ
    cases rdSlot i s <;> rfl
def mvSlot (i : Nat) (ρ : Sl) : Option (Val × Sl) := match ρ[i]? with
  | some (.own (.imm p)) => some (.own (.imm p), ρ)
  | some (.pin (.imm p)) => some (.own (.imm p), ρ)
  | some (.ro (.imm p)) => some (.own (.imm p), ρ)
  | some (.own d) => some (.own d, ρ.set i .no)
  | _ => none
def mvS (i : Nat) (ρ : Sl) : Slot → Option (Val × Sl)
  | .own (.imm p) => some (.own (.imm p), ρ)
  | .pin (.imm p) => some (.own (.imm p), ρ)
  | .ro (.imm p) => some (.own (.imm p), ρ)
  | .own d => some (.own d, ρ.set i .no)
  | _ => none
@[simp] theorem sat_eM {i : Nat} : (eM i ρ).sat P = osat (ρ[i]?) fun s => osat (mvS i ρ s) fun v => P v.1 v.2 := by
  unfold eM
  cases ρ[i]? with
  | none => rfl
  | some s =>
    cases s with
    | own d => cases d <;> rfl
    | pin d => cases d <;> rfl
    | ro d => cases d <;> rfl
    | no => rfl
    | ex e => rfl
@[simp] theorem sat_e2 {qb : Bool} {f : D → D → Option D} {ma mb : ME} : (e2 qb f ma mb ρ).sat P = (ma ρ).sat fun va ρ1 => (mb ρ1).sat fun vb ρ2 => okq va qb = true ∧ osat (f va.d vb.d) fun d => P (.own d) ρ2 := by
  unfold e2
  simp only [R.sat_bind]
  refine R.sat_ext fun va ρ1 => ?_
  rw [R.sat_bind]
  refine R.sat_ext fun vb ρ2 => ?_
  by_cases h : okq va qb = true
  · rw [if_pos h]
    cases f va.d vb.d <;> simp [h, R.sat]
  · rw [if_neg h]
    simp [h, R.sat]
@[simp] theorem okq_own {d : D} {q : Bool} : okq (.own d) q = true := (rfl)
@[simp] theorem okq_true {v : Val} : okq v true = true := by cases v <;> rfl
@[simp] theorem Val.d_own {d : D} : (Val.own d).d = d := (rfl)
@[simp] theorem Val.d_bor {d : D} {i : Nat} : (Val.bor d i).d = d := (rfl)
@[simp] theorem sat_e1 {f : D → Option D} {ma : ME} : (e1 f ma ρ).sat P = (ma ρ).sat fun va ρ1 => osat (f va.d) fun d => P (.own d) ρ1 := by
  unfold e1
  simp only [R.sat_bind]
  refine R.sat_ext fun va ρ1 => ?_
  cases f va.d <;> rfl
@[simp] theorem sat_eB {f : List D → Option D} {ms : MA} : (eB f ms ρ).sat P = (ms ρ).sat fun ds ρ1 => osat (f ds) fun d => P (.own d) ρ1 := by
  unfold eB
  simp only [R.sat_bind]
  refine R.sat_ext fun va ρ1 => ?_
  cases f va <;> rfl
@[simp] theorem sat_aNil : (aNil ρ).sat PL = PL [] ρ := (rfl)
@[simp] theorem sat_vCons {q : Bool} {m : ME} {ms : MA} : (vCons q m ms ρ).sat PL = (m ρ).sat fun v ρ1 => (ms ρ1).sat fun ds ρ2 => okq v q = true ∧ PL (v.d :: ds) ρ2 := by
  unfold vCons
  simp only [R.sat_bind]
  refine R.sat_ext fun va ρ1 => ?_
  rw [R.sat_bind]
  refine R.sat_ext fun vb ρ2 => ?_
  by_cases h : okq va q = true
  · rw [if_pos h]; simp [h]
  · rw [if_neg h]; simp [h, R.sat]
@[simp] theorem sat_aCons {m : ME} {ms : MA} : (aCons m ms ρ).sat PL = (m ρ).sat fun v ρ1 => vsat v fun d => (ms ρ1).sat fun ds ρ2 => PL (d :: ds) ρ2 := by
  unfold aCons
  simp only [R.sat_bind]
  refine R.sat_ext fun va ρ1 => ?_
  cases va with
  | own d => simp only [R.sat_bind]; rfl
  | bor => rfl
@[simp] theorem sat_lNil : (lNil ρ).sat PO = PO [] ρ := (rfl)
@[simp] theorem sat_lOwn {m : ME} {ms : ML} : (lOwn m ms ρ).sat PO = (m ρ).sat fun v ρ1 => vsat v fun d => (ms ρ1).sat fun ds ρ2 => PO (some d :: ds) ρ2 := by
  unfold lOwn
  simp only [R.sat_bind]
  refine R.sat_ext fun va ρ1 => ?_
  cases va with
  | own d => simp only [R.sat_bind]; rfl
  | bor => rfl
@[simp] theorem sat_lLent {i : Nat} {ms : ML} : (lLent i ms ρ).sat PO = osat (ρ[i]?) fun s => isVal s = true ∧ (ms ρ).sat fun ds ρ2 => PO (none :: ds) ρ2 := by
  unfold lLent
  cases ρ[i]? with
  | none => rfl
  | some s =>
    show (if isVal s = true then _ else R.stuck).sat PO = _
    by_cases h : isVal s = true
    · rw [if_pos h, R.sat_bind]
      simp only [osat_some, h, true_and]
      rfl
    · rw [if_neg h]; simp [h, R.sat]
@[simp] theorem isVal_own {d : D} : isVal (.own d) = true := (rfl)
@[simp] theorem isVal_pin {d : D} : isVal (.pin d) = true := (rfl)
@[simp] theorem isVal_ro {d : D} : isVal (.ro d) = true := (rfl)
@[simp] theorem sat_eCall {ls : List Ln} {f : FS} {ms : ML} : (eCall ls f ms ρ).sat P = (ms ρ).sat fun ds ρ1 => osat (bld ls ds ρ1) fun ss => (f ss).sat fun d os => osat (back ls ss os ρ1) fun ρ2 => P (.own d) ρ2 := by
  unfold eCall
  simp only [R.sat_bind]
  refine R.sat_ext fun ds ρ1 => ?_
  cases bld ls ds ρ1 with
  | none => rfl
  | some ss =>
    simp only [osat_some]
    cases f ss with
    | ok d os =>
      simp only [R.sat_ok]
      cases back ls ss os ρ1 <;> rfl
    | exc x os =>
      simp only []
      cases back ls ss os ρ1 <;> rfl
    | stuck => rfl
@[simp] theorem sat_eTup {ms : MA} : (eTup ms ρ).sat P = (ms ρ).sat fun ds ρ1 => ds.length ≤ sizeLine ∧ P (.own (.imm (.tup (frzs ds)))) ρ1 := by
  unfold eTup
  simp only [R.sat_bind]
  refine R.sat_ext fun ds ρ1 => ?_
  by_cases h : ds.length ≤ sizeLine
  · rw [if_pos h]; simp [h]
  · rw [if_neg h]; simp [h, R.sat]
@[simp] theorem sat_eLst {ms : MA} : (eLst ms ρ).sat P = (ms ρ).sat fun ds ρ1 => ds.length ≤ sizeLine ∧ P (.own (.lst ds)) ρ1 := by
  unfold eLst
  simp only [R.sat_bind]
  refine R.sat_ext fun ds ρ1 => ?_
  by_cases h : ds.length ≤ sizeLine
  · rw [if_pos h]; simp [h]
  · rw [if_neg h]; simp [h, R.sat]
@[simp] theorem sat_toB {m : ME} : (toB m ρ).sat PB = (m ρ).sat fun v ρ1 => osat (isBl v) fun k => PB k ρ1 := by
  unfold toB
  simp only [R.sat_bind]
  refine R.sat_ext fun v ρ1 => ?_
  cases v with
  | bor => rfl
  | own d => cases d with
    | lst => rfl
    | dct => rfl
    | imm p => cases p <;> rfl
@[simp] theorem isBl_bl {b : Bool} : isBl (.own (.imm (.bl b))) = some b := (rfl)
@[simp] theorem sat_eTru {m : ME} : (eTru m ρ).sat PB = (m ρ).sat fun v ρ1 => osat (truth v.d) fun k => PB k ρ1 := by
  unfold eTru
  simp only [R.sat_bind]
  refine R.sat_ext fun v ρ1 => ?_
  cases truth v.d <;> rfl
@[simp] theorem sat_tAnd {ta tb : MT} : (tAnd' ta tb ρ).sat PB = (ta ρ).sat fun b ρ1 => bsat b ((tb ρ1).sat PB) (PB false ρ1) := by
  unfold tAnd'
  simp only [R.sat_bind]
  refine R.sat_ext fun b ρ1 => ?_
  cases b <;> rfl
@[simp] theorem sat_tOr {ta tb : MT} : (tOr' ta tb ρ).sat PB = (ta ρ).sat fun b ρ1 => bsat b (PB true ρ1) ((tb ρ1).sat PB) := by
  unfold tOr'
  simp only [R.sat_bind]
  refine R.sat_ext fun b ρ1 => ?_
  cases b <;> rfl
@[simp] theorem sat_tNot {ta : MT} : (tNot' ta ρ).sat PB = (ta ρ).sat fun b ρ1 => PB (!b) ρ1 := by
  unfold tNot'
  simp only [R.sat_bind]
  rfl
@[simp] theorem sat_eIf {t : MT} {ma mb : ME} : (eIf t ma mb ρ).sat P = (t ρ).sat fun b ρ1 => bsat b ((ma ρ1).sat P) ((mb ρ1).sat P) := by
  unfold eIf
  simp only [R.sat_bind]
  refine R.sat_ext fun b ρ1 => ?_
  cases b <;> rfl
@[simp] theorem sat_eAnd {ma mb : ME} : (eAnd ma mb ρ).sat P = (ma ρ).sat fun v ρ1 => osat (isBl v) fun b => bsat b ((mb ρ1).sat P) (P (.own (.imm (.bl false))) ρ1) := by
  unfold eAnd
  simp only [R.sat_bind]
  refine R.sat_ext fun v ρ1 => ?_
  cases isBl v with
  | none => rfl
  | some b => cases b <;> rfl
@[simp] theorem sat_eOr {ma mb : ME} : (eOr ma mb ρ).sat P = (ma ρ).sat fun v ρ1 => osat (isBl v) fun b => bsat b (P (.own (.imm (.bl true))) ρ1) ((mb ρ1).sat P) := by
  unfold eOr
  simp only [R.sat_bind]
  refine R.sat_ext fun v ρ1 => ?_
  cases isBl v with
  | none => rfl
  | some b => cases b <;> rfl
@[simp] theorem sat_eNot {ma : ME} : (eNot ma ρ).sat P = (ma ρ).sat fun v ρ1 => osat (isBl v) fun b => P (.own (.imm (.bl (!b)))) ρ1 := by
  unfold eNot
  simp only [R.sat_bind]
  refine R.sat_ext fun v ρ1 => ?_
  cases isBl v <;> rfl
def keyP : Val → Option MV.P
  | .own (.imm k) => some k
  | _ => none
@[simp] theorem keyP_own {k : MV.P} : keyP (.own (.imm k)) = some k := (rfl)
@[simp] theorem sat_eGt {q : Bool} {ma mk : ME} : (eGt q ma mk ρ).sat P = (ma ρ).sat fun va ρ1 => (mk ρ1).sat fun vk ρ2 => okq va q = true ∧ osat (keyP vk) fun k => osat (item va.d k) fun d => osat (pick va d) fun v => P v ρ2 := by
  unfold eGt
  simp only [R.sat_bind]
  refine R.sat_ext fun va ρ1 => ?_
  rw [R.sat_bind]
  refine R.sat_ext fun vk ρ2 => ?_
  by_cases h : okq va q = true
  · rw [if_pos h]
    simp only [h, true_and]
    cases vk with
    | bor => rfl
    | own d =>
      cases d with
      | imm k =>
        simp only [keyP_own, osat_some]
        cases item va.d k with
        | none => rfl
        | some d =>
          simp only [osat_some, Option.bind_some]
          cases pick va d <;> rfl
      | lst => rfl
      | dct => rfl
  · rw [if_neg h]
    simp [h, R.sat]
@[simp] theorem sat_eGtN {i : Nat} {mk : ME} : (eGtN i mk ρ).sat P = osat (ρ[i]?) fun s => osat (rdSlot i s) fun _ => (mk ρ).sat fun vk ρ2 => osat (keyP vk) fun k => osat (ρ2[i]?) fun s => osat (rdSlot i s) fun va => osat (item va.d k) fun d => osat (pick va d) fun v => P v ρ2 := by
  unfold eGtN
  cases ρ[i]? with
  | none => rfl
  | some s =>
    simp only [osat_some, Option.bind_some]
    cases rdSlot i s with
    | none => rfl
    | some v0 =>
      simp only [R.sat_bind, osat_some]
      refine R.sat_ext fun vk ρ2 => ?_
      cases vk with
      | bor => rfl
      | own d =>
        cases d with
        | imm k =>
          simp only [keyP_own, osat_some]
          cases ρ2[i]? with
          | none => rfl
          | some s2 =>
            simp only [osat_some, Option.bind_some]
            cases rdSlot i s2 with
            | none => rfl
            | some va =>
              simp only [osat_some]
              cases item va.d k with
              | none => rfl
              | some d =>
                simp only [osat_some, Option.bind_some]
                cases pick va d <;> rfl
        | lst => rfl
        | dct => rfl
@[simp] theorem sat_oNone : (oNone ρ).sat P = P (.own (.imm .non)) ρ := (rfl)
def intV : Val → Option Int
  | .own (.imm (.int i)) => some i
  | _ => none
@[simp] theorem intV_int {i : Int} : intV (.own (.imm (.int i))) = some i := (rfl)
@[simp] theorem sat_oSome {m : ME} : (oSome m ρ).sat P = (m ρ).sat fun v ρ1 => osat (intV v) fun i => P (.own (.imm (.int i))) ρ1 := by
  unfold oSome
  simp only [R.sat_bind]
  refine R.sat_ext fun v ρ1 => ?_
  cases v with
  | bor => rfl
  | own d => cases d with
    | lst => rfl
    | dct => rfl
    | imm p => cases p <;> rfl
@[simp] theorem sat_eSl {ql qh : Bool} {m lo hi : ME} : (eSl ql qh m lo hi ρ).sat P = (m ρ).sat fun va ρ1 => (lo ρ1).sat fun vl ρ2 => osat (partD vl.d) fun l => (hi ρ2).sat fun vh ρ3 => okq va (ql && qh) = true ∧ osat (partD vh.d) fun h => osat (cutD va.d l h) fun d => P (.own d) ρ3 := by
  unfold eSl
  simp only [R.sat_bind]
  refine R.sat_ext fun va ρ1 => ?_
  rw [R.sat_bind]
  refine R.sat_ext fun vl ρ2 => ?_
  cases partD vl.d with
  | none => rfl
  | some l =>
    simp only [osat_some, R.sat_bind]
    refine R.sat_ext fun vh ρ3 => ?_
    by_cases h : okq va (ql && qh) = true
    · rw [if_pos h]
      simp only [h, true_and]
      cases partD vh.d with
      | none => rfl
      | some h2 =>
        simp only [osat_some, Option.bind_some]
        cases cutD va.d l h2 <;> rfl
    · rw [if_neg h]
      simp [h, R.sat]
@[simp] theorem sat_eDct {ms : MA} : (eDct ms ρ).sat P = (ms ρ).sat fun ds ρ1 => osat (pairsOf ds) fun p => (nodupK p.1 = true ∧ p.1.length ≤ 15) ∧ P (.own (.dct p.1 p.2)) ρ1 := by
  unfold eDct
  simp only [R.sat_bind]
  refine R.sat_ext fun ds ρ1 => ?_
  cases pairsOf ds with
  | none => rfl
  | some p =>
    simp only [osat_some]
    by_cases h : nodupK p.1 = true ∧ p.1.length ≤ 15
    · rw [if_pos h]; simp [h]
    · rw [if_neg h]; simp [h, R.sat]
@[simp] theorem sat_eDnew {b : Bool} : (eDnew b ρ).sat P = P (.own (.dct (if b = true then [.non] else []) [])) ρ := (rfl)

/-! ### statements -/
@[simp] theorem sat_sSeq {a b : MS} : (sSeq a b ρ).sat N = (a ρ).sat { N with nx := fun ρ => (b ρ).sat N } := by
  unfold sSeq
  cases a ρ <;> rfl
@[simp] theorem sat_sNx : (sNx ρ).sat N = N.nx ρ := (rfl)
@[simp] theorem sat_sBk : (sBk ρ).sat N = N.bk ρ := (rfl)
@[simp] theorem sat_sCt : (sCt ρ).sat N = N.ct ρ := (rfl)
@[simp] theorem sat_sNever : (sNever ρ).sat N = False := (rfl)
@[simp] theorem sat_sExpr {m : ME} : (sExpr m ρ).sat N = (m ρ).sat fun _ ρ1 => N.nx ρ1 := by
  unfold sExpr
  simp only [R.sat_bindS]
  rfl
@[simp] theorem sat_sRet {m : ME} : (sRet m ρ).sat N = (m ρ).sat fun v ρ1 => vsat v fun d => N.rt d ρ1 := by
  unfold sRet
  simp only [R.sat_bindS]
  refine R.sat_ext fun v ρ1 => ?_
  cases v <;> rfl
@[simp] theorem sat_sRetN : (sRetN ρ).sat N = N.rt (.imm .non) ρ := (rfl)
@[simp] theorem sat_sIf {t : MT} {a b : MS} : (sIf t a b ρ).sat N = (t ρ).sat fun k ρ1 => bsat k ((a ρ1).sat N) ((b ρ1).sat N) := by
  unfold sIf
  simp only [R.sat_bindS]
  refine R.sat_ext fun k ρ1 => ?_
  cases k <;> rfl
@[simp] theorem sat_sAsg {g : Tg} {m : ME} : (sAsg g m ρ).sat N = (m ρ).sat fun v ρ1 => vsat v fun d => osat (bindG g d ρ1) fun ρ2 => N.nx ρ2 := by
  unfold sAsg
  simp only [R.sat_bindS]
  refine R.sat_ext fun v ρ1 => ?_
  cases v with
  | own d => simp only [vsat_own]; cases bindG g d ρ1 <;> rfl
  | bor => rfl
@[simp] theorem bindG_nm {i : Nat} {d : D} : bindG (.nm i) d ρ = if frees ρ[i]? = true then some (ρ.set i (.own d)) else none := (rfl)
@[simp] theorem bindG_tup {is : List Nat} {ps : List MV.P} : bindG (.tup is) (.imm (.tup ps)) ρ = bindN is ps ρ := (rfl)
@[simp] theorem bindN_nil : bindN [] [] ρ = some ρ := (rfl)
@[simp] theorem bindN_cons {i : Nat} {is : List Nat} {p : MV.P} {ps : List MV.P} : bindN (i :: is) (p :: ps) ρ = if frees ρ[i]? = true then bindN is ps (ρ.set i (.own (.imm p))) else none := (rfl)
@[simp] theorem frees_own {d : D} : frees (some (.own d)) = true := (rfl)
@[simp] theorem frees_no : frees (some .no) = true := (rfl)
def lstS (s : Slot) : Option (List D) := (slD s).bind asLst
@[simp] theorem lstS_own {ds : List D} : lstS (.own (.lst ds)) = some ds := (rfl)
@[simp] theorem lstS_pin {ds : List D} : lstS (.pin (.lst ds)) = some ds := (rfl)
@[simp] theorem reS_own {d e : D} : reS (.own d) e = .own e := (rfl)
@[simp] theorem reS_pin {d e : D} : reS (.pin d) e = .pin e := (rfl)
@[simp] theorem sat_sApp {i : Nat} {m : ME} : (sApp i m ρ).sat N = osat (ρ[i]?) fun s => osat (lstS s) fun _ => (m ρ).sat fun v ρ1 => vsat v fun d => osat (ρ1[i]?) fun s0 => osat (lstS s0) fun ds => ds.length < sizeLine ∧ N.nx (ρ1.set i (reS s0 (.lst (ds ++ [d])))) := by
  unfold sApp lstS
  cases ρ[i]? with
  | none => rfl
  | some s =>
    simp only [osat_some, Option.bind_some]
    cases (slD s).bind asLst with
    | none => rfl
    | some _ =>
      simp only [R.sat_bindS, osat_some]
      refine R.sat_ext fun v ρ1 => ?_
      cases v with
      | bor => rfl
      | own d =>
        simp only [vsat_own]
        cases ρ1[i]? with
        | none => rfl
        | some s0 =>
          simp only [osat_some]
          cases (slD s0).bind asLst with
          | none => rfl
          | some ds =>
            simp only [osat_some]
            by_cases h : ds.length < sizeLine
            · rw [if_pos h]; simp [h]
            · rw [if_neg h]; simp [h, SR.sat]
def dctS (s : Slot) : Option (List MV.P × List D) := (slD s).bind asDct
@[simp] theorem dctS_own {ks : List MV.P} {ds : List D} : dctS (.own (.dct ks ds)) = some (ks, ds) := (rfl)
@[simp] theorem dctS_pin {ks : List MV.P} {ds : List D} : dctS (.pin (.dct ks ds)) = some (ks, ds) := (rfl)
@[simp] theorem sat_sDput {i : Nat} {mk m : ME} : (sDput i mk m ρ).sat N = (m ρ).sat fun v ρ1 => vsat v fun d => osat (ρ1[i]?) fun s => osat (dctS s) fun _ => (mk ρ1).sat fun vk ρ2 => osat (keyP vk) fun k => osat (ρ2[i]?) fun s0 => osat (keyOf k) fun _ => osat (dctS s0) fun p =>
    (atomK p.1 = true ∧ p.1.length < sizeLine) ∧ N.nx (ρ2.set i (reS s0 (.dct (putKs p.1 k) (putD p.1 p.2 k d)))) := by
  unfold sDput dctS
  simp only [R.sat_bindS]
  refine R.sat_ext fun v ρ1 => ?_
  cases v with
  | bor => rfl
  | own d =>
    simp only [vsat_own]
    cases ρ1[i]? with
    | none => rfl
    | some s =>
      simp only [osat_some, Option.bind_some]
      cases (slD s).bind asDct with
      | none => rfl
      | some _ =>
        simp only [R.sat_bindS, osat_some]
        refine R.sat_ext fun vk ρ2 => ?_
        cases vk with
        | bor => rfl
        | own dk =>
          cases dk with
          | lst => rfl
          | dct => rfl
          | imm k =>
            simp only [keyP_own, osat_some]
            cases ρ2[i]? with
            | none => rfl
            | some s0 =>
              simp only [osat_some]
              cases keyOf k with
              | none => rfl
              | some _ =>
                simp only [osat_some]
                cases (slD s0).bind asDct with
                | none => rfl
                | some p =>
                  simp only [osat_some]
                  by_cases h : atomK p.1 = true ∧ p.1.length < sizeLine
                  · rw [if_pos h]; simp [h]
                  · rw [if_neg h]; simp [h, SR.sat]
@[simp] theorem sat_sAug {i : Nat} {f : D → D → Option D} {m : ME} : (sAug i f m ρ).sat N = osat (ρ[i]?) fun s => osat (rdSlot i s) fun v0 => osat (keyP v0) fun p => (m ρ).sat fun v ρ1 => osat (f (.imm p) v.d) fun r => osat (keyP (.own r)) fun r => frees ρ1[i]? = true ∧ N.nx (ρ1.set i (.own (.imm r))) := by
  unfold sAug
  cases ρ[i]? with
  | none => rfl
  | some s =>
    simp only [osat_some, Option.bind_some]
    cases rdSlot i s with
    | none => rfl
    | some v0 =>
      simp only [osat_some]
      cases v0 with
      | bor => rfl
      | own d0 =>
        cases d0 with
        | lst => rfl
        | dct => rfl
        | imm p =>
          simp only [keyP_own, osat_some, R.sat_bindS]
          refine R.sat_ext fun v ρ1 => ?_
          cases f (.imm p) v.d with
          | none => rfl
          | some r =>
            simp only [osat_some]
            cases r with
            | lst => rfl
            | dct => rfl
            | imm r =>
              simp only [keyP_own, osat_some]
              by_cases h : frees ρ1[i]? = true
              · rw [if_pos h]; simp [h]
              · rw [if_neg h]; simp [h, SR.sat]
@[simp] theorem sat_iRg {f : List D → Option (List MV.P)} {ms : MA} : (iRg f ms ρ).sat PI = (ms ρ).sat fun ds ρ1 => osat (f ds) fun ps => PI (ps, none) ρ1 := by
  unfold iRg
  simp only [R.sat_bind]
  refine R.sat_ext fun ds ρ1 => ?_
  cases f ds <;> rfl
@[simp] theorem sat_sFor {g : Tg} {mi : MI} {b : MS} : (sFor g mi b ρ).sat N = (mi ρ).sat fun pl ρ1 => (forK g b pl.1 pl.2 ρ1).sat N := by
  unfold sFor
  simp only [R.sat_bindS]
@[simp] theorem forK_none {g : Tg} {b : MS} {ps : List MV.P} : forK g b ps none ρ = forL g b ps ρ := (rfl)
theorem sat_mapS {r : SR} {f : Sl → Sl} : (r.mapS f).sat N = r.sat { nx := fun ρ => N.nx (f ρ), bk := fun ρ => N.bk (f ρ), ct := fun ρ => N.ct (f ρ), rt := fun d ρ => N.rt d (f ρ) } := by cases r <;> rfl
/-- THE RULE of a loop: J of what is left -/
theorem sat_forL {g : Tg} {b : MS} {N : En} (J : List MV.P → Sl → Prop) (step : ∀ p ps ρ, J (p :: ps) ρ → osat (bindG g (.imm p) ρ) fun ρ1 => (b ρ1).sat { nx := J ps, ct := J ps, bk := N.nx, rt := N.rt }) (fin : ∀ ρ, J [] ρ → N.nx ρ) : ∀ (ps : List MV.P) (ρ : Sl), J ps ρ → (forL g b ps ρ).sat N
  | [], ρ, h => by
    unfold forL
    exact fin ρ h
  | p :: ps, ρ, h => by
    have s := step p ps ρ h
    unfold forL
    cases q : bindG g (.imm p) ρ with
    | none => rw [q] at s; exact s.elim
    | some ρ1 =>
      rw [q] at s
      simp only [osat_some] at s
      simp only []
      revert s
      cases b ρ1 with
      | nx ρ2 => exact fun s => sat_forL J step fin ps ρ2 s
      | ct ρ2 => exact fun s => sat_forL J step fin ps ρ2 s
      | bk ρ2 => exact fun s => s
      | rt d ρ2 => exact fun s => s
      | exc => exact fun s => s
      | stuck => exact fun s => s
theorem sat_runF {n : Nat} {m : MS} {ss : Sl} {Q : D → Sl → Prop} : (runF n m ss).sat Q = (m (ss ++ List.replicate (n - ss.length) .no)).sat { nx := fun ρ => Q (.imm .non) (outs ss ρ), rt := fun d ρ => Q d (outs ss ρ) } := by
  unfold runF
  cases m (ss ++ List.replicate (n - ss.length) .no) <;> rfl
end
end MV

set_option Elab.async false
set_option linter.all false
set_option maxRecDepth 100000
set_option maxHeartbeats 1000000
/-! P1: the jar of drawn numbers. -/
namespace MV
open PySem L2
@[simp] theorem rd_own {i : Nat} {p : P} : rdSlot i (.own (.imm p)) = some (.own (.imm p)) := (rfl)
@[simp] theorem rd_pin {i : Nat} {p : P} : rdSlot i (.pin (.imm p)) = some (.own (.imm p)) := (rfl)
@[simp] theorem rd_ro {i : Nat} {p : P} : rdSlot i (.ro (.imm p)) = some (.own (.imm p)) := (rfl)
@[simp] theorem rd_ownL {i : Nat} {ds : List D} : rdSlot i (.own (.lst ds)) = some (.bor (.lst ds) i) := (rfl)
@[simp] theorem rd_pinL {i : Nat} {ds : List D} : rdSlot i (.pin (.lst ds)) = some (.bor (.lst ds) i) := (rfl)
@[simp] theorem rd_roL {i : Nat} {ds : List D} : rdSlot i (.ro (.lst ds)) = some (.bor (.lst ds) i) := (rfl)
@[simp] theorem rd_ownD {i : Nat} {ks : List P} {ds : List D} : rdSlot i (.own (.dct ks ds)) = some (.bor (.dct ks ds) i) := (rfl)
@[simp] theorem rd_pinD {i : Nat} {ks : List P} {ds : List D} : rdSlot i (.pin (.dct ks ds)) = some (.bor (.dct ks ds) i) := (rfl)
@[simp] theorem rd_roD {i : Nat} {ks : List P} {ds : List D} : rdSlot i (.ro (.dct ks ds)) = some (.bor (.dct ks ds) i) := (rfl)
@[simp] theorem mv_own {i : Nat} {p : P} {ρ : Sl} : mvS i ρ (.own (.imm p)) = some (.own (.imm p), ρ) := (rfl)
@[simp] theorem mv_pin {i : Nat} {p : P} {ρ : Sl} : mvS i ρ (.pin (.imm p)) = some (.own (.imm p), ρ) := (rfl)
@[simp] theorem mv_ro {i : Nat} {p : P} {ρ : Sl} : mvS i ρ (.ro (.imm p)) = some (.own (.imm p), ρ) := (rfl)
@[simp] theorem mv_ownL {i : Nat} {ds : List D} {ρ : Sl} : mvS i ρ (.own (.lst ds)) = some (.own (.lst ds), ρ.set i .no) := (rfl)
@[simp] theorem mv_ownD {i : Nat} {ks : List P} {ds : List D} {ρ : Sl} : mvS i ρ (.own (.dct ks ds)) = some (.own (.dct ks ds), ρ.set i .no) := (rfl)
@[simp] theorem pick_imm {v : Val} {p : P} : pick v (.imm p) = some (.own (.imm p)) := (rfl)
@[simp] theorem pick_lst {d : D} {i : Nat} {ds : List D} : pick (.bor d i) (.lst ds) = some (.bor (.lst ds) i) := (rfl)
@[simp] theorem pick_dct {d : D} {i : Nat} {ks : List P} {ds : List D} : pick (.bor d i) (.dct ks ds) = some (.bor (.dct ks ds) i) := (rfl)
@[simp] theorem bld_nil {ρ : Sl} : bld [] [] ρ = some [] := (rfl)
@[simp] theorem bld_own {ls : List Ln} {d : D} {ds : List (Option D)} {ρ : Sl} : bld (none :: ls) (some d :: ds) ρ = (bld ls ds ρ).map fun r => .own d :: r := by rw [bld]
@[simp] theorem bld_lent {i : Nat} {b : Bool} {ls : List Ln} {ds : List (Option D)} {ρ : Sl} : bld (some (i, b) :: ls) (none :: ds) ρ = ((ρ[i]?).bind (slotFor b)).bind fun s => (bld ls ds ρ).map fun r => s :: r := by rw [bld]
@[simp] theorem sf_own {b : Bool} {p : P} : slotFor b (.own (.imm p)) = some (.own (.imm p)) := (rfl)
@[simp] theorem sf_pin {b : Bool} {p : P} : slotFor b (.pin (.imm p)) = some (.own (.imm p)) := (rfl)
@[simp] theorem sf_ro {b : Bool} {p : P} : slotFor b (.ro (.imm p)) = some (.own (.imm p)) := (rfl)
@[simp] theorem sf_ownL {ds : List D} {b : Bool} : slotFor b (.own (.lst ds)) = some (if b = true then .pin (.lst ds) else .ro (.lst ds)) := (rfl)
@[simp] theorem sf_pinL {ds : List D} {b : Bool} : slotFor b (.pin (.lst ds)) = some (if b = true then .pin (.lst ds) else .ro (.lst ds)) := (rfl)
@[simp] theorem sf_ownD {ks : List P} {ds : List D} {b : Bool} : slotFor b (.own (.dct ks ds)) = some (if b = true then .pin (.dct ks ds) else .ro (.dct ks ds)) := (rfl)
@[simp] theorem sf_pinD {ks : List P} {ds : List D} {b : Bool} : slotFor b (.pin (.dct ks ds)) = some (if b = true then .pin (.dct ks ds) else .ro (.dct ks ds)) := (rfl)
@[simp] theorem sf_roL {ds : List D} : slotFor false (.ro (.lst ds)) = some (.ro (.lst ds)) := (rfl)
@[simp] theorem sf_roD {ks : List P} {ds : List D} : slotFor false (.ro (.dct ks ds)) = some (.ro (.dct ks ds)) := (rfl)
@[simp] theorem back_nil {ρ : Sl} : back [] [] [] ρ = some ρ := by rw [back]
@[simp] theorem back_none {ls : List Ln} {a b : Slot} {ss os ρ : Sl} : back (none :: ls) (a :: ss) (b :: os) ρ = back ls ss os ρ := by
  rw [back] <;> simp
@[simp] theorem back_ro {ls : List Ln} {i : Nat} {a b : Slot} {ss os ρ : Sl} : back (some (i, false) :: ls) (a :: ss) (b :: os) ρ = back ls ss os ρ := by
  rw [back] <;> simp
@[simp] theorem back_pin {ls : List Ln} {i : Nat} {d1 d : D} {ss os ρ : Sl} : back (some (i, true) :: ls) (.pin d1 :: ss) (.pin d :: os) ρ = (putBack ρ i d).bind fun ρ1 => back ls ss os ρ1 := by rw [back]
@[simp] theorem back_own {ls : List Ln} {i : Nat} {d1 : D} {b : Slot} {ss os ρ : Sl} : back (some (i, true) :: ls) (.own d1 :: ss) (b :: os) ρ = back ls ss os ρ := by
  rw [back] <;> simp
def putB (ρ : Sl) (i : Nat) (d : D) : Slot → Option Sl
  | .own _ => some (ρ.set i (.own d))
  | .pin _ => some (ρ.set i (.pin d))
  | _ => none
@[simp] theorem putBack_eq {ρ : Sl} {i : Nat} {d : D} : putBack ρ i d = (ρ[i]?).bind (putB ρ i d) := by
  unfold putBack
  cases ρ[i]? with
  | none => rfl
  | some s => cases s <;> rfl
@[simp] theorem putB_own {ρ : Sl} {i : Nat} {d e : D} : putB ρ i d (.own e) = some (ρ.set i (.own d)) := (rfl)
@[simp] theorem putB_pin {ρ : Sl} {i : Nat} {d e : D} : putB ρ i d (.pin e) = some (ρ.set i (.pin d)) := (rfl)
@[simp] theorem outs_nil {ρ : Sl} : outs [] ρ = [] := by rw [outs]
@[simp] theorem outs_pin {d : D} {ss ρ : Sl} {s : Slot} : outs (.pin d :: ss) (s :: ρ) = s :: outs ss ρ := by rw [outs]
@[simp] theorem outs_own {d : D} {ss ρ : Sl} {s : Slot} : outs (.own d :: ss) (s :: ρ) = .no :: outs ss ρ := by rw [outs] <;> simp
@[simp] theorem outs_ro {d : D} {ss ρ : Sl} {s : Slot} : outs (.ro d :: ss) (s :: ρ) = .no :: outs ss ρ := by rw [outs] <;> simp
/-! operations -/
@[simp] theorem fAdd_i {i j : Int} : fAdd (.imm (.int i)) (.imm (.int j)) = some (.imm (.int (i + j))) := (rfl)
@[simp] theorem fSub_i {i j : Int} : fSub (.imm (.int i)) (.imm (.int j)) = some (.imm (.int (i - j))) := (rfl)
@[simp] theorem fMul_i {i j : Int} : fMul (.imm (.int i)) (.imm (.int j)) = if okMul i j = true then some (.imm (.int (i * j))) else none := (rfl)
@[simp] theorem fFdiv_i {i j : Int} : fFdiv (.imm (.int i)) (.imm (.int j)) = if okDiv j = true then some (.imm (.int (i / j))) else none := (rfl)
@[simp] theorem fMod_i {i j : Int} : fMod (.imm (.int i)) (.imm (.int j)) = if 0 < j then some (.imm (.int (i % j))) else none := (rfl)
@[simp] theorem fPow_i {i j : Int} : fPow (.imm (.int i)) (.imm (.int j)) = if okPow i j = true then some (.imm (.int (i ^ j.toNat))) else none := (rfl)
@[simp] theorem fNeg_i {i : Int} : fNeg (.imm (.int i)) = some (.imm (.int (-i))) := (rfl)
@[simp] theorem fLt_i {i j : Int} : fLt (.imm (.int i)) (.imm (.int j)) = some (.imm (.bl (decide (i < j)))) := (rfl)
@[simp] theorem fLe_i {i j : Int} : fLe (.imm (.int i)) (.imm (.int j)) = some (.imm (.bl (decide (i ≤ j)))) := (rfl)
@[simp] theorem fGt_i {i j : Int} : fGt (.imm (.int i)) (.imm (.int j)) = some (.imm (.bl (decide (j < i)))) := (rfl)
@[simp] theorem fGe_i {i j : Int} : fGe (.imm (.int i)) (.imm (.int j)) = some (.imm (.bl (decide (j ≤ i)))) := (rfl)
@[simp] theorem fEq_i {i j : Int} : fEq (.imm (.int i)) (.imm (.int j)) = some (.imm (.bl (decide (i = j)))) := (rfl)
@[simp] theorem fNe_i {i j : Int} : fNe (.imm (.int i)) (.imm (.int j)) = some (.imm (.bl (!decide (i = j)))) := (rfl)
@[simp] theorem cAbs_i {i : Int} : cAbs [.imm (.int i)] = some (.imm (.int (if i < 0 then -i else i))) := (rfl)
@[simp] theorem cInt_i {i : Int} : cInt [.imm (.int i)] = some (.imm (.int i)) := (rfl)
@[simp] theorem cMin_i {i j : Int} : cMin2 [.imm (.int i), .imm (.int j)] = some (.imm (.int (if j < i then j else i))) := (rfl)
@[simp] theorem cMax_i {i j : Int} : cMax2 [.imm (.int i), .imm (.int j)] = some (.imm (.int (if j > i then j else i))) := (rfl)
@[simp] theorem cLen_l {ds : List D} : cLen [.lst ds] = some (.imm (.int ds.length)) := (rfl)
@[simp] theorem cLen_p {ps : List P} : cLen [.imm (.lst ps)] = some (.imm (.int ps.length)) := (rfl)
@[simp] theorem cLen_t {ps : List P} : cLen [.imm (.tup ps)] = some (.imm (.int ps.length)) := (rfl)
@[simp] theorem cGcd_i {i j : Int} : cGcd [.imm (.int i), .imm (.int j)] = some (.imm (.int ((Nat.gcd i.natAbs j.natAbs : Nat) : Int))) := (rfl)
@[simp] theorem item_t {ps : List P} {i : Int} : item (.imm (.tup ps)) (.int i) = (atI ps i).map .imm := by rw [item]
@[simp] theorem item_p {ps : List P} {i : Int} : item (.imm (.lst ps)) (.int i) = (atI ps i).map .imm := by rw [item]
@[simp] theorem item_l {ds : List D} {i : Int} : item (.lst ds) (.int i) = atI ds i := by rw [item]
@[simp] theorem item_d {ks : List P} {ds : List D} {k : Str} : item (.dct ks ds) (.str k) = itemD (.dct ks ds) (.str k) := by
  rw [item] <;> first
    | rfl
    | (intro _ _ _ h; cases h)
@[simp] theorem rng1_i {j : Int} : rng1 [.imm (.int j)] = if lim62 j = true then some (rngL 0 j.toNat) else none := (rfl)
@[simp] theorem rng2_i {i j : Int} : rng2 [.imm (.int i), .imm (.int j)] = if (lim62 i && lim62 j) = true then some (rngL i (j - i).toNat) else none := (rfl)
@[simp] theorem frzs_nil : frzs [] = [] := by rw [frzs]
@[simp] theorem frzs_cons {d : D} {ds : List D} : frzs (d :: ds) = frz d :: frzs ds := by rw [frzs]
@[simp] theorem frz_imm {p : P} : frz (.imm p) = p := by rw [frz]
theorem rngL_succ {lo : Int} {n : Nat} : rngL lo (n + 1) = .int lo :: rngL (lo + 1) n := by
  unfold rngL
  rw [List.range_succ_eq_map, List.map_cons, List.map_map]
  congr 1
  · simp
  · apply List.map_congr_left
    intro a _
    simp only [Function.comp]
    congr 1
    omega
@[simp] theorem rngL_zero {lo : Int} : rngL lo 0 = [] := (rfl)

theorem atI_some {α : Type} {xs : List α} {i : Int} (h0 : 0 ≤ i) (h : i < xs.length) : ∃ x, atI xs i = some x ∧ xs[i.toNat]? = some x := by
  unfold atI ixN
  rw [if_pos h0, if_pos h]
  have : i.toNat < xs.length := by omega
  exact ⟨xs[i.toNat], by simp [this], by simp [this]⟩

/-! ### the jar -/
def intsD (row : List Int) : List D := row.map fun n => .imm (.int n)
def jarD (row : List Int) (k : Int) : D := .dct [.str "row", .str "at"] [.lst (intsD row), .imm (.int k)]
namespace Jar
def m_take : MS := (sSeq (sAsg (.nm 2) (eGt true (eGtN 0 (eC (.str "row"))) (e2 true fMod (eB cInt (vCons true (eGtN 0 (eC (.str "at"))) aNil)) (eB cLen (vCons true (eGtN 0 (eC (.str "row"))) aNil)))))
    (sSeq (sDput 0 (eC (.str "at")) (e2 true fAdd (eGtN 0 (eC (.str "at"))) (eC (.int 1))))
    (sRet (e2 true fMod (eB cInt (vCons true (eN 2) aNil)) (eN 1)))))
def F_take : FS := runF 3 m_take
end Jar
@[simp] theorem keyOf_str {x : Str} : keyOf (.str x) = some (.inr x) := (rfl)
@[simp] theorem keyOf_int {x : Int} : keyOf (.int x) = some (.inl x) := (rfl)
theorem jar_ks : putKs [.str "row", .str "at"] (.str "at") = [.str "row", .str "at"] := rfl
theorem jar_put {a b d : D} : putD [.str "row", .str "at"] [a, b] (.str "at") d = [a, d] := rfl
theorem jar_atom : atomK [.str "row", .str "at"] = true := rfl
theorem small_line {n : Nat} (h : n ≤ 100000) : n < sizeLine := Nat.lt_of_le_of_lt h (by decide)
theorem jar_row {row : List Int} {k : Int} : itemD (.dct [.str "row", .str "at"] [.lst (intsD row), .imm (.int k)]) (.str "row") = some (.lst (intsD row)) := rfl
theorem jar_at {row : List Int} {k : Int} : itemD (.dct [.str "row", .str "at"] [.lst (intsD row), .imm (.int k)]) (.str "at") = some (.imm (.int k)) := rfl
theorem take_ok {row : List Int} {k many : Int} (hr : row ≠ []) (hk : 0 ≤ k) (hm : 0 < many) : (Jar.F_take [.pin (jarD row k), .own (.imm (.int many))]).sat fun r os => ∃ v, 0 ≤ v ∧ v < many ∧ r = .imm (.int v) ∧ os = [.pin (jarD row (k + 1)), .no] := by
  have hl : (0 : Int) < (intsD row).length := by
    unfold intsD
    rw [List.length_map]
    have := List.length_pos_iff.mpr hr
    omega
  have h1 := Int.emod_nonneg k (Int.ne_of_gt hl)
  have h2 := Int.emod_lt_of_pos k hl
  obtain ⟨x, e1, e2⟩ := atI_some h1 h2
  obtain ⟨n, en⟩ : ∃ n, x = .imm (.int n) := by
    have := List.mem_of_getElem? e2
    obtain ⟨n, _, e⟩ := List.mem_map.mp this
    exact ⟨n, e.symm⟩
  subst en
  unfold Jar.F_take Jar.m_take jarD
  rw [sat_runF]
  simp [jar_row, jar_at, hl, e1, hm, jar_ks, jar_put, jar_atom]
  exact ⟨by omega, small_line (by omega), Int.emod_nonneg n (Int.ne_of_gt hm), Int.emod_lt_of_pos n hm⟩

/-- a loop over a range -/
theorem sat_rng {i : Nat} {b : MS} {N : En} {lo : Int} {n : Nat} {ρ : Sl} (J : Nat → Sl → Prop) (h0 : J 0 ρ) (step : ∀ k ρ, k < n → J k ρ → frees ρ[i]? = true ∧ (b (ρ.set i (.own (.imm (.int (lo + k)))))).sat { nx := J (k + 1), ct := J (k + 1), bk := N.nx, rt := N.rt }) (fin : ∀ ρ, J n ρ → N.nx ρ) : (forL (.nm i) b (rngL lo n) ρ).sat N := by
  refine sat_forL (fun ps ρ => ∃ k, k ≤ n ∧ ps = rngL (lo + k) (n - k) ∧ J k ρ) (fun p ps ρ h => ?_) (fun ρ h => ?_) _ ρ ⟨0, Nat.zero_le _, by simp, h0⟩
  · obtain ⟨k, hk, e, hj⟩ := h
    cases q : n - k with
    | zero => rw [q] at e; cases e
    | succ m =>
      rw [q, rngL_succ] at e
      cases e
      obtain ⟨h1, h2⟩ := step k ρ (by omega) hj
      rw [bindG_nm, if_pos h1, osat_some]
      refine SR.sat_mono h2 (fun ρ h => ?_) (fun ρ h => h) (fun ρ h => ?_) (fun d ρ h => h)
      · exact ⟨k + 1, by omega, by congr 1 <;> omega, h⟩
      · exact ⟨k + 1, by omega, by congr 1 <;> omega, h⟩
  · obtain ⟨k, hk, e, hj⟩ := h
    cases q : n - k with
    | zero =>
      have : k = n := by omega
      subst this
      exact fin ρ hj
    | succ m => rw [q, rngL_succ] at e; cases e
namespace Jar
def b_jar : MS := sSeq (sAsg (.nm 5) (eB cAbs (vCons true (eB cInt (vCons true (eGtN 0 (eN 4)) aNil)) aNil)))
      (sSeq (sAsg (.nm 3) (e2 true fMod (eB cInt (vCons true (e2 true fAdd (e2 true fAdd (e2 true fMul (eN 3) (eC (.int 31))) (e2 true fMul (eN 5) (eC (.int 7)))) (eN 4)) aNil)) (eC (.int 1000003))))
      (sIf (toB (e2 true fLt (eN 5) (e2 true fPow (eC (.int 10)) (eC (.int 18))))) (sSeq (sApp 2 (e2 true fMod (eB cInt (vCons true (e2 true fAdd (e2 true fAdd (e2 true fMul (eN 5) (eC (.int 48271))) (e2 true fMul (eN 4) (eC (.int 69621)))) (eC (.int 11))) aNil)) (eC (.int 1000003))))
        (sApp 2 (e2 true fMod (eB cInt (vCons true (e2 true fAdd (e2 true fAdd (e2 true fAdd (e2 true fMul (e2 true fMul (eN 5) (eN 5)) (eC (.int 7919))) (e2 true fMul (eN 5) (eC (.int 104729)))) (e2 true fMul (eN 4) (eC (.int 613)))) (eC (.int 5))) aNil)) (eC (.int 1000003))))) (sFor (.nm 6) (iRg rng1 (vCons true (eN 1) aNil)) (sIf (toB (e2 true fGt (eN 5) (eC (.int 0)))) (sSeq (sApp 2 (e2 true fMod (eB cInt (vCons true (eN 5) aNil)) (eC (.int 1000003))))
            (sAsg (.nm 5) (e2 true fFdiv (eN 5) (eC (.int 1000003))))) sNx))))
def m_jar : MS := (sSeq (sAsg (.nm 2) (eLst aNil))
    (sSeq (sAsg (.nm 3) (eC (.int 17)))
    (sSeq (sFor (.nm 4) (iRg rng1 (vCons true (eB cMin2 (vCons true (eB cLen (vCons true (eN 0) aNil)) (vCons true (eC (.int 63)) aNil))) aNil)) b_jar)
    (sSeq (sFor (.nm 4) (iRg rng1 (vCons true (eN 1) aNil)) (sSeq (sAsg (.nm 3) (e2 true fMod (eB cInt (vCons true (e2 true fAdd (e2 true fAdd (e2 true fAdd (e2 true fMul (eN 3) (eN 3)) (e2 true fMul (eN 3) (eC (.int 48271)))) (e2 true fMul (eN 4) (eC (.int 7919)))) (eC (.int 13))) aNil)) (eC (.int 1000003))))
      (sApp 2 (eM 3))))
    (sRet (eDct (aCons (eC (.str "row")) (aCons (eSl true true (eN 2) oNone (oSome (eN 1))) (aCons (eC (.str "at")) (aCons (eC (.int 0)) aNil))))))))))
def F_jar : FS := runF 7 m_jar
end Jar
theorem okMul_r {i j : Int} (h : sm64 j = true) : okMul i j = true := by unfold okMul; rw [h]; simp
theorem okMul_l {i j : Int} (h : sm64 i = true) : okMul i j = true := by unfold okMul; rw [h]; simp
theorem sm64_of {i : Int} (h1 : -18446744073709551616 < i) (h2 : i < 18446744073709551616) : sm64 i = true := by
  unfold sm64
  have e : (2 : Int) ^ 64 = 18446744073709551616 := by decide
  rw [e]
  simp [h1, h2]
theorem intsD_append {a : List Int} {n : Int} : intsD a ++ [.imm (.int n)] = intsD (a ++ [n]) := by unfold intsD; simp
theorem allImm_ints : ∀ row : List Int, allImm (intsD row) = some (row.map P.int)
  | [] => by simp [intsD, allImm]
  | n :: row => by
    have := allImm_ints row
    unfold intsD at this ⊢
    simp [allImm, this]

theorem items_ok {ns : List Int} {k : Nat} (h : k < ns.length) : ∃ x, atI (ns.map P.int) (k : Int) = some (.int x) := by
  obtain ⟨p, e1, e2⟩ := atI_some (xs := ns.map P.int) (i := (k : Int)) (by omega) (by simp; omega)
  have := List.mem_of_getElem? e2
  obtain ⟨n, _, e⟩ := List.mem_map.mp this
  exact ⟨n, by rw [e1, ← e]⟩
theorem inner_ok {S M s4 : Slot} {most : Int} {found : List Int} {seed cell : Int} {s6 : Slot} {N : En} (hM : M = .own (.imm (.int most))) (h0 : 0 < most) (h1 : most ≤ 1000) (hf : found.length ≤ 70000) (h6 : frees (some s6) = true)
    (hN : ∀ found' cell' s6', frees (some s6') = true → found'.length ≤ found.length + 1000 → N.nx [S, M, .own (.lst (intsD found')), .own (.imm (.int seed)), s4, .own (.imm (.int cell')), s6']) :
    (forL (.nm 6) (sIf (toB (e2 true fGt (eN 5) (eC (.int 0)))) (sSeq (sApp 2 (e2 true fMod (eB cInt (vCons true (eN 5) aNil)) (eC (.int 1000003))))
            (sAsg (.nm 5) (e2 true fFdiv (eN 5) (eC (.int 1000003))))) sNx) (rngL 0 most.toNat) [S, M, .own (.lst (intsD found)), .own (.imm (.int seed)), s4, .own (.imm (.int cell)), s6]).sat N := by
  refine sat_rng (fun k ρ => ∃ found' cell' s6', frees (some s6') = true ∧ found'.length ≤ found.length + k ∧ ρ = [S, M, .own (.lst (intsD found')), .own (.imm (.int seed)), s4, .own (.imm (.int cell')), s6']) ⟨found, cell, s6, h6, by omega, rfl⟩ (fun k ρ hk h => ?_) (fun ρ h => ?_)
  · obtain ⟨f, c, s, e1, e2, e3⟩ := h
    subst e3
    have hd : okDiv 1000003 = true := by decide
    have hlen : (intsD f).length < sizeLine := small_line (by unfold intsD; rw [List.length_map]; omega)
    refine ⟨by simpa using e1, ?_⟩
    simp [hlen, hd, intsD_append]
    exact ⟨fun _ => ⟨f ++ [c % 1000003], _, .own (.imm (.int k)), rfl, by simp; omega, rfl, rfl, rfl⟩, fun _ => ⟨f, _, .own (.imm (.int k)), rfl, by omega, rfl, rfl, rfl⟩⟩
  · obtain ⟨f, c, s, e1, e2, e3⟩ := h
    subst e3
    exact hN f c s e1 (by omega)
theorem lim62_of {i : Int} (h1 : 0 ≤ i) (h2 : i ≤ 1000000) : lim62 i = true := by
  unfold lim62
  have e : (2 : Int) ^ 62 = 4611686018427387904 := by decide
  rw [e]
  simp
  omega
theorem s48 : sm64 48271 = true := by decide +kernel
theorem s69 : sm64 69621 = true := by decide +kernel
theorem s79 : sm64 7919 = true := by decide +kernel
theorem s10 : sm64 104729 = true := by decide +kernel
theorem s61 : sm64 613 = true := by decide +kernel
theorem s31 : sm64 31 = true := by decide +kernel
theorem s7 : sm64 7 = true := by decide +kernel
theorem p1018 : okPow 10 18 = true := by decide +kernel
theorem ten18 : (10 : Int) ^ (18 : Int).toNat = 1000000000000000000 := by simp
theorem pow18 : fPow (.imm (.int 10)) (.imm (.int 18)) = some (.imm (.int 1000000000000000000)) := by rw [fPow_i, if_pos p1018, ten18]
theorem body_ok {ns : List Int} {most : Int} {found : List Int} {seed : Int} {k : Nat} {s5 s6 : Slot} {N : En} (hk : k < ns.length) (hl : ns.length ≤ 63) (h0 : 0 < most) (h1 : most ≤ 1000) (hs : 0 ≤ seed ∧ seed < 1000003) (hf : found.length ≤ 65000) (h5 : frees (some s5) = true) (h6 : frees (some s6) = true)
    (hN : ∀ found' seed' s5' s6', frees (some s5') = true → frees (some s6') = true → 0 ≤ seed' ∧ seed' < 1000003 → found'.length ≤ found.length + 1002 → N.nx [.own (.imm (.lst (ns.map P.int))), .own (.imm (.int most)), .own (.lst (intsD found')), .own (.imm (.int seed')), .own (.imm (.int k)), s5', s6']) :
    (Jar.b_jar [.own (.imm (.lst (ns.map P.int))), .own (.imm (.int most)), .own (.lst (intsD found)), .own (.imm (.int seed)), .own (.imm (.int k)), s5, s6]).sat N := by
  obtain ⟨x, hx⟩ := items_ok hk
  have hlen : ∀ f : List Int, f.length ≤ 70000 → (intsD f).length < sizeLine := fun f h => small_line (by unfold intsD; rw [List.length_map]; omega)
  have r31 : okMul seed 31 = true := okMul_r s31
  unfold Jar.b_jar
  simp [hx, h5, r31, pow18, -fPow_i]
  generalize hc : (if x < 0 then -x else x) = c
  have c0 : 0 ≤ c := by omega
  have r7 : okMul c 7 = true := okMul_r s7
  have sd : ∀ y : Int, 0 ≤ y % 1000003 ∧ y % 1000003 < 1000003 := fun y => ⟨Int.emod_nonneg _ (by decide), Int.emod_lt_of_pos _ (by decide)⟩
  refine ⟨r7, fun hlt => ?_, fun hge => ?_⟩
  · refine ⟨okMul_r s48, okMul_r s69, hlen _ (by omega), okMul_r (sm64_of (by omega) (by omega)), okMul_r s79, okMul_r s10, okMul_r s61, ?_, ?_⟩
    · have := hlen (found ++ [0]) (by rw [List.length_append, List.length_singleton]; omega)
      rw [show (intsD (found ++ [0])).length = (intsD found).length + 1 by simp [intsD]] at this
      exact this
    · have e : intsD found ++ [D.imm (P.int ((c * 48271 + (k : Int) * 69621 + 11) % 1000003)), D.imm (P.int ((c * c * 7919 + c * 104729 + (k : Int) * 613 + 5) % 1000003))] = intsD (found ++ [(c * 48271 + (k : Int) * 69621 + 11) % 1000003, (c * c * 7919 + c * 104729 + (k : Int) * 613 + 5) % 1000003]) := by simp [intsD]
      rw [e]
      exact hN _ _ _ _ rfl h6 (sd _) (by simp)
  · refine ⟨lim62_of (by omega) (by omega), inner_ok rfl h0 h1 (by omega) h6 fun f c' s6' q1 q2 => hN f _ _ _ rfl q1 (sd _) (by omega)⟩
@[simp] theorem partD_non : partD (.imm .non) = some none := (rfl)
@[simp] theorem partD_int {i : Int} : partD (.imm (.int i)) = some (some i) := (rfl)
@[simp] theorem cutD_t {ps : List P} {l h : Option Int} : cutD (.imm (.tup ps)) l h = some (.imm (.tup (cutP ps l h))) := (rfl)
theorem cutP_map {α β : Type} (f : α → β) (xs : List α) (l h : Option Int) : cutP (xs.map f) l h = (cutP xs l h).map f := by
  unfold cutP
  rw [List.length_map, List.map_take, List.map_drop]
@[simp] theorem cutD_i {row : List Int} {l h : Option Int} : cutD (.lst (intsD row)) l h = some (.lst (intsD (cutP row l h))) := by
  unfold cutD
  simp only [seqL, allImm_ints, Option.map_some, cutP_map]
  unfold intsD
  rw [List.map_map]
  rfl
@[simp] theorem pairsOf_nil : pairsOf [] = some ([], []) := by rw [pairsOf]
@[simp] theorem pairsOf_cons {k : P} {d : D} {r : List D} : pairsOf (.imm k :: d :: r) = if (keyOf k).isSome = true then (pairsOf r).map fun p => (k :: p.1, d :: p.2) else none := by rw [pairsOf]
theorem jar_nodup : nodupK [.str "row", .str "at"] = true := (rfl)
theorem cut_len {α : Type} {xs : List α} {m : Int} (h0 : 0 ≤ m) (h : m ≤ xs.length) : (cutP xs none (some m)).length = m.toNat := by
  unfold cutP
  simp only [HT.sIx]
  rw [if_neg (by omega), List.length_take, List.drop_zero]
  omega
theorem jar_ok {ns : List Int} {most : Int} (hl : ns.length ≤ 63) (h0 : 0 < most) (h1 : most ≤ 1000) : (Jar.F_jar [.own (.imm (.lst (ns.map P.int))), .own (.imm (.int most))]).sat fun r os => ∃ row, row ≠ [] ∧ r = jarD row 0 ∧ os = [.no, .no] := by
  unfold Jar.F_jar Jar.m_jar
  rw [sat_runF]
  simp
  refine ⟨lim62_of (by omega) (by omega), ?_⟩
  generalize hn : (if (63 : Int) < (ns.length : Int) then (63 : Int) else (ns.length : Int)).toNat = n
  have hn2 : n ≤ ns.length := by omega
  refine sat_rng (fun k ρ => ∃ found seed s4 s5 s6, frees (some s4) = true ∧ frees (some s5) = true ∧ frees (some s6) = true ∧ (0 ≤ seed ∧ seed < 1000003) ∧ found.length ≤ k * 1002 ∧ ρ = [.own (.imm (.lst (ns.map P.int))), .own (.imm (.int most)), .own (.lst (intsD found)), .own (.imm (.int seed)), s4, s5, s6])
    ⟨[], 17, .no, .no, .no, rfl, rfl, rfl, by omega, by simp, rfl⟩ (fun k ρ hk h => ?_) (fun ρ h => ?_)
  · obtain ⟨found, seed, s4, s5, s6, h4, h5, h6, hs, hf, e⟩ := h
    subst e
    refine ⟨by simpa using h4, ?_⟩
    simp
    exact body_ok (by omega) hl h0 h1 hs (by omega) h5 h6 fun f' s' a5 a6 q5 q6 qs qf => ⟨f', s', .own (.imm (.int k)), a5, a6, rfl, q5, q6, qs, by omega, by simp⟩
  · obtain ⟨found, seed, s4, s5, s6, h4, h5, h6, hs, hf, e⟩ := h
    subst e
    simp
    refine ⟨lim62_of (by omega) (by omega), ?_⟩
    refine sat_rng (fun k ρ => ∃ found' seed s4, frees (some s4) = true ∧ (0 ≤ seed ∧ seed < 1000003) ∧ found'.length = found.length + k ∧ ρ = [.own (.imm (.lst (ns.map P.int))), .own (.imm (.int most)), .own (.lst (intsD found')), .own (.imm (.int seed)), s4, s5, s6])
      ⟨found, seed, s4, h4, hs, rfl, rfl⟩ (fun k ρ hk h => ?_) (fun ρ h => ?_)
    · obtain ⟨f, sd, t4, g4, gs, gf, e⟩ := h
      subst e
      refine ⟨by simpa using g4, ?_⟩
      have hlen : (intsD f).length < sizeLine := small_line (by unfold intsD; rw [List.length_map]; omega)
      simp [hlen, intsD_append]
      exact ⟨okMul_r (sm64_of (by omega) (by omega)), okMul_r s48, okMul_r s79, f ++ [(sd * sd + sd * 48271 + (k : Int) * 7919 + 13) % 1000003], (sd * sd + sd * 48271 + (k : Int) * 7919 + 13) % 1000003, .own (.imm (.int k)), rfl, ⟨Int.emod_nonneg _ (by decide), Int.emod_lt_of_pos _ (by decide)⟩, by simp; omega, by simp⟩
    · obtain ⟨f, sd, t4, g4, gs, gf, e⟩ := h
      subst e
      simp [jar_nodup]
      refine ⟨cutP f none (some most), fun h => ?_, rfl⟩
      have := cut_len (xs := f) (m := most) (by omega) (by omega)
      rw [h, List.length_nil] at this
      omega
end MV

set_option Elab.async false
set_option linter.all false
set_option maxRecDepth 100000
set_option maxHeartbeats 1000000
/-! P2: walks over sequences, comprehensions, for simp. -/
namespace MV
open PySem L2
@[simp] theorem atI_0 {α : Type} {x : α} {xs : List α} : atI (x :: xs) 0 = some x := by
  unfold atI ixN
  simp
@[simp] theorem atI_1 {α : Type} {x y : α} {xs : List α} : atI (x :: y :: xs) 1 = some y := by
  unfold atI ixN
  simp
  rw [if_pos (by omega)]
  rfl
@[simp] theorem atI_2 {α : Type} {x y z : α} {xs : List α} : atI (x :: y :: z :: xs) 2 = some z := by
  unfold atI ixN
  simp
  rw [if_pos (by omega)]
  rfl
section
variable {ρ : Sl} {P : Val → Sl → Prop} {PI : List MV.P × Option Nat → Sl → Prop} {N : En}
def seqV (ρ : Sl) : Val → Option (List MV.P × Option Nat)
  | .own (.imm (.tup ps)) => some (ps, none)
  | .own (.imm (.lst ps)) => some (ps, none)
  | .own (.imm (.str z)) => some (signs z, none)
  | .own (.lst ds) => (allImm ds).map fun ps => (ps, none)
  | .bor (.lst ds) x => (allImm ds).bind fun ps => if isOwn ρ[x]? = true then some (ps, some x) else if isRo ρ[x]? = true then some (ps, none) else none
  | _ => none
@[simp] theorem sat_iSq {m : ME} : (iSq m ρ).sat PI = (m ρ).sat fun v ρ1 => osat (seqV ρ1 v) fun pl => PI pl ρ1 := by
  unfold iSq
  rw [R.sat_bind]
  refine R.sat_ext fun v ρ1 => ?_
  cases v with
  | own d =>
    cases d with
    | imm p => cases p <;> rfl
    | lst ds =>
      simp only [seqV]
      cases allImm ds <;> rfl
    | dct => rfl
  | bor d x =>
    cases d with
    | imm p => rfl
    | lst ds =>
      simp only [seqV]
      cases allImm ds with
      | none => rfl
      | some ps =>
        simp only [Option.bind_some]
        by_cases h : isOwn ρ1[x]? = true
        · rw [if_pos h, if_pos h]; rfl
        · rw [if_neg h, if_neg h]
          by_cases h2 : isRo ρ1[x]? = true
          · rw [if_pos h2, if_pos h2]; rfl
          · rw [if_neg h2, if_neg h2]; rfl
    | dct => rfl
@[simp] theorem seqV_t {ps : List MV.P} : seqV ρ (.own (.imm (.tup ps))) = some (ps, none) := (rfl)
@[simp] theorem seqV_p {ps : List MV.P} : seqV ρ (.own (.imm (.lst ps))) = some (ps, none) := (rfl)
@[simp] theorem seqV_l {ds : List D} : seqV ρ (.own (.lst ds)) = (allImm ds).map fun ps => (ps, none) := (rfl)
@[simp] theorem seqV_b {ds : List D} {x : Nat} : seqV ρ (.bor (.lst ds) x) = (allImm ds).bind fun ps => if isOwn ρ[x]? = true then some (ps, some x) else if isRo ρ[x]? = true then some (ps, none) else none := (rfl)
@[simp] theorem isOwn_own {d : D} : isOwn (some (.own d)) = true := (rfl)
@[simp] theorem isOwn_pin {d : D} : isOwn (some (.pin d)) = true := (rfl)
@[simp] theorem isOwn_ro {d : D} : isOwn (some (.ro d)) = false := (rfl)
@[simp] theorem isRo_ro {d : D} : isRo (some (.ro d)) = true := (rfl)
@[simp] theorem allImm_map : ∀ ps : List MV.P, allImm (ps.map .imm) = some ps
  | [] => by simp [allImm]
  | p :: ps => by simp [allImm, allImm_map ps]
@[simp] theorem allImm_comp {α : Type} {f : α → MV.P} {l : List α} : allImm (l.map (D.imm ∘ f)) = some (l.map f) := by
  rw [← List.map_map, allImm_map]
@[simp] theorem allImm_fun {α : Type} {f : α → MV.P} {l : List α} : allImm (l.map fun r => D.imm (f r)) = some (l.map f) := allImm_comp
@[simp] theorem allImm_ints' {row : List Int} : allImm (intsD row) = some (row.map .int) := allImm_ints row
@[simp] theorem allImm_nil : allImm [] = some [] := by rw [allImm]
@[simp] theorem allImm_cons {p : MV.P} {ds : List D} : allImm (.imm p :: ds) = (allImm ds).map fun r => p :: r := by rw [allImm]
@[simp] theorem forK_own {g : Tg} {b : MS} {ps : List MV.P} {x : Nat} {d : D} (h : ρ[x]? = some (.own d)) : forK g b ps (some x) ρ = (forL g b ps (ρ.set x (.ro d))).mapS fun ρ => ρ.set x (.own d) := by unfold forK; simp only [h]
@[simp] theorem forK_pin {g : Tg} {b : MS} {ps : List MV.P} {x : Nat} {d : D} (h : ρ[x]? = some (.pin d)) : forK g b ps (some x) ρ = (forL g b ps (ρ.set x (.ro d))).mapS fun ρ => ρ.set x (.pin d) := by unfold forK; simp only [h]
@[simp] theorem mapS_sat {r : SR} {f : Sl → Sl} : (r.mapS f).sat N = r.sat { nx := fun ρ => N.nx (f ρ), bk := fun ρ => N.bk (f ρ), ct := fun ρ => N.ct (f ρ), rt := fun d ρ => N.rt d (f ρ) } := sat_mapS
/-- a loop over a list: J of what is done -/
theorem sat_list {g : Tg} {b : MS} {N : En} {ps : List MV.P} {ρ : Sl} (J : List MV.P → Sl → Prop) (h0 : J [] ρ) (step : ∀ done p rest ρ, done ++ p :: rest = ps → J done ρ → osat (bindG g (.imm p) ρ) fun ρ1 => (b ρ1).sat { nx := J (done ++ [p]), ct := J (done ++ [p]), bk := N.nx, rt := N.rt }) (fin : ∀ ρ, J ps ρ → N.nx ρ) : (forL g b ps ρ).sat N := by
  refine sat_forL (fun rest ρ => ∃ done, done ++ rest = ps ∧ J done ρ) (fun p rest ρ h => ?_) (fun ρ h => ?_) _ ρ ⟨[], rfl, h0⟩
  · obtain ⟨done, e, hj⟩ := h
    have s := step done p rest ρ e hj
    cases q : bindG g (.imm p) ρ with
    | none => rw [q] at s; exact s.elim
    | some ρ1 =>
      rw [q] at s
      exact SR.sat_mono s (fun ρ h => ⟨done ++ [p], by simpa using e, h⟩) (fun ρ h => h) (fun ρ h => ⟨done ++ [p], by simpa using e, h⟩) (fun d ρ h => h)
  · obtain ⟨done, e, hj⟩ := h
    rw [List.append_nil] at e
    subst e
    exact fin ρ hj

/-! ### comprehensions -/
@[simp] theorem sat_eLc {g : Tg} {vs : List Nat} {mi : MI} {t : MT} {m : ME} : (eLc g vs mi t m ρ).sat P = (mi ρ).sat fun pl ρ1 => (lcK g vs t m pl.1 pl.2 ρ1).sat P := by
  unfold eLc
  rw [R.sat_bind]
@[simp] theorem lcK_none {g : Tg} {vs : List Nat} {t : MT} {m : ME} {ps : List MV.P} : lcK g vs t m ps none ρ = lcE g vs t m ps ρ := (rfl)
@[simp] theorem lcK_own {g : Tg} {vs : List Nat} {t : MT} {m : ME} {ps : List MV.P} {x : Nat} {d : D} (h : ρ[x]? = some (.own d)) : lcK g vs t m ps (some x) ρ = (lcE g vs t m ps (ρ.set x (.ro d))).mapE fun ρ => ρ.set x (.own d) := by unfold lcK; simp only [h]
@[simp] theorem lcK_pin {g : Tg} {vs : List Nat} {t : MT} {m : ME} {ps : List MV.P} {x : Nat} {d : D} (h : ρ[x]? = some (.pin d)) : lcK g vs t m ps (some x) ρ = (lcE g vs t m ps (ρ.set x (.ro d))).mapE fun ρ => ρ.set x (.pin d) := by unfold lcK; simp only [h]
@[simp] theorem sat_mapE {r : R Val} {f : Sl → Sl} : (r.mapE f).sat P = r.sat fun v ρ => P v (f ρ) := by cases r <;> rfl
/-- what an element gives: left out, or a value; the names behind it as before -/
def LcStep (g : Tg) (vs : List Nat) (t : MT) (m : ME) (ρw : Sl) (p : MV.P) (o : Option D) : Prop :=
  osat (bindG g (.imm p) ρw) fun ρ1 => (t ρ1).sat fun b ρ2 => bsat b ((m ρ2).sat fun v ρ3 => vsat v fun d => o = some d ∧ wipeS ρ3 vs = ρw) (o = none ∧ wipeS ρ2 vs = ρw)
theorem sat_lcL {g : Tg} {vs : List Nat} {t : MT} {m : ME} {ρw : Sl} (G : MV.P → Option D) : ∀ (ps : List MV.P) (acc : List D), (∀ p ∈ ps, LcStep g vs t m ρw p (G p)) → acc.length + ps.length ≤ sizeLine → (lcL g vs t m ps acc ρw).sat fun r ρ => r = acc ++ ps.filterMap G ∧ ρ = ρw
  | [], acc, _, _ => by
    unfold lcL
    exact ⟨by simp, rfl⟩
  | p :: ps, acc, h, hl => by
    have s := h p List.mem_cons_self
    unfold LcStep at s
    rw [List.length_cons] at hl
    unfold lcL
    cases q : bindG g (.imm p) ρw with
    | none => rw [q] at s; exact s.elim
    | some ρ1 =>
      rw [q] at s
      simp only [osat_some] at s
      simp only [R.sat_bind]
      refine R.sat_mono s fun b ρ2 s => ?_
      cases b with
      | true =>
        rw [if_pos rfl, R.sat_bind]
        simp only [bsat_t] at s
        refine R.sat_mono s fun v ρ3 s => ?_
        cases v with
        | bor => exact s.elim
        | own d =>
          obtain ⟨e1, e2⟩ := s
          simp only []
          rw [if_pos (by omega), e2]
          refine R.sat_mono (sat_lcL G ps (acc ++ [d]) (fun p hp => h p (List.mem_cons_of_mem _ hp)) (by simp; omega)) fun r ρ hr => ⟨?_, hr.2⟩
          rw [hr.1, List.filterMap_cons, e1]
          simp
      | false =>
        rw [if_neg (by decide)]
        simp only [bsat_f] at s
        obtain ⟨e1, e2⟩ := s
        rw [e2]
        refine R.sat_mono (sat_lcL G ps acc (fun p hp => h p (List.mem_cons_of_mem _ hp)) (by omega)) fun r ρ hr => ⟨?_, hr.2⟩
        rw [hr.1, List.filterMap_cons, e1]
/-- THE RULE of a comprehension -/
theorem sat_lcE {g : Tg} {vs : List Nat} {t : MT} {m : ME} {ps : List MV.P} (G : MV.P → Option D) (hv : vs.all (fun v => plainS ρ[v]?) = true) (hr : restS (wipeS ρ vs) ρ vs = ρ) (hl : ps.length ≤ sizeLine) (h : ∀ p ∈ ps, LcStep g vs t m (wipeS ρ vs) p (G p)) (k : P (.own (.lst (ps.filterMap G))) ρ) : (lcE g vs t m ps ρ).sat P := by
  unfold lcE
  rw [if_pos hv]
  obtain ⟨a, ρ', e, e1, e2⟩ := R.of_sat (sat_lcL G ps [] h (by simpa using hl))
  rw [e]
  subst e1 e2
  unfold lcEnd
  simp only [R.sat_ok, List.nil_append]
  rw [hr]
  exact k
end
end MV

set_option Elab.async false
set_option linter.all false
set_option maxRecDepth 100000
set_option maxHeartbeats 1000000
/-! P3: more simp rules over data. -/
namespace MV
open PySem L2
/-- a reading whose end is known -/
theorem R.eq_of_sat {r : R D} {d : D} {os : Sl} (h : r.sat fun a ρ => a = d ∧ ρ = os) : r = .ok d os := by
  obtain ⟨a, ρ, e, rfl, rfl⟩ := R.of_sat h
  exact e
@[simp] theorem fAddL_i {i j : Int} : fAddL (.imm (.int i)) (.imm (.int j)) = some (.imm (.int (i + j))) := (rfl)
@[simp] theorem fIsN_non : fIsN (.imm .non) = some (.imm (.bl true)) := (rfl)
@[simp] theorem fIsN_int {i : Int} : fIsN (.imm (.int i)) = some (.imm (.bl false)) := (rfl)
@[simp] theorem fIsN_bl {i : Bool} : fIsN (.imm (.bl i)) = some (.imm (.bl false)) := (rfl)
@[simp] theorem fIsN_str {i : Str} : fIsN (.imm (.str i)) = some (.imm (.bl false)) := (rfl)
@[simp] theorem fIsN_tup {i : List P} : fIsN (.imm (.tup i)) = some (.imm (.bl false)) := (rfl)
@[simp] theorem fIsN_lst {i : List P} : fIsN (.imm (.lst i)) = some (.imm (.bl false)) := (rfl)
@[simp] theorem fIsN_lstD {i : List D} : fIsN (.lst i) = some (.imm (.bl false)) := (rfl)
@[simp] theorem fNotN_non : fNotN (.imm .non) = some (.imm (.bl false)) := (rfl)
@[simp] theorem fNotN_int {i : Int} : fNotN (.imm (.int i)) = some (.imm (.bl true)) := (rfl)
@[simp] theorem fNotN_str {i : Str} : fNotN (.imm (.str i)) = some (.imm (.bl true)) := (rfl)
@[simp] theorem fNotN_tup {i : List P} : fNotN (.imm (.tup i)) = some (.imm (.bl true)) := (rfl)
@[simp] theorem truth_bl {b : Bool} : truth (.imm (.bl b)) = some b := (rfl)
/-! isinstance -/
@[simp] theorem isi_tn : fIsi "tuple" (.imm .non) = some (.imm (.bl false)) := (rfl)
@[simp] theorem isi_tb {i : Bool} : fIsi "tuple" (.imm (.bl i)) = some (.imm (.bl false)) := (rfl)
@[simp] theorem isi_ti {i : Int} : fIsi "tuple" (.imm (.int i)) = some (.imm (.bl false)) := (rfl)
@[simp] theorem isi_ts {i : Str} : fIsi "tuple" (.imm (.str i)) = some (.imm (.bl false)) := (rfl)
@[simp] theorem isi_tt {i : List P} : fIsi "tuple" (.imm (.tup i)) = some (.imm (.bl true)) := (rfl)
@[simp] theorem isi_tl {i : List P} : fIsi "tuple" (.imm (.lst i)) = some (.imm (.bl false)) := (rfl)
@[simp] theorem isi_tL {i : List D} : fIsi "tuple" (.lst i) = some (.imm (.bl false)) := (rfl)
@[simp] theorem isi_ln : fIsi "list" (.imm .non) = some (.imm (.bl false)) := (rfl)
@[simp] theorem isi_lb {i : Bool} : fIsi "list" (.imm (.bl i)) = some (.imm (.bl false)) := (rfl)
@[simp] theorem isi_li {i : Int} : fIsi "list" (.imm (.int i)) = some (.imm (.bl false)) := (rfl)
@[simp] theorem isi_ls {i : Str} : fIsi "list" (.imm (.str i)) = some (.imm (.bl false)) := (rfl)
@[simp] theorem isi_lt {i : List P} : fIsi "list" (.imm (.tup i)) = some (.imm (.bl false)) := (rfl)
@[simp] theorem isi_ll {i : List P} : fIsi "list" (.imm (.lst i)) = some (.imm (.bl true)) := (rfl)
@[simp] theorem isi_lL {i : List D} : fIsi "list" (.lst i) = some (.imm (.bl true)) := (rfl)
@[simp] theorem isi_sn : fIsi "str" (.imm .non) = some (.imm (.bl false)) := (rfl)
@[simp] theorem isi_sb {i : Bool} : fIsi "str" (.imm (.bl i)) = some (.imm (.bl false)) := (rfl)
@[simp] theorem isi_si {i : Int} : fIsi "str" (.imm (.int i)) = some (.imm (.bl false)) := (rfl)
@[simp] theorem isi_ss {i : Str} : fIsi "str" (.imm (.str i)) = some (.imm (.bl true)) := (rfl)
@[simp] theorem isi_st {i : List P} : fIsi "str" (.imm (.tup i)) = some (.imm (.bl false)) := (rfl)
@[simp] theorem isi_sl {i : List P} : fIsi "str" (.imm (.lst i)) = some (.imm (.bl false)) := (rfl)
@[simp] theorem isi_sL {i : List D} : fIsi "str" (.lst i) = some (.imm (.bl false)) := (rfl)
@[simp] theorem isi_in : fIsi "int" (.imm .non) = some (.imm (.bl false)) := (rfl)
@[simp] theorem isi_ib {i : Bool} : fIsi "int" (.imm (.bl i)) = some (.imm (.bl true)) := (rfl)
@[simp] theorem isi_ii {i : Int} : fIsi "int" (.imm (.int i)) = some (.imm (.bl true)) := (rfl)
@[simp] theorem isi_is {i : Str} : fIsi "int" (.imm (.str i)) = some (.imm (.bl false)) := (rfl)
@[simp] theorem isi_it {i : List P} : fIsi "int" (.imm (.tup i)) = some (.imm (.bl false)) := (rfl)
@[simp] theorem isi_il {i : List P} : fIsi "int" (.imm (.lst i)) = some (.imm (.bl false)) := (rfl)
@[simp] theorem isi_iL {i : List D} : fIsi "int" (.lst i) = some (.imm (.bl false)) := (rfl)
@[simp] theorem isi_bn : fIsi "bool" (.imm .non) = some (.imm (.bl false)) := (rfl)
@[simp] theorem isi_bb {i : Bool} : fIsi "bool" (.imm (.bl i)) = some (.imm (.bl true)) := (rfl)
@[simp] theorem isi_bi {i : Int} : fIsi "bool" (.imm (.int i)) = some (.imm (.bl false)) := (rfl)
@[simp] theorem isi_bs {i : Str} : fIsi "bool" (.imm (.str i)) = some (.imm (.bl false)) := (rfl)
@[simp] theorem isi_bt {i : List P} : fIsi "bool" (.imm (.tup i)) = some (.imm (.bl false)) := (rfl)
@[simp] theorem isi_bl {i : List P} : fIsi "bool" (.imm (.lst i)) = some (.imm (.bl false)) := (rfl)
@[simp] theorem isi_bL {i : List D} : fIsi "bool" (.lst i) = some (.imm (.bl false)) := (rfl)
/-! displays, tuples, lists -/
@[simp] theorem cList_t {ps : List P} : cList [.imm (.tup ps)] = some (.lst (ps.map .imm)) := (rfl)
@[simp] theorem cTuple_t {ps : List P} : cTuple [.imm (.tup ps)] = some (.imm (.tup ps)) := (rfl)
@[simp] theorem cTuple_l {ps : List P} : cTuple [.lst (ps.map .imm)] = some (.imm (.tup ps)) := by unfold cTuple; simp [seqL]
@[simp] theorem cTuple_comp {α : Type} {f : α → P} {l : List α} : cTuple [.lst (l.map (D.imm ∘ f))] = some (.imm (.tup (l.map f))) := by unfold cTuple; simp [seqL]
@[simp] theorem cList_l {ps : List P} : cList [.lst (ps.map .imm)] = some (.lst (ps.map .imm)) := by unfold cList; simp [seqL]
@[simp] theorem cList_comp {α : Type} {f : α → P} {l : List α} : cList [.lst (l.map (D.imm ∘ f))] = some (.lst (l.map (D.imm ∘ f))) := by unfold cList; simp [seqL, List.map_map]
@[simp] theorem sf_jar {row : List Int} {k : Int} : slotFor true (.pin (jarD row k)) = some (.pin (jarD row k)) := (rfl)
@[simp] theorem sf_jarO {row : List Int} {k : Int} : slotFor true (.own (jarD row k)) = some (.pin (jarD row k)) := (rfl)
/-! two names at once -/
def twoD : List D → Option (P × P)
  | [.imm p, .imm q] => some (p, q)
  | _ => none
@[simp] theorem twoD_pp {p q : P} : twoD [.imm p, .imm q] = some (p, q) := (rfl)
@[simp] theorem sat_sPar {i j : Nat} {ms : MA} {ρ : Sl} {N : En} : (sPar i j ms ρ).sat N = (ms ρ).sat fun ds ρ1 => osat (twoD ds) fun p => osat (bindN [i, j] [p.1, p.2] ρ1) fun ρ2 => N.nx ρ2 := by
  unfold sPar
  rw [R.sat_bindS]
  refine R.sat_ext fun ds ρ1 => ?_
  match ds with
  | [.imm p, .imm q] =>
    simp only [twoD_pp, osat_some]
    cases bindN [i, j] [p, q] ρ1 <;> rfl
  | [] => rfl
  | [a] => cases a <;> rfl
  | [.lst _, b] => rfl
  | [.dct _ _, b] => rfl
  | [.imm _, .lst _] => rfl
  | [.imm _, .dct _ _] => rfl
  | .lst _ :: _ :: _ :: _ => rfl
  | .dct _ _ :: _ :: _ :: _ => rfl
  | .imm _ :: .lst _ :: _ :: _ => rfl
  | .imm _ :: .dct _ _ :: _ :: _ => rfl
  | .imm _ :: .imm _ :: _ :: _ => rfl
theorem line_of {m : Nat} (h : m ≤ 100000) : m ≤ sizeLine := Nat.le_of_lt (small_line h)
end MV

set_option Elab.async false
set_option linter.all false
set_option maxRecDepth 100000
set_option maxHeartbeats 1000000
/-! P4: comprehensions and loops over what stands for data of Lean. -/
namespace MV
open PySem L2
section
variable {ρ : Sl} {P : Val → Sl → Prop} {N : En} {α : Type}
theorem sat_lcLM {g : Tg} {vs : List Nat} {t : MT} {m : ME} {ρw : Sl} {f : α → MV.P} (G : α → Option D) : ∀ (ps : List α) (acc : List D), (∀ p ∈ ps, LcStep g vs t m ρw (f p) (G p)) → acc.length + ps.length ≤ sizeLine → (lcL g vs t m (ps.map f) acc ρw).sat fun r ρ => r = acc ++ ps.filterMap G ∧ ρ = ρw
  | [], acc, _, _ => by
    rw [List.map_nil]
    unfold lcL
    exact ⟨by simp, rfl⟩
  | p :: ps, acc, h, hl => by
    have s := h p List.mem_cons_self
    unfold LcStep at s
    rw [List.length_cons] at hl
    rw [List.map_cons]
    unfold lcL
    cases q : bindG g (.imm (f p)) ρw with
    | none => rw [q] at s; exact s.elim
    | some ρ1 =>
      rw [q] at s
      simp only [osat_some] at s
      simp only [R.sat_bind]
      refine R.sat_mono s fun b ρ2 s => ?_
      cases b with
      | true =>
        rw [if_pos rfl, R.sat_bind]
        simp only [bsat_t] at s
        refine R.sat_mono s fun v ρ3 s => ?_
        cases v with
        | bor => exact s.elim
        | own d =>
          obtain ⟨e1, e2⟩ := s
          simp only []
          rw [if_pos (by omega), e2]
          refine R.sat_mono (sat_lcLM G ps (acc ++ [d]) (fun p hp => h p (List.mem_cons_of_mem _ hp)) (by simp; omega)) fun r ρ hr => ⟨?_, hr.2⟩
          rw [hr.1, List.filterMap_cons, e1]
          simp
      | false =>
        rw [if_neg (by decide)]
        simp only [bsat_f] at s
        obtain ⟨e1, e2⟩ := s
        rw [e2]
        refine R.sat_mono (sat_lcLM G ps acc (fun p hp => h p (List.mem_cons_of_mem _ hp)) (by omega)) fun r ρ hr => ⟨?_, hr.2⟩
        rw [hr.1, List.filterMap_cons, e1]
theorem plain_frees {s : Slot} (h : plainS (some s) = true) : frees (some s) = true := by
  unfold plainS at h
  split at h
  · rename_i e; cases e; rfl
  · rename_i e; cases e; rfl
  · cases h
@[simp] theorem plain_no : plainS (some .no) = true := (rfl)
@[simp] theorem plain_own {p : MV.P} : plainS (some (.own (.imm p))) = true := (rfl)
/-- THE RULE of a comprehension over what stands for a list of Lean -/
theorem sat_lcF {g : Tg} {vs : List Nat} {t : MT} {m : ME} {f : α → MV.P} {l : List α} (G : α → Option D) (hv : vs.all (fun v => plainS ρ[v]?) = true) (hr : restS (wipeS ρ vs) ρ vs = ρ) (hl : l.length ≤ sizeLine) (h : ∀ p ∈ l, LcStep g vs t m (wipeS ρ vs) (f p) (G p)) (k : P (.own (.lst (l.filterMap G))) ρ) : (lcE g vs t m (l.map f) ρ).sat P := by
  unfold lcE
  rw [if_pos hv]
  obtain ⟨a, ρ', e, e1, e2⟩ := R.of_sat (sat_lcLM G l [] h (by simpa using hl))
  rw [e]
  subst e1 e2
  unfold lcEnd
  simp only [R.sat_ok, List.nil_append]
  rw [hr]
  exact k
/-- .. each one kept -/
theorem sat_lcM {g : Tg} {vs : List Nat} {t : MT} {m : ME} {f : α → MV.P} {l : List α} (G : α → D) (hv : vs.all (fun v => plainS ρ[v]?) = true) (hr : restS (wipeS ρ vs) ρ vs = ρ) (hl : l.length ≤ sizeLine) (h : ∀ p ∈ l, LcStep g vs t m (wipeS ρ vs) (f p) (some (G p))) (k : P (.own (.lst (l.map G))) ρ) : (lcE g vs t m (l.map f) ρ).sat P :=
  sat_lcF (fun a => some (G a)) hv hr hl h (by
    have e : l.filterMap (fun a => some (G a)) = l.map G := by
      have : (fun a => some (G a)) = some ∘ G := rfl
      rw [this, List.filterMap_eq_map]
    rw [e]
    exact k)
/-- a loop over what stands for a list of Lean: J of what is done -/
theorem sat_listF {g : Tg} {b : MS} {N : En} {f : α → MV.P} {l : List α} {ρ : Sl} (J : List α → Sl → Prop) (h0 : J [] ρ) (step : ∀ done p rest ρ, l = done ++ p :: rest → J done ρ → osat (bindG g (.imm (f p)) ρ) fun ρ1 => (b ρ1).sat { nx := J (done ++ [p]), ct := J (done ++ [p]), bk := N.nx, rt := N.rt }) (fin : ∀ ρ, J l ρ → N.nx ρ) : (forL g b (l.map f) ρ).sat N := by
  refine sat_forL (fun rest ρ => ∃ done rs, rest = rs.map f ∧ l = done ++ rs ∧ J done ρ) (fun p rest ρ h => ?_) (fun ρ h => ?_) _ ρ ⟨[], l, rfl, rfl, h0⟩
  · obtain ⟨done, rs, e1, e2, hj⟩ := h
    cases rs with
    | nil => cases e1
    | cons a rs =>
      rw [List.map_cons] at e1
      cases e1
      have s := step done a rs ρ e2 hj
      cases q : bindG g (.imm (f a)) ρ with
      | none => rw [q] at s; exact s.elim
      | some ρ1 =>
        rw [q] at s
        exact SR.sat_mono s (fun ρ h => ⟨done ++ [a], rs, rfl, by simp [e2], h⟩) (fun ρ h => h) (fun ρ h => ⟨done ++ [a], rs, rfl, by simp [e2], h⟩) (fun d ρ h => h)
  · obtain ⟨done, rs, e1, e2, hj⟩ := h
    have : rs = [] := by simpa using e1.symm
    subst this
    rw [List.append_nil] at e2
    subst e2
    exact fin ρ hj
/-- a loop whose J is left alone by simp: J of what is done, as a word -/
theorem sat_loopF {g : Tg} {b : MS} {N : En} {f : α → MV.P} {l : List α} {ρ : Sl} (J : List α → Sl → Prop) (h0 : J [] ρ) (step : ∀ (K : List α → Sl → Prop), (∀ d ρ, J d ρ → K d ρ) → ∀ done p rest ρ, l = done ++ p :: rest → J done ρ → osat (bindG g (.imm (f p)) ρ) fun ρ1 => (b ρ1).sat { nx := K (done ++ [p]), ct := K (done ++ [p]), bk := N.nx, rt := N.rt }) (fin : ∀ ρ, J l ρ → N.nx ρ) : (forL g b (l.map f) ρ).sat N :=
  sat_listF J h0 (fun done p rest ρ e h => step J (fun _ _ h => h) done p rest ρ e h) fin
theorem sat_rngJ {i : Nat} {b : MS} {N : En} {lo : Int} {n : Nat} {ρ : Sl} (J : Nat → Sl → Prop) (h0 : J 0 ρ) (step : ∀ (K : Nat → Sl → Prop), (∀ d ρ, J d ρ → K d ρ) → ∀ k ρ, k < n → J k ρ → frees ρ[i]? = true ∧ (b (ρ.set i (.own (.imm (.int (lo + k)))))).sat { nx := K (k + 1), ct := K (k + 1), bk := N.nx, rt := N.rt }) (fin : ∀ ρ, J n ρ → N.nx ρ) : (forL (.nm i) b (rngL lo n) ρ).sat N :=
  sat_rng J h0 (fun k ρ hk h => step J (fun _ _ h => h) k ρ hk h) fin
theorem sat_lcLJ {g : Tg} {vs : List Nat} {t : MT} {m : ME} {ps0 : List MV.P} (J : Nat → List D → Sl → Prop)
    (step : ∀ k p acc ρw, ps0[k]? = some p → J k acc ρw → osat (bindG g (.imm p) ρw) fun ρ1 => (t ρ1).sat fun b ρ2 => bsat b ((m ρ2).sat fun v ρ3 => vsat v fun d => J (k + 1) (acc ++ [d]) (wipeS ρ3 vs)) (J (k + 1) acc (wipeS ρ2 vs))) :
    ∀ (ps : List MV.P) (k : Nat) (acc : List D) (ρw : Sl), ps0.drop k = ps → J k acc ρw → acc.length ≤ k → k + ps.length ≤ sizeLine → (lcL g vs t m ps acc ρw).sat fun r ρ => J (k + ps.length) r ρ
  | [], k, acc, ρw, _, h, _, _ => by
    unfold lcL
    exact h
  | p :: ps, k, acc, ρw, e, h, ha, hl => by
    have hp : ps0[k]? = some p := by
      have := congrArg (fun l => l[0]?) e
      simpa using this
    have e' : ps0.drop (k + 1) = ps := by
      have := congrArg (List.drop 1) e
      simpa [List.drop_drop] using this
    have s := step k p acc ρw hp h
    rw [List.length_cons] at hl
    have el : k + (p :: ps).length = k + 1 + ps.length := by rw [List.length_cons]; omega
    rw [el]
    unfold lcL
    cases q : bindG g (.imm p) ρw with
    | none => rw [q] at s; exact s.elim
    | some ρ1 =>
      rw [q] at s
      simp only [osat_some] at s
      simp only [R.sat_bind]
      refine R.sat_mono s fun b ρ2 s => ?_
      cases b with
      | true =>
        rw [if_pos rfl, R.sat_bind]
        simp only [bsat_t] at s
        refine R.sat_mono s fun v ρ3 s => ?_
        cases v with
        | bor => exact s.elim
        | own d =>
          simp only [vsat_own] at s
          simp only []
          rw [if_pos (by omega)]
          exact sat_lcLJ J step ps (k + 1) (acc ++ [d]) _ e' s (by simp; omega) (by omega)
      | false =>
        rw [if_neg (by decide)]
        simp only [bsat_f] at s
        exact sat_lcLJ J step ps (k + 1) acc _ e' s (by omega) (by omega)
/-- THE RULE of a comprehension whose elements change the names: J of the turn, what is made, the names -/
theorem sat_lcJ {g : Tg} {vs : List Nat} {t : MT} {m : ME} {ps : List MV.P} (J : Nat → List D → Sl → Prop) (hv : vs.all (fun v => plainS ρ[v]?) = true) (hl : ps.length ≤ sizeLine) (h0 : J 0 [] (wipeS ρ vs))
    (step : ∀ k p acc ρw, ps[k]? = some p → J k acc ρw → osat (bindG g (.imm p) ρw) fun ρ1 => (t ρ1).sat fun b ρ2 => bsat b ((m ρ2).sat fun v ρ3 => vsat v fun d => J (k + 1) (acc ++ [d]) (wipeS ρ3 vs)) (J (k + 1) acc (wipeS ρ2 vs)))
    (fin : ∀ acc ρ', J ps.length acc ρ' → P (.own (.lst acc)) (restS ρ' ρ vs)) : (lcE g vs t m ps ρ).sat P := by
  unfold lcE
  rw [if_pos hv]
  obtain ⟨a, ρ', e, h⟩ := R.of_sat (sat_lcLJ J step ps 0 [] (wipeS ρ vs) rfl h0 (by simp) (by simpa using hl))
  rw [e]
  unfold lcEnd
  rw [Nat.zero_add] at h
  exact fin a ρ' h
theorem rngL_get {lo : Int} {n k : Nat} {p : MV.P} (h : (rngL lo n)[k]? = some p) : k < n ∧ p = .int (lo + k) := by
  unfold rngL at h
  rw [List.getElem?_map] at h
  by_cases hk : k < n
  · rw [List.getElem?_range hk] at h
    cases h
    exact ⟨hk, rfl⟩
  · rw [List.getElem?_eq_none (by rw [List.length_range]; omega)] at h
    cases h
@[simp] theorem rngL_len {lo : Int} {n : Nat} : (rngL lo n).length = n := by unfold rngL; simp
end
@[simp] theorem sizeLine_num : sizeLine = 16777216 := sizeLine_eq
end MV

set_option Elab.async false
set_option linter.all false
set_option maxRecDepth 100000
set_option maxHeartbeats 1000000
/-! P5: dicts over keys of Lean; in. -/
namespace MV
open PySem L2
/-- keys of Lean that stand for keys -/
structure KeyE {κ : Type} [DecidableEq κ] (kP : κ → P) : Prop where
  eq : ∀ a b, peq (kP a) (kP b) = decide (a = b)
  ok : ∀ a, (keyOf (kP a)).isSome = true
theorem keyE_str : KeyE P.str := ⟨fun _ _ => rfl, fun _ => rfl⟩
theorem keyE_int : KeyE P.int := ⟨fun _ _ => rfl, fun _ => rfl⟩
section
variable {κ : Type} [DecidableEq κ] {kP : κ → P} {ks : List κ} {x : κ} {d : D}
theorem atomK_k (h : KeyE kP) : ∀ ks : List κ, atomK (ks.map kP) = true
  | [] => rfl
  | k :: ks => by rw [List.map_cons]; unfold atomK; rw [h.ok, atomK_k h ks]; rfl
theorem any_k (h : KeyE kP) : ∀ ks : List κ, ((ks.map kP).any fun k' => peq k' (kP x)) = decide (x ∈ ks)
  | [] => rfl
  | k :: ks => by
    rw [List.map_cons, List.any_cons, any_k h ks, h.eq]
    by_cases e : k = x
    · subst e; simp
    · have : x ≠ k := fun z => e z.symm
      simp [e, this]
theorem inD_k (h : KeyE kP) {ds : List D} : inD (.imm (kP x)) (.dct (ks.map kP) ds) = some (decide (x ∈ ks)) := by
  unfold inD hasK
  simp only [h.ok, atomK_k h, and_self, if_true, any_k h]
theorem fIn_k (h : KeyE kP) {ds : List D} : fIn5 (.imm (kP x)) (.dct (ks.map kP) ds) = some (.imm (.bl (decide (x ∈ ks)))) := by
  unfold fIn5; rw [inD_k h]; rfl
theorem fNotIn_k (h : KeyE kP) {ds : List D} : fNotIn5 (.imm (kP x)) (.dct (ks.map kP) ds) = some (.imm (.bl (!decide (x ∈ ks)))) := by
  unfold fNotIn5; rw [inD_k h]; rfl
theorem putKs_newK (h : KeyE kP) : ∀ {ks : List κ}, x ∉ ks → putKs (ks.map kP) (kP x) = (ks ++ [x]).map kP
  | [], _ => rfl
  | k :: ks, n => by
    have e : k ≠ x := fun z => n (by rw [z]; exact List.mem_cons_self)
    rw [List.map_cons]
    unfold putKs
    rw [h.eq, decide_eq_false e, if_neg Bool.false_ne_true, putKs_newK h fun z => n (List.mem_cons_of_mem _ z)]
    rfl
theorem putKs_oldK (h : KeyE kP) : ∀ {ks : List κ}, x ∈ ks → putKs (ks.map kP) (kP x) = ks.map kP
  | [], n => by cases n
  | k :: ks, n => by
    rw [List.map_cons]
    unfold putKs
    by_cases e : k = x
    · rw [h.eq, decide_eq_true e, if_pos rfl]
    · rw [h.eq, decide_eq_false e, if_neg Bool.false_ne_true, putKs_oldK h (by rcases List.mem_cons.mp n with q | q; exact absurd q.symm e; exact q)]
theorem putD_newK (h : KeyE kP) {f : κ → D} : ∀ {ks : List κ}, x ∉ ks → putD (ks.map kP) (ks.map f) (kP x) d = ks.map f ++ [d]
  | [], _ => rfl
  | k :: ks, n => by
    have e : k ≠ x := fun z => n (by rw [z]; exact List.mem_cons_self)
    rw [List.map_cons, List.map_cons]
    unfold putD
    rw [h.eq, decide_eq_false e, if_neg Bool.false_ne_true, putD_newK h fun z => n (List.mem_cons_of_mem _ z)]
    rfl
theorem putD_oldK (h : KeyE kP) {f : κ → D} : ∀ {ks : List κ}, x ∈ ks → ks.Nodup → putD (ks.map kP) (ks.map f) (kP x) d = ks.map fun y => if y = x then d else f y
  | [], n, _ => by cases n
  | k :: ks, n, nd => by
    obtain ⟨n1, n2⟩ := List.nodup_cons.mp nd
    rw [List.map_cons, List.map_cons]
    unfold putD
    by_cases e : k = x
    · subst e
      rw [h.eq, decide_eq_true rfl, if_pos rfl, List.map_cons, if_pos rfl]
      congr 1
      refine (List.map_congr_left fun y hy => ?_).symm
      rw [if_neg (fun z => n1 (by rw [← z]; exact hy))]
    · rw [h.eq, decide_eq_false e, if_neg Bool.false_ne_true, putD_oldK h (by rcases List.mem_cons.mp n with q | q; exact absurd q.symm e; exact q) n2, List.map_cons, if_neg e]
theorem lookK_k (h : KeyE kP) {f : κ → D} : ∀ {ks : List κ}, lookK (ks.map kP) (ks.map f) (kP x) = if x ∈ ks then some (f x) else none
  | [] => by simp [lookK]
  | k :: ks => by
    rw [List.map_cons, List.map_cons]
    unfold lookK
    by_cases e : k = x
    · subst e; rw [h.eq, decide_eq_true rfl, if_pos rfl, if_pos List.mem_cons_self]
    · rw [h.eq, decide_eq_false e, if_neg Bool.false_ne_true, lookK_k h]
      have : x ∈ k :: ks ↔ x ∈ ks := ⟨fun z => by rcases List.mem_cons.mp z with q | q; exact absurd q.symm e; exact q, fun z => List.mem_cons_of_mem _ z⟩
      by_cases q : x ∈ ks
      · rw [if_pos q, if_pos (this.mpr q)]
      · rw [if_neg q, if_neg fun z => q (this.mp z)]
theorem itemD_k (h : KeyE kP) {f : κ → D} (n : x ∈ ks) : itemD (.dct (ks.map kP) (ks.map f)) (kP x) = some (f x) := by
  show (if atomK (ks.map kP) = true then lookK (ks.map kP) (ks.map f) (kP x) else none) = _
  rw [if_pos (atomK_k h ks), lookK_k h, if_pos n]
end
/-! item of a dict, by the kind of its key -/
theorem item_ds {ks : List P} {ds : List D} {x : Str} : item (.dct ks ds) (.str x) = itemD (.dct ks ds) (.str x) := item_d
@[simp] theorem item_di {ks : List P} {ds : List D} {x : Int} : item (.dct ks ds) (.int x) = itemD (.dct ks ds) (.int x) := by
  rw [item] <;> first
    | rfl
    | (intros; simp_all)
/-! in of sequences -/
theorem anyS {x : Str} : ∀ ps : List Str, (ps.map P.str).any (fun q => eqPf q (.str x)) = decide (x ∈ ps)
  | [] => rfl
  | p :: ps => by
    rw [List.map_cons, List.any_cons, anyS ps]
    show ((p == x) || decide (x ∈ ps)) = _
    by_cases e : p = x
    · subst e; simp
    · have : x ≠ p := fun z => e z.symm
      simp [e, this]
theorem allS : ∀ ps : List Str, (ps.map P.str).all flatP = true
  | [] => rfl
  | p :: ps => by rw [List.map_cons, List.all_cons, allS ps]; rfl
@[simp] theorem inD_strs {x : Str} {ps : List Str} : inD (.imm (.str x)) (.imm (.tup (ps.map .str))) = some (decide (x ∈ ps)) := by
  show (if flatP (.str x) = true ∧ (ps.map P.str).all flatP = true then some ((ps.map P.str).any fun q => eqPf q (.str x)) else _) = _
  rw [if_pos ⟨rfl, allS ps⟩, anyS]
theorem allImm_strs (ps : List Str) : allImm (ps.map fun p => D.imm (.str p)) = some (ps.map .str) := allImm_fun
@[simp] theorem inD_strsL {x : Str} {ps : List Str} : inD (.imm (.str x)) (.lst (ps.map (D.imm ∘ P.str))) = some (decide (x ∈ ps)) := by
  show (match allImm (ps.map (D.imm ∘ P.str)) with
      | some qs => if flatP (.str x) = true ∧ qs.all flatP = true then some (qs.any fun q => eqPf q (.str x))
        else (match allImm (ps.map (D.imm ∘ P.str)) with
          | some qs => if SeqAt.shaped (toPy (.str x)) = true ∧ SeqAt.shaped (.list (toPys qs)) = true then some (deepIn (.str x) qs) else none
          | none => none)
      | none => none) = _
  rw [allImm_comp]
  simp only []
  rw [if_pos ⟨rfl, allS ps⟩, anyS]
@[simp] theorem fIn_d {a b : D} {c : Bool} (h : inD a b = some c) : fIn5 a b = some (.imm (.bl c)) := by unfold fIn5; rw [h]; rfl
@[simp] theorem fNotIn_d {a b : D} {c : Bool} (h : inD a b = some c) : fNotIn5 a b = some (.imm (.bl (!c))) := by unfold fNotIn5; rw [h]; rfl
@[simp] theorem fIn_strs {x : Str} {ps : List Str} : fIn5 (.imm (.str x)) (.imm (.tup (ps.map .str))) = some (.imm (.bl (decide (x ∈ ps)))) := fIn_d inD_strs
@[simp] theorem fNotIn_strs {x : Str} {ps : List Str} : fNotIn5 (.imm (.str x)) (.imm (.tup (ps.map .str))) = some (.imm (.bl (!decide (x ∈ ps)))) := fNotIn_d inD_strs
@[simp] theorem fIn_strsL {x : Str} {ps : List Str} : fIn5 (.imm (.str x)) (.lst (ps.map (D.imm ∘ P.str))) = some (.imm (.bl (decide (x ∈ ps)))) := fIn_d inD_strsL
@[simp] theorem fNotIn_strsL {x : Str} {ps : List Str} : fNotIn5 (.imm (.str x)) (.lst (ps.map (D.imm ∘ P.str))) = some (.imm (.bl (!decide (x ∈ ps)))) := fNotIn_d inD_strsL
theorem beq_dec {a x : Int} : (a == x) = decide (x = a) := by
  by_cases h : a = x
  · subst h; simp
  · rw [decide_eq_false fun z => h z.symm]
    simp [h]
@[simp] theorem fIn_ints2 {x a b : Int} : fIn5 (.imm (.int x)) (.imm (.tup [.int a, .int b])) = some (.imm (.bl (decide (x = a) || decide (x = b)))) := by
  refine fIn_d ?_
  show some ((a == x) || ((b == x) || false)) = _
  have e1 : (a == x) = decide (x = a) := beq_dec
  have e2 : (b == x) = decide (x = b) := beq_dec
  rw [e1, e2, Bool.or_false]
@[simp] theorem atI_3 {α : Type} {a b c d : α} {xs : List α} : atI (a :: b :: c :: d :: xs) 3 = some d := by
  unfold atI ixN
  simp
  rw [if_pos (by omega)]
  rfl
@[simp] theorem atI_4 {α : Type} {a b c d e : α} {xs : List α} : atI (a :: b :: c :: d :: e :: xs) 4 = some e := by
  unfold atI ixN
  simp
  rw [if_pos (by omega)]
  rfl
@[simp] theorem atI_5 {α : Type} {a b c d e f : α} {xs : List α} : atI (a :: b :: c :: d :: e :: f :: xs) 5 = some f := by
  unfold atI ixN
  simp
  rw [if_pos (by omega)]
  rfl
/-! two maps, one on the other -/
section
variable {α β : Type} {f : β → P} {g : α → β} {l : List α}
@[simp] theorem allImm_comp2 : allImm (l.map ((D.imm ∘ f) ∘ g)) = some (l.map (f ∘ g)) := allImm_comp (f := f ∘ g)
@[simp] theorem cTuple_comp2 : cTuple [.lst (l.map ((D.imm ∘ f) ∘ g))] = some (.imm (.tup (l.map (f ∘ g)))) := cTuple_comp (f := f ∘ g)
@[simp] theorem cTuple_fun {f : α → P} : cTuple [.lst (l.map fun x => D.imm (f x))] = some (.imm (.tup (l.map f))) := cTuple_comp
@[simp] theorem cTuple_pl {ps : List P} : cTuple [.imm (.lst ps)] = some (.imm (.tup ps)) := by unfold cTuple; simp [seqL]
@[simp] theorem cList_pl {ps : List P} : cList [.imm (.lst ps)] = some (.lst (ps.map .imm)) := by unfold cList; simp [seqL]
end
/-! is -/
@[simp] theorem fIsB_b {a b : Bool} : fIsB (.imm (.bl a)) (.imm (.bl b)) = some (.imm (.bl (decide (a = b)))) := (rfl)
@[simp] theorem fNotB_b {a b : Bool} : fNotB (.imm (.bl a)) (.imm (.bl b)) = some (.imm (.bl (!decide (a = b)))) := (rfl)
def threeD : List D → Option (P × P × P)
  | [.imm p, .imm q, .imm r] => some (p, q, r)
  | _ => none
@[simp] theorem threeD_p {p q r : P} : threeD [.imm p, .imm q, .imm r] = some (p, q, r) := (rfl)
@[simp] theorem sat_sPar3 {i j l : Nat} {ms : MA} {ρ : Sl} {N : En} : (sPar3 i j l ms ρ).sat N = (ms ρ).sat fun ds ρ1 => osat (threeD ds) fun p => osat (bindN [i, j, l] [p.1, p.2.1, p.2.2] ρ1) fun ρ2 => N.nx ρ2 := by
  unfold sPar3
  rw [R.sat_bindS]
  refine R.sat_ext fun ds ρ1 => ?_
  match ds with
  | [.imm p, .imm q, .imm r] =>
    simp only [threeD_p, osat_some]
    cases bindN [i, j, l] [p, q, r] ρ1 <;> rfl
  | [] => rfl
  | [a] => cases a <;> rfl
  | [a, b] => cases a <;> cases b <;> rfl
  | [a, b, c] => cases a <;> cases b <;> cases c <;> first
    | rfl
    | (rename_i p q r; simp only [threeD_p, osat_some]; cases bindN [i, j, l] [p, q, r] ρ1 <;> rfl)
  | a :: b :: c :: d :: e => cases a <;> cases b <;> cases c <;> rfl
@[simp] theorem sat_eChain {qb qc : Bool} {f g : D → D → Option D} {ma mb mc : ME} {ρ : Sl} {P : Val → Sl → Prop} : (eChain qb qc f g ma mb mc ρ).sat P = (ma ρ).sat fun va ρ1 => (mb ρ1).sat fun vb ρ2 => okq va qb = true ∧ osat (f va.d vb.d) fun d => osat (isBl (.own d)) fun k =>
    bsat k ((mc ρ2).sat fun vc ρ3 => okq vb qc = true ∧ osat (g vb.d vc.d) fun d => P (.own d) ρ3) (P (.own (.imm (.bl false))) ρ2) := by
  unfold eChain
  simp only [R.sat_bind]
  refine R.sat_ext fun va ρ1 => ?_
  rw [R.sat_bind]
  refine R.sat_ext fun vb ρ2 => ?_
  by_cases h : okq va qb = true
  · rw [if_pos h]
    simp only [h, true_and]
    cases f va.d vb.d with
    | none => rfl
    | some d =>
      simp only [osat_some]
      cases d with
      | lst => rfl
      | dct => rfl
      | imm p =>
        cases p with
        | bl k =>
          cases k with
          | false => rfl
          | true =>
            simp only [isBl_bl, osat_some, bsat_t, R.sat_bind]
            refine R.sat_ext fun vc ρ3 => ?_
            by_cases h2 : okq vb qc = true
            · rw [if_pos h2]
              simp only [h2, true_and]
              cases g vb.d vc.d <;> rfl
            · rw [if_neg h2]; simp [h2, R.sat]
        | _ => rfl
  · rw [if_neg h]; simp [h, R.sat]
end MV

set_option Elab.async false
set_option linter.all false
set_option maxRecDepth 100000
set_option maxHeartbeats 1000000
/-! P6: == of plain data. -/
namespace MV
open PySem L2
noncomputable instance : DecidableEq P := fun a b => Classical.propDecidable (a = b)
mutual
/-- data without bools and dicts -/
def plD : P → Bool
  | .non => true
  | .bl _ => false
  | .int _ => true
  | .str x => PyData.strOk x
  | .tup ps => plDs ps
  | .lst ps => plDs ps
  | .dct _ _ => false
def plDs : List P → Bool
  | [] => true
  | p :: ps => plD p && plDs ps
end
theorem plDs_all : ∀ {ps : List P}, (∀ p ∈ ps, plD p = true) → plDs ps = true
  | [], _ => by simp [plDs]
  | p :: ps, h => by
    simp only [plDs]
    rw [h p List.mem_cons_self, plDs_all fun q hq => h q (List.mem_cons_of_mem _ hq)]
    rfl
mutual
theorem plD_can : ∀ {p : P}, plD p = true → (toPy p).canLay0 = true
  | .non, _ => by simp [toPy, PyData.canLay0]
  | .bl _, h => by simp [plD] at h
  | .int _, _ => by simp [toPy, PyData.canLay0]
  | .str x, h => by simp only [plD] at h; simp [toPy, PyData.canLay0, h]
  | .tup ps, h => by simp only [plD] at h; simp [toPy, PyData.canLay0, plDs_can h]
  | .lst ps, h => by simp only [plD] at h; simp [toPy, PyData.canLay0, plDs_can h]
  | .dct _ _, h => by simp [plD] at h
theorem plDs_can : ∀ {ps : List P}, plDs ps = true → PyData.canLayAll0 (toPys ps) = true
  | [], _ => by simp [toPys, PyData.canLayAll0]
  | p :: ps, h => by
    simp only [plDs] at h
    obtain ⟨h1, h2⟩ := Bool.and_eq_true_iff.mp h
    simp [toPys, PyData.canLayAll0, plD_can h1, plDs_can h2]
end
mutual
theorem eqv_pl : ∀ {p q : P}, plD p = true → plD q = true → (PyData.eqv (toPy p) (toPy q) = true ↔ p = q)
  | .non, q, _, h => by cases q <;> simp [toPy, PyData.eqv, plD] at h ⊢
  | .bl _, q, h, _ => by simp [plD] at h
  | .int _, q, _, h => by cases q <;> simp [toPy, PyData.eqv, plD] at h ⊢
  | .str _, q, _, h => by cases q <;> simp [toPy, PyData.eqv, plD] at h ⊢
  | .tup ps, q, h1, h => by
    cases q with
    | tup qs =>
      simp only [plD] at h1 h
      simp only [toPy, PyData.eqv, P.tup.injEq]
      exact eqvs_pl h1 h
    | _ => simp [toPy, PyData.eqv, plD] at h ⊢
  | .lst ps, q, h1, h => by
    cases q with
    | lst qs =>
      simp only [plD] at h1 h
      simp only [toPy, PyData.eqv, P.lst.injEq]
      exact eqvs_pl h1 h
    | _ => simp [toPy, PyData.eqv, plD] at h ⊢
  | .dct _ _, _, h, _ => by simp [plD] at h
theorem eqvs_pl : ∀ {ps qs : List P}, plDs ps = true → plDs qs = true → (PyData.eqvAll (toPys ps) (toPys qs) = true ↔ ps = qs)
  | [], [], _, _ => by simp [toPys, PyData.eqvAll]
  | [], _ :: _, _, _ => by simp [toPys, PyData.eqvAll]
  | _ :: _, [], _, _ => by simp [toPys, PyData.eqvAll]
  | p :: ps, q :: qs, h, h' => by
    simp only [plDs] at h h'
    obtain ⟨h1, h2⟩ := Bool.and_eq_true_iff.mp h
    obtain ⟨h3, h4⟩ := Bool.and_eq_true_iff.mp h'
    simp only [toPys, PyData.eqvAll, Bool.and_eq_true, List.cons.injEq]
    rw [eqv_pl h1 h3, eqvs_pl h2 h4]
end
/-- plain and not deep -/
def okP (p : P) : Prop := plD p = true ∧ (toPy p).depth ≤ 64
theorem okP.shaped {p : P} (h : okP p) : SeqAt.shaped (toPy p) = true := by
  unfold SeqAt.shaped
  rw [plD_can h.1, decide_eq_true h.2]
  rfl
theorem eqB_ok' {p q : P} (hp : okP p) (hq : okP q) : eqB (.imm p) (.imm q) = some (decide (p = q)) := by
  have big : eqD (.imm p) (.imm q) = some (decide (p = q)) := by
    unfold eqD
    rw [if_pos (by simp only [frz_imm]; exact ⟨hp.shaped, hq.shaped⟩)]
    simp only [frz_imm]
    congr 1
    by_cases e : p = q
    · rw [decide_eq_true e]; exact (eqv_pl hp.1 hq.1).mpr e
    · rw [decide_eq_false e]
      cases z : PyData.eqv (toPy p) (toPy q) with
      | false => rfl
      | true => exact absurd ((eqv_pl hp.1 hq.1).mp z) e
  unfold eqB
  simp only []
  cases p <;> cases q <;> simp only [eqS] <;> first | exact big | (simp; done) | (congr 1; simp)
theorem fEq_pl {p q : P} (hp : okP p) (hq : okP q) : fEq (.imm p) (.imm q) = some (.imm (.bl (decide (p = q)))) := by unfold fEq; rw [eqB_ok' hp hq]; rfl
theorem fNe_pl {p q : P} (hp : okP p) (hq : okP q) : fNe (.imm p) (.imm q) = some (.imm (.bl (!decide (p = q)))) := by unfold fNe; rw [eqB_ok' hp hq]; rfl
theorem okP_non : okP .non := ⟨by simp [plD], by simp [toPy, PyData.depth]⟩
theorem okP_int {i : Int} : okP (.int i) := ⟨by simp [plD], by simp [toPy, PyData.depth]⟩
theorem okP_str {x : Str} (h : PyData.strOk x = true) : okP (.str x) := ⟨by simp [plD, h], by simp [toPy, PyData.depth]⟩
end MV

set_option Elab.async false
set_option linter.all false
set_option maxRecDepth 100000
set_option maxHeartbeats 1000000
/-! P7: a list at a name, in any of its forms. -/
namespace MV
open PySem L2
/-- frozen; looked at; one's own -/
inductive Lf where
  | imm | ro | own
section
variable {α : Type} {f : α → P} {l : List α} {lf : Lf} {i : Nat} {ρ ss : Sl} {b : Bool}
def Lf.at (f : α → P) (l : List α) : Lf → Slot
  | .imm => .own (.imm (.lst (l.map f)))
  | .ro => .ro (.lst (l.map (D.imm ∘ f)))
  | .own => .own (.lst (l.map (D.imm ∘ f)))
def Lf.d (f : α → P) (l : List α) : Lf → D
  | .imm => .imm (.lst (l.map f))
  | _ => .lst (l.map (D.imm ∘ f))
def Lf.v (i : Nat) (f : α → P) (l : List α) : Lf → Val
  | .imm => .own (.imm (.lst (l.map f)))
  | _ => .bor (.lst (l.map (D.imm ∘ f))) i
def Lf.lent : Lf → Lf
  | .imm => .imm
  | _ => .ro
def Lf.it : Lf → Bool
  | .own => false
  | _ => true
@[simp] theorem Lf.lent_it : lf.lent.it = true := by cases lf <;> rfl
@[simp] theorem lent_ro : Lf.ro.lent = .ro := rfl
@[simp] theorem lent_imm : Lf.imm.lent = .imm := rfl
@[simp] theorem lent_own : Lf.own.lent = .ro := rfl
@[simp] theorem it_ro : Lf.ro.it = true := rfl
@[simp] theorem it_imm : Lf.imm.it = true := rfl
@[simp] theorem rd_lf : rdSlot i (lf.at f l) = some (lf.v i f l) := by cases lf <;> rfl
@[simp] theorem d_lf : (lf.v i f l).d = lf.d f l := by cases lf <;> rfl
@[simp] theorem okq_lf : okq (lf.v i f l) true = true := by cases lf <;> rfl
@[simp] theorem len_lf : cLen [lf.d f l] = some (.imm (.int l.length)) := by cases lf <;> simp [Lf.d]
@[simp] theorem tup_lf : cTuple [lf.d f l] = some (.imm (.tup (l.map f))) := by cases lf <;> simp [Lf.d]
@[simp] theorem lst_lf : cList [lf.d f l] = some (.lst (l.map (D.imm ∘ f))) := by cases lf <;> simp [Lf.d]
@[simp] theorem item_lf {k : Int} : item (lf.d f l) (.int k) = (atI l k).map (D.imm ∘ f) := by
  have e : ∀ {β : Type} {g : α → β}, atI (l.map g) k = (atI l k).map g := fun {β g} => by
    unfold atI
    rw [List.length_map]
    cases ixN l.length k <;> simp
  cases lf <;> simp [Lf.d, e]
@[simp] theorem cut_lf {lo hi : Option Int} : cutD (lf.d f l) lo hi = some (.lst ((cutP l lo hi).map (D.imm ∘ f))) := by
  cases lf <;> (simp only [Lf.d]; unfold cutD; simp [seqL, cutP_map])
@[simp] theorem pick_lf {p : P} : pick (lf.v i f l) (.imm p) = some (.own (.imm p)) := rfl
@[simp] theorem sf_lf : slotFor false (lf.at f l) = some (lf.lent.at f l) := by cases lf <;> rfl
@[simp] theorem isVal_lf : isVal (lf.at f l) = true := by cases lf <;> rfl
@[simp] theorem outs_lf {s : Slot} : outs (lf.at f l :: ss) (s :: ρ) = .no :: outs ss ρ := by cases lf <;> simp [Lf.at]
@[simp] theorem seqV_lf (h : ρ[i]? = some (lf.at f l)) (h2 : lf.it = true) : seqV ρ (lf.v i f l) = some (l.map f, none) := by
  cases lf with
  | imm => rfl
  | ro =>
    show seqV ρ (.bor (.lst (l.map (D.imm ∘ f))) i) = _
    rw [seqV_b, h]
    simp [Lf.at]
  | own => cases h2
@[simp] theorem fRev_lf : fRev (lf.d f l) = some (.lst (l.reverse.map (D.imm ∘ f))) := by
  cases lf <;> simp [Lf.d, fRev, seqL, List.map_reverse]
@[simp] theorem isN_lf : fIsN (lf.d f l) = some (.imm (.bl false)) := by cases lf <;> rfl
@[simp] theorem isiL_lf : fIsi "list" (lf.d f l) = some (.imm (.bl true)) := by cases lf <;> rfl
@[simp] theorem isiT_lf : fIsi "tuple" (lf.d f l) = some (.imm (.bl false)) := by cases lf <;> rfl
@[simp] theorem truth_lf : truth (lf.d f l) = some (!l.isEmpty) := by cases lf <;> cases l <;> rfl
end
/-! freezing -/
@[simp] theorem frz_l {ds : List D} : frz (.lst ds) = .lst (frzs ds) := by rw [frz]
@[simp] theorem frzs_comp {α : Type} {f : α → P} : ∀ {l : List α}, frzs (l.map (D.imm ∘ f)) = l.map f
  | [] => by simp
  | a :: l => by rw [List.map_cons, frzs_cons, frzs_comp, List.map_cons]; simp
@[simp] theorem frzs_fun {α : Type} {f : α → P} {l : List α} : frzs (l.map fun a => D.imm (f a)) = l.map f := frzs_comp
@[simp] theorem frzs_imm {l : List P} : frzs (l.map .imm) = l := by
  have := frzs_comp (f := id) (l := l)
  simpa using this
theorem frzs_append : ∀ {a b : List D}, frzs (a ++ b) = frzs a ++ frzs b
  | [], b => by simp
  | x :: a, b => by rw [List.cons_append, frzs_cons, frzs_append, frzs_cons]; rfl
/-! sums of lists -/
theorem fAddL_ll {a b : List D} : fAddL (.lst a) (.lst b) = (allImm a).bind fun p => (allImm b).bind fun q => if p.length + q.length ≤ sizeLine then some (.lst ((p ++ q).map .imm)) else none := by
  show (match allImm a, allImm b with
    | some p, some q => if p.length + q.length ≤ sizeLine then some (D.lst ((p ++ q).map .imm)) else none
    | _, _ => fAdd (.lst a) (.lst b)) = _
  cases allImm a with
  | none => rfl
  | some p =>
    cases allImm b with
    | none => rfl
    | some q => rfl
theorem fAddL_pl {p : List P} {b : List D} : fAddL (.imm (.lst p)) (.lst b) = (allImm b).bind fun q => if p.length + q.length ≤ sizeLine then some (.lst ((p ++ q).map .imm)) else none := by
  show (match some p, allImm b with
    | some p, some q => if p.length + q.length ≤ sizeLine then some (D.lst ((p ++ q).map .imm)) else none
    | _, _ => fAdd (.imm (.lst p)) (.lst b)) = _
  cases allImm b with
  | none => rfl
  | some q => rfl
theorem fAddL_lp {a : List D} {q : List P} : fAddL (.lst a) (.imm (.lst q)) = (allImm a).bind fun p => if p.length + q.length ≤ sizeLine then some (.lst ((p ++ q).map .imm)) else none := by
  show (match allImm a, some q with
    | some p, some q => if p.length + q.length ≤ sizeLine then some (D.lst ((p ++ q).map .imm)) else none
    | _, _ => fAdd (.lst a) (.imm (.lst q))) = _
  cases allImm a with
  | none => rfl
  | some p => rfl
theorem fAddL_pp {p q : List P} : fAddL (.imm (.lst p)) (.imm (.lst q)) = if p.length + q.length ≤ sizeLine then some (.lst ((p ++ q).map .imm)) else none := rfl
theorem allImm_append {a b : List D} {p q : List P} (h : allImm a = some p) (h' : allImm b = some q) : allImm (a ++ b) = some (p ++ q) := by
  induction a generalizing p with
  | nil => simp at h; subst h; simpa using h'
  | cons x a ih =>
    cases x with
    | imm x =>
      rw [allImm_cons] at h
      obtain ⟨r, hr, e⟩ := Option.map_eq_some_iff.mp h
      subst e
      rw [List.cons_append, allImm_cons, ih hr]
      rfl
    | lst _ => simp [allImm] at h
    | dct _ _ => simp [allImm] at h
@[simp] theorem allImm_app : ∀ {a b : List D}, allImm (a ++ b) = (allImm a).bind fun p => (allImm b).map fun q => p ++ q
  | [], b => by cases h : allImm b <;> simp [h]
  | .imm x :: a, b => by
    rw [List.cons_append, allImm_cons, allImm_cons, allImm_app]
    cases allImm a with
    | none => rfl
    | some p => cases allImm b <;> rfl
  | .lst _ :: a, b => by simp [allImm]
  | .dct _ _ :: a, b => by simp [allImm]
theorem rngL_nat {n : Nat} : rngL 0 n = (List.range n).map fun k => P.int ((k : Nat) : Int) := by
  unfold rngL
  simp
theorem at_imm {α : Type} {f : α → P} {l : List α} : Slot.own (.imm (.lst (l.map f))) = Lf.imm.at f l := rfl
theorem at_ro {α : Type} {f : α → P} {l : List α} : Slot.ro (.lst (l.map (D.imm ∘ f))) = Lf.ro.at f l := rfl
theorem at_own {α : Type} {f : α → P} {l : List α} : Slot.own (.lst (l.map (D.imm ∘ f))) = Lf.own.at f l := rfl
end MV

set_option Elab.async false
set_option linter.all false
set_option maxRecDepth 100000
set_option maxHeartbeats 1000000
/-! P8: dict comprehensions. -/
namespace MV
open PySem L2
section
variable {ρ : Sl} {P : Val → Sl → Prop} {α κ : Type} [DecidableEq κ] {kP : κ → MV.P}
/-- a turn: key and value are those due, the names are as before -/
def DcStep (g : Tg) (vs : List Nat) (t : MT) (k m : ME) (ρw : Sl) (p : MV.P) (kp : MV.P) (d : D) : Prop :=
  osat (bindG g (.imm p) ρw) fun ρ1 => (t ρ1).sat fun b ρ2 => bsat b ((k ρ2).sat fun kv ρ3 => kv = .own (.imm kp) ∧ (m ρ3).sat fun v ρ4 => vsat v fun d' => d' = d ∧ wipeS ρ4 vs = ρw) False
theorem sat_dcL (hk : KeyE kP) {g : Tg} {vs : List Nat} {t : MT} {k m : ME} {ρw : Sl} {f : α → MV.P} {K : α → κ} {v : κ → D} : ∀ (ps : List α) (ks : List κ), (∀ p ∈ ps, DcStep g vs t k m ρw (f p) (kP (K p)) (v (K p))) → (ks ++ ps.map K).Nodup → ks.length + ps.length ≤ sizeLine →
    (dcL g vs t k m (ps.map f) (ks.map kP) (ks.map v) ρw).sat fun r ρ => r = ((ks ++ ps.map K).map kP, (ks ++ ps.map K).map v) ∧ ρ = ρw
  | [], ks, _, _, _ => by
    rw [List.map_nil]
    unfold dcL
    exact ⟨by simp, rfl⟩
  | p :: ps, ks, h, hn, hl => by
    have s := h p List.mem_cons_self
    unfold DcStep at s
    rw [List.length_cons] at hl
    have hx : K p ∉ ks := fun z => by
      rw [List.nodup_append] at hn
      exact hn.2.2 _ z _ (by simp) rfl
    rw [List.map_cons]
    unfold dcL
    cases q : bindG g (.imm (f p)) ρw with
    | none => rw [q] at s; exact s.elim
    | some ρ1 =>
      rw [q] at s
      simp only [osat_some] at s
      simp only [R.sat_bind]
      refine R.sat_mono s fun b ρ2 s => ?_
      cases b with
      | false => simp only [bsat_f] at s
      | true =>
        rw [if_pos rfl, R.sat_bind]
        simp only [bsat_t] at s
        refine R.sat_mono s fun kv ρ3 s => ?_
        obtain ⟨e, s⟩ := s
        subst e
        simp only []
        rw [if_pos (hk.ok _), R.sat_bind]
        refine R.sat_mono s fun w ρ4 s => ?_
        cases w with
        | bor => exact s.elim
        | own d =>
          obtain ⟨e1, e2⟩ := s
          subst e1
          simp only []
          rw [if_pos (by rw [List.length_map]; omega), putKs_newK hk hx, putD_newK hk hx, e2]
          have e3 : ks.map v ++ [v (K p)] = (ks ++ [K p]).map v := by simp
          rw [e3]
          have := sat_dcL hk (v := v) ps (ks ++ [K p]) (fun p hp => h p (List.mem_cons_of_mem _ hp)) (by simpa using hn) (by simp only [List.length_append, List.length_cons, List.length_nil]; omega)
          refine R.sat_mono this fun r ρ hr => ⟨?_, hr.2⟩
          rw [hr.1]
          simp
/-- THE RULE of a dict comprehension with distinct keys -/
theorem sat_dcM (hk : KeyE kP) {g : Tg} {vs : List Nat} {t : MT} {k m : ME} {f : α → MV.P} {l : List α} (K : α → κ) (v : κ → D) (hv : vs.all (fun v => plainS ρ[v]?) = true) (hr : restS (wipeS ρ vs) ρ vs = ρ) (hn : (l.map K).Nodup) (hl : l.length ≤ sizeLine) (h : ∀ p ∈ l, DcStep g vs t k m (wipeS ρ vs) (f p) (kP (K p)) (v (K p)))
    (kk : P (.own (.dct ((l.map K).map kP) ((l.map K).map v))) ρ) : (dcE g vs t k m (l.map f) ρ).sat P := by
  unfold dcE
  rw [if_pos hv]
  obtain ⟨a, ρ', e, e1, e2⟩ := R.of_sat (sat_dcL hk (v := v) l [] h (by simpa using hn) (by simpa using hl))
  simp only [List.map_nil] at e
  rw [e]
  subst e1 e2
  unfold dcEnd
  simp only [R.sat_ok, List.nil_append]
  rw [hr]
  exact kk
@[simp] theorem sat_eDc {g : Tg} {vs : List Nat} {mi : MI} {t : MT} {k m : ME} : (eDc g vs mi t k m ρ).sat P = (mi ρ).sat fun pl ρ1 => (dcK g vs t k m pl.1 pl.2 ρ1).sat P := by
  unfold eDc
  rw [R.sat_bind]
@[simp] theorem dcK_none {g : Tg} {vs : List Nat} {t : MT} {k m : ME} {ps : List MV.P} : dcK g vs t k m ps none ρ = dcE g vs t k m ps ρ := (rfl)
end
section
variable {ρ : Sl} {N : En}
@[simp] theorem sat_sLput {i : Nat} {mk m : ME} : (sLput i mk m ρ).sat N = (m ρ).sat fun v ρ1 => vsat v fun d => osat (ρ1[i]?) fun s => osat (lstS s) fun _ => (mk ρ1).sat fun vk ρ2 => osat (keyP vk) fun k => osat (ρ2[i]?) fun s0 => osat (lstS s0) fun ds =>
    osat (idxP ds.length k) fun j => N.nx (ρ2.set i (reS s0 (.lst (ds.set j d)))) := by
  unfold sLput lstS
  simp only [R.sat_bindS]
  refine R.sat_ext fun v ρ1 => ?_
  cases v with
  | bor => rfl
  | own d =>
    simp only [vsat_own]
    cases ρ1[i]? with
    | none => rfl
    | some s =>
      simp only [osat_some, Option.bind_some]
      cases (slD s).bind asLst with
      | none => rfl
      | some _ =>
        simp only [R.sat_bindS, osat_some]
        refine R.sat_ext fun vk ρ2 => ?_
        cases vk with
        | bor => rfl
        | own dk =>
          cases dk with
          | lst => rfl
          | dct => rfl
          | imm k =>
            simp only [keyP_own, osat_some]
            cases ρ2[i]? with
            | none => rfl
            | some s0 =>
              simp only [osat_some]
              cases (slD s0).bind asLst with
              | none => rfl
              | some ds =>
                simp only [osat_some]
                cases idxP ds.length k with
                | none => rfl
                | some j => rfl
def fzS (i : Nat) (ρ : Sl) : MV.Slot → Option (Val × Sl)
  | .own (.imm p) => some (.own (.imm p), ρ)
  | .pin (.imm p) => some (.own (.imm p), ρ)
  | .ro (.imm p) => some (.own (.imm p), ρ)
  | .own d => some (.own (.imm (frz d)), ρ.set i (.own (.imm (frz d))))
  | _ => none
@[simp] theorem fzS_imm {i : Nat} {p : MV.P} : fzS i ρ (.own (.imm p)) = some (.own (.imm p), ρ) := (rfl)
@[simp] theorem fzS_lst {i : Nat} {ds : List D} : fzS i ρ (.own (.lst ds)) = some (.own (.imm (frz (.lst ds))), ρ.set i (.own (.imm (frz (.lst ds))))) := (rfl)
@[simp] theorem sat_eFz {i : Nat} {P : Val → Sl → Prop} : (eFz i ρ).sat P = osat (ρ[i]?) fun s => osat (fzS i ρ s) fun v => P v.1 v.2 := by
  unfold eFz
  cases ρ[i]? with
  | none => rfl
  | some s =>
    cases s with
    | own d => cases d <;> rfl
    | pin d => cases d <;> rfl
    | ro d => cases d <;> rfl
    | no => rfl
    | ex e => rfl
@[simp] theorem sat_eFv {m : ME} {P : Val → Sl → Prop} : (eFv m ρ).sat P = (m ρ).sat fun v ρ1 => vsat v fun d => P (.own (.imm (frz d))) ρ1 := by
  unfold eFv
  rw [R.sat_bind]
  refine R.sat_ext fun v ρ1 => ?_
  cases v <;> rfl
@[simp] theorem idxP_nat {n j : Nat} : idxP n (.int (j : Int)) = if j < n then some j else none := by
  show L2.ixN n (j : Int) = _
  by_cases h : j < n
  · rw [if_pos h]
    unfold L2.ixN
    rw [if_pos (by omega), if_pos (by omega)]
    simp
  · rw [if_neg h]
    unfold L2.ixN
    rw [if_pos (by omega), if_neg (by omega)]
end
end MV

set_option Elab.async false
set_option linter.all false
set_option maxRecDepth 100000
/-! What defs shared by several laws compute, over data. Printed by gen.py. -/
namespace Lb
open PySem L2 MV
def m__law_is_whole : MS := (sRet (eAnd (e1 (fIsi "int") (eN 0)) (eNot (e1 (fIsi "bool") (eN 0)))))
def F__law_is_whole : FS := runF 1 m__law_is_whole
def m__law_same (rec : FS) : MS := (sSeq (sIf (toB (e1 fIsN (eN 1))) (sRet (e1 fIsN (eN 0))) sNx)
    (sSeq (sIf (eTru (e1 (fIsi "bool") (eN 1))) (sRet (eAnd (e1 (fIsi "bool") (eN 0)) (e2 true fEq (eN 0) (eN 1)))) sNx)
    (sSeq (sIf (tOr' (eTru (e1 (fIsi "tuple") (eN 1))) (eTru (e1 (fIsi "list") (eN 1)))) (sSeq (sIf (tOr' (toB (e2 true fNe (e1 (fIsi "tuple") (eN 0)) (e1 (fIsi "tuple") (eN 1)))) (toB (e2 true fNe (e1 (fIsi "list") (eN 0)) (e1 (fIsi "list") (eN 1))))) (sRet (eC (.bl false))) sNx)
      (sSeq (sIf (toB (e2 true fNe (eB cLen (vCons true (eN 0) aNil)) (eB cLen (vCons true (eN 1) aNil)))) (sRet (eC (.bl false))) sNx)
      (sSeq (sFor (.nm 2) (iRg rng1 (vCons true (eB cLen (vCons true (eN 1) aNil)) aNil)) (sIf (tNot' (eTru (eCall [none, none] rec (lOwn (eGtN 0 (eN 2)) (lOwn (eGtN 1 (eN 2)) lNil))))) (sRet (eC (.bl false))) sNx))
      (sRet (eC (.bl true)))))) sNx)
    (sSeq (sIf (eTru (e1 (fIsi "str") (eN 1))) (sRet (eAnd (e1 (fIsi "str") (eN 0)) (e2 true fEq (eN 0) (eN 1)))) sNx)
    (sRet (eAnd (eCall [some (0, false)] F__law_is_whole (lLent 0 lNil)) (e2 true fEq (eN 0) (eN 1))))))))
def F__law_same : Nat → FS
  | 0 => runF 3 (fun _ => .stuck)
  | n + 1 => runF 3 (m__law_same (F__law_same n))
def m_fraction : MS := (sSeq (sIf (toB (e2 true fEq (eN 1) (eC (.int 0)))) sNever sNx)
    (sSeq (sIf (toB (e2 true fLt (eN 1) (eC (.int 0)))) (sSeq (sAsg (.nm 0) (e1 fNeg (eN 0)))
      (sAsg (.nm 1) (e1 fNeg (eN 1)))) sNx)
    (sSeq (sAsg (.nm 2) (eB cGcd (vCons true (eN 0) (vCons true (eN 1) aNil))))
    (sRet (eTup (aCons (e2 true fFdiv (eN 0) (eN 2)) (aCons (e2 true fFdiv (eN 1) (eN 2)) aNil)))))))
def F_fraction : FS := runF 3 m_fraction
def m_plus : MS := (sRet (eCall [none, none] F_fraction (lOwn (e2 true fAddL (e2 true fMul (eGtN 0 (eC (.int 0))) (eGtN 1 (eC (.int 1)))) (e2 true fMul (eGtN 1 (eC (.int 0))) (eGtN 0 (eC (.int 1))))) (lOwn (e2 true fMul (eGtN 0 (eC (.int 1))) (eGtN 1 (eC (.int 1)))) lNil))))
def F_plus : FS := runF 2 m_plus
def k_ZERO : P := .tup [.int 0, .int 1]
def m_total : MS := (sSeq (sAsg (.nm 1) (eC k_ZERO))
    (sSeq (sFor (.nm 2) (iSq (eN 0)) (sAsg (.nm 1) (eCall [some (1, false), some (2, false)] F_plus (lLent 1 (lLent 2 lNil)))))
    (sRet (eM 1))))
def F_total : FS := runF 3 m_total
def m_common : MS := (sSeq (sAsg (.nm 1) (eC (.int 1)))
    (sSeq (sFor (.nm 2) (iSq (eN 0)) (sAsg (.nm 1) (eB cLcm (vCons true (eN 1) (vCons true (eGtN 2 (eC (.int 1))) aNil)))))
    (sRet (eM 1))))
def F_common : FS := runF 3 m_common
def m_compare : MS := (sSeq (sAsg (.nm 2) (e2 true fMul (eGtN 0 (eC (.int 0))) (eGtN 1 (eC (.int 1)))))
    (sSeq (sAsg (.nm 3) (e2 true fMul (eGtN 1 (eC (.int 0))) (eGtN 0 (eC (.int 1)))))
    (sSeq (sIf (toB (e2 true fLt (eN 2) (eN 3))) (sRet (e1 fNeg (eC (.int 1)))) sNx)
    (sSeq (sIf (toB (e2 true fGt (eN 2) (eN 3))) (sRet (eC (.int 1))) sNx)
    (sRet (eC (.int 0)))))))
def F_compare : FS := runF 4 m_compare
def m_greater : MS := (sSeq (sIf (toB (e2 true fGt (eCall [some (1, false), some (0, false)] F_compare (lLent 1 (lLent 0 lNil))) (eC (.int 0)))) (sRet (eM 1)) sNx)
    (sRet (eM 0)))
def F_greater : FS := runF 2 m_greater
def m_lesser : MS := (sSeq (sIf (toB (e2 true fLt (eCall [some (1, false), some (0, false)] F_compare (lLent 1 (lLent 0 lNil))) (eC (.int 0)))) (sRet (eM 1)) sNx)
    (sRet (eM 0)))
def F_lesser : FS := runF 2 m_lesser
def m_meet : MS := (sSeq (sAsg (.nm 2) (eCall [none, none] F_greater (lOwn (eGtN 0 (eC (.int 0))) (lOwn (eGtN 1 (eC (.int 0))) lNil))))
    (sSeq (sAsg (.nm 3) (eCall [none, none] F_lesser (lOwn (eGtN 0 (eC (.int 1))) (lOwn (eGtN 1 (eC (.int 1))) lNil))))
    (sSeq (sIf (toB (e2 true fGt (eCall [some (2, false), some (3, false)] F_compare (lLent 2 (lLent 3 lNil))) (eC (.int 0)))) (sRet (eC .non)) sNx)
    (sRet (eTup (aCons (eM 2) (aCons (eM 3) aNil)))))))
def F_meet : FS := runF 4 m_meet
def m_floor_of : MS := (sRet (e2 true fFdiv (eGtN 0 (eC (.int 0))) (eGtN 0 (eC (.int 1)))))
def F_floor_of : FS := runF 1 m_floor_of
def m_ceiling_of : MS := (sRet (e1 fNeg (e2 true fFdiv (e1 fNeg (eGtN 0 (eC (.int 0)))) (eGtN 0 (eC (.int 1))))))
def F_ceiling_of : FS := runF 1 m_ceiling_of
def m__law_gcd : MS := (sSeq (sAsg (.nm 0) (eB cAbs (vCons true (eN 0) aNil)))
    (sSeq (sAsg (.nm 1) (eB cAbs (vCons true (eN 1) aNil)))
    (sSeq (sFor (.nm 2) (iRg rng1 (vCons true (eC (.int 4000)) aNil)) (sSeq (sIf (toB (e2 true fEq (eN 1) (eC (.int 0)))) sBk sNx)
      (sPar 0 1 (aCons (eM 1) (aCons (e2 true fMod (eB cInt (vCons true (eN 0) aNil)) (eN 1)) aNil)))))
    (sRet (eM 0)))))
def F__law_gcd : FS := runF 3 m__law_gcd
def m__law_lowest : MS := (sSeq (sAsg (.nm 2) (eCall [some (0, false), some (1, false)] F__law_gcd (lLent 0 (lLent 1 lNil))))
    (sRet (eTup (aCons (e2 true fFdiv (eN 0) (eN 2)) (aCons (e2 true fFdiv (eN 1) (eN 2)) aNil)))))
def F__law_lowest : FS := runF 3 m__law_lowest
end Lb

set_option Elab.async false
set_option linter.all false
set_option maxRecDepth 100000
/-! What defs shared by several laws compute, over data. Printed by gen.py. -/
namespace Lb
open PySem L2 MV
def m_minus : MS := (sRet (eCall [none, none] F_fraction (lOwn (e2 true fSub (e2 true fMul (eGtN 0 (eC (.int 0))) (eGtN 1 (eC (.int 1)))) (e2 true fMul (eGtN 1 (eC (.int 0))) (eGtN 0 (eC (.int 1))))) (lOwn (e2 true fMul (eGtN 0 (eC (.int 1))) (eGtN 1 (eC (.int 1)))) lNil))))
def F_minus : FS := runF 2 m_minus
def b_first_duplicate_1 : MS := (sSeq (sIf (toB (e2 true fIn5 (eN 2) (eN 1))) (sRet (eM 2)) sNx)
      (sDput 1 (eN 2) (eC (.bl true))))
def m_first_duplicate : MS := (sSeq (sAsg (.nm 1) (eDnew false))
    (sSeq (sFor (.nm 2) (iSq (eN 0)) b_first_duplicate_1)
    (sRet (eC .non))))
def F_first_duplicate : FS := runF 3 m_first_duplicate
def k_MOST_POINTS : P := .int 60
def k_MOST_SPANS : P := .int 200
def b_check_system_1 : MS := (sIf (toB (e2 true fNotIn5 (eN 4) (eN 0))) sNever sNx)
def b_check_system_2 : MS := (sFor (.nm 4) (iSq (eTup (aCons (eGtN 3 (eC (.int 1))) (aCons (eGtN 3 (eC (.int 2))) aNil)))) b_check_system_1)
def m_check_system : MS := (sSeq (sIf (toB (e2 true fGt (eB cLen (vCons true (eN 0) aNil)) (eC k_MOST_POINTS))) sNever sNx)
    (sSeq (sIf (toB (e2 true fGt (eB cLen (vCons true (eN 1) aNil)) (eC k_MOST_SPANS))) sNever sNx)
    (sSeq (sAsg (.nm 2) (eCall [some (0, false)] F_first_duplicate (lLent 0 lNil)))
    (sSeq (sIf (toB (e1 fNotN (eN 2))) sNever sNx)
    (sFor (.nm 3) (iSq (eN 1)) b_check_system_2)))))
def F_check_system : FS := runF 5 m_check_system
def m_is_whole : MS := (sRet (eAnd (e1 (fIsi "int") (eN 0)) (eNot (e1 (fIsi "bool") (eN 0)))))
def F_is_whole : FS := runF 1 m_is_whole
def m_is_fraction : MS := (sSeq (sIf (tOr' (tNot' (eTru (e1 (fIsi "tuple") (eN 0)))) (toB (e2 true fNe (eB cLen (vCons true (eN 0) aNil)) (eC (.int 2))))) (sRet (eC (.bl false))) sNx)
    (sSeq (sIf (tOr' (tNot' (eTru (eCall [none] F_is_whole (lOwn (eGtN 0 (eC (.int 0))) lNil)))) (tNot' (eTru (eCall [none] F_is_whole (lOwn (eGtN 0 (eC (.int 1))) lNil))))) (sRet (eC (.bl false))) sNx)
    (sRet (eAnd (e2 true fGt (eGtN 0 (eC (.int 1))) (eC (.int 0))) (e2 true fEq (eB cGcd (vCons true (eGtN 0 (eC (.int 0))) (vCons true (eGtN 0 (eC (.int 1))) aNil))) (eC (.int 1)))))))
def F_is_fraction : FS := runF 1 m_is_fraction
def m_is_step : MS := (sSeq (sIf (tOr' (tNot' (eTru (e1 (fIsi "tuple") (eN 1)))) (toB (e2 true fNe (eB cLen (vCons true (eN 1) aNil)) (eC (.int 2))))) (sRet (eC (.bl false))) sNx)
    (sSeq (sIf (tOr' (tNot' (eTru (eCall [none] F_is_whole (lOwn (eGtN 1 (eC (.int 0))) lNil)))) (tNot' (eTru (eCall [none] F_is_whole (lOwn (eGtN 1 (eC (.int 1))) lNil))))) (sRet (eC (.bl false))) sNx)
    (sRet (eAnd (eChain true true fLe fLt (eC (.int 0)) (eGtN 1 (eC (.int 0))) (eB cLen (vCons true (eN 0) aNil))) (e2 true fIn5 (eGtN 1 (eC (.int 1))) (eTup (aCons (eC (.int 1)) (aCons (e1 fNeg (eC (.int 1))) aNil))))))))
def F_is_step : FS := runF 2 m_is_step
def m_step_ends : MS := (sSeq (sAsg (.tup [2, 3, 4, 5, 6]) (eGtN 0 (eGtN 1 (eC (.int 0)))))
    (sSeq (sIf (toB (e2 true fEq (eGtN 1 (eC (.int 1))) (eC (.int 1)))) (sRet (eTup (aCons (eM 3) (aCons (eM 4) (aCons (eM 6) aNil))))) sNx)
    (sRet (eTup (aCons (eM 4) (aCons (eM 3) (aCons (eCall [none, some (5, false)] F_minus (lOwn (eC k_ZERO) (lLent 5 lNil))) aNil)))))))
def F_step_ends : FS := runF 7 m_step_ends
def k_MOST_STEPS : P := .int 60
def b_walk_length_1 : MS := (sSeq (sIf (tNot' (eTru (eCall [some (0, false), some (6, false)] F_is_step (lLent 0 (lLent 6 lNil))))) (sRet (eC .non)) sNx)
      (sSeq (sAsg (.tup [7, 8, 9]) (eCall [some (0, false), some (6, false)] F_step_ends (lLent 0 (lLent 6 lNil))))
      (sSeq (sIf (toB (e2 true fNe (eN 7) (eN 4))) (sRet (eC .non)) sNx)
      (sSeq (sAsg (.nm 4) (eM 8))
      (sAsg (.nm 5) (eCall [some (5, false), some (9, false)] F_plus (lLent 5 (lLent 9 lNil))))))))
def t_walk_length_2 : MS := (sSeq (sIf (toB (e2 true fNe (eN 4) (eN 2))) (sRet (eC .non)) sNx)
    (sRet (eM 5)))
def m_walk_length : MS := (sSeq (sIf (tOr' (tNot' (eTru (e1 (fIsi "tuple") (eN 3)))) (toB (e2 true fGt (eB cLen (vCons true (eN 3) aNil)) (eC k_MOST_STEPS)))) (sRet (eC .non)) sNx)
    (sSeq (sAsg (.nm 4) (eM 1))
    (sSeq (sAsg (.nm 5) (eC k_ZERO))
    (sSeq (sFor (.nm 6) (iSq (eN 3)) b_walk_length_1)
    t_walk_length_2))))
def F_walk_length : FS := runF 10 m_walk_length
def m_path_length : MS := (sSeq (sExpr (eCall [some (0, false), some (1, false)] F_check_system (lLent 0 (lLent 1 lNil))))
    (sSeq (sIf (tOr' (toB (e2 true fNotIn5 (eN 2) (eN 0))) (toB (e2 true fNotIn5 (eN 3) (eN 0)))) (sRet (eC .non)) sNx)
    (sRet (eCall [some (1, false), some (2, false), some (3, false), some (4, false)] F_walk_length (lLent 1 (lLent 2 (lLent 3 (lLent 4 lNil))))))))
def F_path_length : FS := runF 5 m_path_length
def m_has_form : MS := (sSeq (sIf (tOr' (tNot' (eTru (e1 (fIsi "tuple") (eN 0)))) (toB (e2 true fNe (eB cLen (vCons true (eN 0) aNil)) (eN 2)))) (sRet (eC (.bl false))) sNx)
    (sRet (eAnd (e1 (fIsi "str") (eGtN 0 (eC (.int 0)))) (e2 true fEq (eGtN 0 (eC (.int 0))) (eN 1)))))
def F_has_form : FS := runF 3 m_has_form
def m_is_loop : MS := (sSeq (sExpr (eCall [some (0, false), some (1, false)] F_check_system (lLent 0 (lLent 1 lNil))))
    (sSeq (sIf (tNot' (eTru (eCall [some (2, false), none, none] F_has_form (lLent 2 (lOwn (eC (.str "loop")) (lOwn (eC (.int 2)) lNil)))))) (sRet (eC (.bl false))) sNx)
    (sSeq (sAsg (.nm 3) (eGtN 2 (eC (.int 1))))
    (sSeq (sIf (tOr' (tNot' (eTru (e1 (fIsi "tuple") (eN 3)))) (tOr' (toB (e2 true fEq (eB cLen (vCons true (eN 3) aNil)) (eC (.int 0)))) (tNot' (eTru (eCall [some (1, false), none] F_is_step (lLent 1 (lOwn (eGtN 3 (eC (.int 0))) lNil))))))) (sRet (eC (.bl false))) sNx)
    (sSeq (sAsg (.nm 4) (eGt true (eCall [some (1, false), none] F_step_ends (lLent 1 (lOwn (eGtN 3 (eC (.int 0))) lNil))) (eC (.int 0))))
    (sSeq (sAsg (.nm 5) (eCall [some (1, false), some (4, false), some (4, false), some (3, false)] F_walk_length (lLent 1 (lLent 4 (lLent 4 (lLent 3 lNil))))))
    (sRet (eAnd (e1 fNotN (eN 5)) (e2 true fLt (eCall [some (5, false), none] F_compare (lLent 5 (lOwn (eC k_ZERO) lNil))) (eC (.int 0)))))))))))
def F_is_loop : FS := runF 6 m_is_loop
def b_read_positions_1 : MS := (sSeq (sAsg (.nm 4) (eGtN 1 (eN 3)))
      (sSeq (sIf (tOr' (tNot' (eTru (e1 (fIsi "tuple") (eN 4)))) (toB (e2 true fNe (eB cLen (vCons true (eN 4) aNil)) (eC (.int 2))))) (sRet (eC .non)) sNx)
      (sSeq (sIf (tOr' (tNot' (eTru (e1 (fIsi "str") (eGtN 4 (eC (.int 0)))))) (tOr' (toB (e2 true fNe (eGtN 4 (eC (.int 0))) (eGtN 0 (eN 3)))) (tNot' (eTru (eCall [none] F_is_fraction (lOwn (eGtN 4 (eC (.int 1))) lNil)))))) (sRet (eC .non)) sNx)
      (sDput 2 (eGtN 0 (eN 3)) (eGtN 4 (eC (.int 1)))))))
def m_read_positions : MS := (sSeq (sIf (tOr' (tNot' (eTru (e1 (fIsi "tuple") (eN 1)))) (toB (e2 true fNe (eB cLen (vCons true (eN 1) aNil)) (eB cLen (vCons true (eN 0) aNil))))) (sRet (eC .non)) sNx)
    (sSeq (sAsg (.nm 2) (eDnew false))
    (sSeq (sFor (.nm 3) (iRg rng1 (vCons true (eB cLen (vCons true (eN 0) aNil)) aNil)) b_read_positions_1)
    (sRet (eM 2)))))
def F_read_positions : FS := runF 5 m_read_positions
def b_are_rows_of_set_1 : MS := (sSeq (sAsg (.nm 9) (eCall [none, none] F_minus (lOwn (eGtN 3 (eN 6)) (lOwn (eGtN 3 (eN 5)) lNil))))
      (sIf (tOr' (toB (e2 true fLt (eCall [some (9, false), some (7, false)] F_compare (lLent 9 (lLent 7 lNil))) (eC (.int 0)))) (toB (e2 true fGt (eCall [some (9, false), some (8, false)] F_compare (lLent 9 (lLent 8 lNil))) (eC (.int 0))))) (sRet (eC (.bl false))) sNx))
def m_are_rows_of_set : MS := (sSeq (sAsg (.nm 3) (eCall [some (0, false), some (2, false)] F_read_positions (lLent 0 (lLent 2 lNil))))
    (sSeq (sIf (toB (e1 fIsN (eN 3))) (sRet (eC (.bl false))) sNx)
    (sSeq (sFor (.tup [4, 5, 6, 7, 8]) (iSq (eN 1)) b_are_rows_of_set_1)
    (sRet (eC (.bl true))))))
def F_are_rows_of_set : FS := runF 10 m_are_rows_of_set
def m_is_most : MS := (sSeq (sExpr (eCall [some (0, false), some (1, false)] F_check_system (lLent 0 (lLent 1 lNil))))
    (sSeq (sIf (tOr' (toB (e2 true fNotIn5 (eN 2) (eN 0))) (tOr' (toB (e2 true fNotIn5 (eN 3) (eN 0))) (tNot' (eTru (eCall [some (4, false), none, none] F_has_form (lLent 4 (lOwn (eC (.str "most")) (lOwn (eC (.int 4)) lNil)))))))) (sRet (eC (.bl false))) sNx)
    (sSeq (sAsg (.nm 5) (eCall [some (1, false), some (2, false), some (3, false), none] F_walk_length (lLent 1 (lLent 2 (lLent 3 (lOwn (eGtN 4 (eC (.int 2))) lNil))))))
    (sSeq (sIf (tOr' (toB (e1 fIsN (eN 5))) (tOr' (tNot' (eTru (eCall [none] F_is_fraction (lOwn (eGtN 4 (eC (.int 1))) lNil)))) (toB (e2 true fNe (eN 5) (eGtN 4 (eC (.int 1))))))) (sRet (eC (.bl false))) sNx)
    (sSeq (sIf (tNot' (eTru (eCall [some (0, false), some (1, false), none] F_are_rows_of_set (lLent 0 (lLent 1 (lOwn (eGtN 4 (eC (.int 3))) lNil)))))) (sRet (eC (.bl false))) sNx)
    (sSeq (sAsg (.nm 6) (eCall [some (0, false), none] F_read_positions (lLent 0 (lOwn (eGtN 4 (eC (.int 3))) lNil))))
    (sRet (e2 true fEq (eCall [none, none] F_minus (lOwn (eGtN 6 (eN 3)) (lOwn (eGtN 6 (eN 2)) lNil))) (eN 5)))))))))
def F_is_most : FS := runF 7 m_is_most
def b__law_spans_1 : MS := (sSeq (sAsg (.nm 9) (eCall [none, none] F__law_lowest (lOwn (e2 true fMul (eN 7) (eGtN 2 (eC (.int 0)))) (lOwn (eGtN 2 (eC (.int 1))) lNil))))
      (sSeq (sAsg (.nm 10) (eCall [none, none] F__law_lowest (lOwn (e2 true fMul (eN 8) (eGtN 2 (eC (.int 0)))) (lOwn (eGtN 2 (eC (.int 1))) lNil))))
      (sApp 3 (eTup (aCons (eM 4) (aCons (eGtN 1 (eN 5)) (aCons (eGtN 1 (eN 6)) (aCons (eM 9) (aCons (eM 10) aNil)))))))))
def m__law_spans : MS := (sSeq (sAsg (.nm 3) (eLst aNil))
    (sSeq (sFor (.tup [4, 5, 6, 7, 8]) (iSq (eN 0)) b__law_spans_1)
    (sRet (eB cTuple (vCons true (eN 3) aNil)))))
def F__law_spans : FS := runF 11 m__law_spans
end Lb

set_option Elab.async false
set_option linter.all false
set_option maxRecDepth 100000
set_option maxHeartbeats 1000000
/-! Lq1: fractions: sizes, plus, compare and their kin. -/
namespace Lb
open PySem L2 MV
def frP (r : Rat) : P := .tup [.int r.num, .int r.den]
theorem frP_inj {a b : Rat} (h : frP a = frP b) : a = b := by
  simp [frP] at h
  exact Rat.ext h.1 (by omega)
@[simp] theorem frP_eq {a b : Rat} : frP a = frP b ↔ a = b := ⟨frP_inj, fun h => by rw [h]⟩
@[simp] theorem item_fr0 {r : Rat} : item (.imm (frP r)) (.int 0) = some (.imm (.int r.num)) := by simp [frP]
@[simp] theorem item_fr1 {r : Rat} : item (.imm (frP r)) (.int 1) = some (.imm (.int r.den)) := by simp [frP]
theorem okDiv_nat {g : Nat} (h0 : 0 < g) (h : g.log2 < 9000) : okDiv ((g : Nat) : Int) = true := by
  unfold okDiv
  simp [h, h0]
theorem gcd_pos {p q : Int} (hq : q ≠ 0) : 0 < Nat.gcd p.natAbs q.natAbs := Nat.gcd_pos_of_pos_right _ (by omega)
theorem fr_num {p q : Int} (hq : 0 < q) : p / ((Nat.gcd p.natAbs q.natAbs : Nat) : Int) = (Rat.divInt p q).num := by
  rw [Rat.num_divInt, Int.gcd_comm, Int.gcd_eq_natAbs_gcd_natAbs, Int.sign_eq_one_of_pos hq, Int.one_mul]
theorem fr_den {p q : Int} (hq : 0 < q) : q / ((Nat.gcd p.natAbs q.natAbs : Nat) : Int) = ((Rat.divInt p q).den : Int) := by
  rw [Rat.den_divInt, if_neg (by omega), Int.gcd_comm, Int.gcd_eq_natAbs_gcd_natAbs, Int.natCast_ediv]
  congr 1
  omega
theorem fr_neg {p q : Int} : Rat.divInt (-p) (-q) = Rat.divInt p q := by
  rw [Rat.divInt_eq_div, Rat.divInt_eq_div]
  grind
theorem log2_of {x n : Nat} (h : x ≤ 2 ^ n) : x.log2 < n + 1 := by
  by_cases e : x = 0
  · subst e
    simp
  · rw [Nat.log2_lt e]
    have : 2 ^ n < 2 ^ (n + 1) := Nat.pow_lt_pow_right (by decide) (by omega)
    omega
theorem log2_lt9 {g n : Nat} (h : g ≤ 2 ^ n) (hn : n < 8999) : g.log2 < 9000 := by
  have := log2_of h
  omega
theorem okDiv_of {g n : Nat} (h0 : 0 < g) (h : g ≤ 2 ^ n) (hn : n < 8999) : okDiv ((g : Nat) : Int) = true := okDiv_nat h0 (log2_lt9 h hn)
theorem okMul_of {i j : Int} {a b : Nat} (hi : i.natAbs ≤ 2 ^ a) (hj : j.natAbs ≤ 2 ^ b) (h : a + b + 2 ≤ 1000000) : okMul i j = true := by
  have h1 := log2_of hi
  have h2 := log2_of hj
  unfold okMul
  have : decide (i.natAbs.log2 + j.natAbs.log2 < 1000000) = true := decide_eq_true (by omega)
  rw [this]
  simp
theorem fraction_eq {p q : Int} {n : Nat} (hq : q ≠ 0) (hb : q.natAbs ≤ 2 ^ n) (hn : n < 8999) : F_fraction [.own (.imm (.int p)), .own (.imm (.int q))] = .ok (.imm (frP (Rat.divInt p q))) [.no, .no] := by
  have g0 := gcd_pos (p := p) hq
  have od := okDiv_of g0 (Nat.le_trans (Nat.gcd_le_right _ (by omega)) hb) hn
  refine R.eq_of_sat ?_
  unfold F_fraction m_fraction
  rw [sat_runF]
  simp [hq, od]
  refine ⟨fun hn => ?_, fun hp => ?_⟩
  · have h1 := fr_num (p := -p) (q := -q) (by omega)
    have h2 := fr_den (p := -p) (q := -q) (by omega)
    rw [fr_neg] at h1 h2
    simp only [Int.natAbs_neg] at h1 h2
    simp only [frP, h1, h2]
  · have h1 := fr_num (p := p) (q := q) (by omega)
    have h2 := fr_den (p := p) (q := q) (by omega)
    simp only [frP, h1, h2]

/-! ### sizes -/
def Md (n : Nat) (r : Rat) : Prop := r.num.natAbs ≤ 2 ^ n ∧ r.den ≤ 2 ^ n
theorem den_pos (r : Rat) : 0 < r.den := r.den_pos
theorem mul_le2 {a b x y : Nat} (h1 : a ≤ 2 ^ x) (h2 : b ≤ 2 ^ y) : a * b ≤ 2 ^ (x + y) := by
  rw [Nat.pow_add]
  exact Nat.mul_le_mul h1 h2
theorem Md.le {n m : Nat} {r : Rat} (h : Md n r) (e : n ≤ m) : Md m r := ⟨Nat.le_trans h.1 (Nat.pow_le_pow_right (by decide) e), Nat.le_trans h.2 (Nat.pow_le_pow_right (by decide) e)⟩
theorem Md.neg {n : Nat} {r : Rat} (h : Md n r) : Md n (-r) := by
  constructor
  · rw [Rat.neg_num, Int.natAbs_neg]
    exact h.1
  · rw [Rat.neg_den]
    exact h.2
theorem divInt_num_le {p q : Int} (hq : 0 < q) : (Rat.divInt p q).num.natAbs ≤ p.natAbs := by
  rw [← fr_num hq, Int.natAbs_ediv_of_dvd]
  · exact Nat.div_le_self _ _
  · exact Int.ofNat_dvd_left.mpr (Nat.gcd_dvd_left _ _)
theorem divInt_den_le {p q : Int} (hq : 0 < q) : (Rat.divInt p q).den ≤ q.natAbs := by
  have h := fr_den (p := p) hq
  have h2 : ((Rat.divInt p q).den : Int) ≤ q := by
    rw [← h]
    exact Int.ediv_le_self _ (by omega)
  omega
theorem Md.divInt {p q : Int} {n : Nat} (hq : 0 < q) (h1 : p.natAbs ≤ 2 ^ n) (h2 : q.natAbs ≤ 2 ^ n) : Md n (Rat.divInt p q) := ⟨Nat.le_trans (divInt_num_le hq) h1, Nat.le_trans (divInt_den_le hq) h2⟩
theorem add_eq (a b : Rat) : a + b = Rat.divInt (a.num * b.den + b.num * a.den) (a.den * b.den) := by
  have h1 := Rat.num_divInt_den a
  have h2 := Rat.num_divInt_den b
  have e := Rat.divInt_add_divInt a.num b.num (d₁ := a.den) (d₂ := b.den) (by have := den_pos a; omega) (by have := den_pos b; omega)
  rw [h1, h2] at e
  exact e
theorem mul_eq (a b : Rat) : a * b = Rat.divInt (a.num * b.num) (a.den * b.den) := by
  have h1 := Rat.num_divInt_den a
  have h2 := Rat.num_divInt_den b
  have e := Rat.divInt_mul_divInt a.num b.num (d₁ := a.den) (d₂ := b.den)
  rw [h1, h2] at e
  exact e
theorem sub_eq (a b : Rat) : a - b = Rat.divInt (a.num * b.den - b.num * a.den) (a.den * b.den) := by
  have h := add_eq a (-b)
  rw [Rat.neg_num, Rat.neg_den] at h
  have e : a - b = a + -b := by grind
  rw [e, h, Int.neg_mul, Int.sub_eq_add_neg]
theorem raw_le {a b : Rat} {n m : Nat} (ha : Md n a) (hb : Md m b) : (a.num * b.den).natAbs ≤ 2 ^ (n + m) ∧ (b.num * a.den).natAbs ≤ 2 ^ (n + m) ∧ ((a.den : Int) * b.den).natAbs ≤ 2 ^ (n + m) := by
  refine ⟨?_, ?_, ?_⟩
  · rw [Int.natAbs_mul]; exact mul_le2 ha.1 hb.2
  · rw [Int.natAbs_mul, Nat.add_comm]; exact mul_le2 hb.1 ha.2
  · rw [Int.natAbs_mul]; exact mul_le2 ha.2 hb.2
theorem den_mul_pos (a b : Rat) : (0 : Int) < (a.den : Int) * (b.den : Int) := Int.mul_pos (by have := den_pos a; omega) (by have := den_pos b; omega)
theorem Md.add {a b : Rat} {n m : Nat} (ha : Md n a) (hb : Md m b) : Md (n + m + 1) (a + b) := by
  obtain ⟨h1, h2, h3⟩ := raw_le ha hb
  rw [add_eq]
  refine Md.divInt (den_mul_pos a b) ?_ ?_
  · have := Int.natAbs_add_le (a.num * b.den) (b.num * a.den)
    rw [Nat.pow_succ]
    omega
  · rw [Nat.pow_succ]
    omega
theorem Md.sub {a b : Rat} {n m : Nat} (ha : Md n a) (hb : Md m b) : Md (n + m + 1) (a - b) := by
  have e : a - b = a + -b := by grind
  rw [e]
  exact ha.add hb.neg
theorem Md.mul {a b : Rat} {n m : Nat} (ha : Md n a) (hb : Md m b) : Md (n + m) (a * b) := by
  rw [mul_eq]
  refine Md.divInt (den_mul_pos a b) ?_ ?_
  · rw [Int.natAbs_mul]; exact mul_le2 ha.1 hb.1
  · rw [Int.natAbs_mul]; exact mul_le2 ha.2 hb.2
theorem Md.ok1 {a b : Rat} {n m : Nat} (ha : Md n a) (hb : Md m b) (h : n + m ≤ 900000) : okMul a.num b.den = true := okMul_of (a := n) (b := m) ha.1 hb.2 (by omega)
theorem Md.ok2 {a b : Rat} {n m : Nat} (ha : Md n a) (hb : Md m b) (h : n + m ≤ 900000) : okMul a.den b.den = true := okMul_of (a := n) (b := m) ha.2 hb.2 (by omega)
theorem Md.ok3 {a b : Rat} {n m : Nat} (ha : Md n a) (hb : Md m b) (h : n + m ≤ 900000) : okMul a.num b.num = true := okMul_of (a := n) (b := m) ha.1 hb.1 (by omega)
theorem Md.int {i : Int} {n : Nat} (h : i.natAbs ≤ 2 ^ n) : Md n ((i : Int) : Rat) := by
  constructor
  · rw [Rat.num_intCast]; exact h
  · rw [Rat.den_intCast]; exact Nat.one_le_two_pow
theorem Md.zero : Md 0 0 := by constructor <;> simp

/-! ### the defs -/
theorem plus_eq {a b : Rat} {n m : Nat} (ha : Md n a) (hb : Md m b) (h : n + m ≤ 8900) : F_plus [.own (.imm (frP a)), .own (.imm (frP b))] = .ok (.imm (frP (a + b))) [.no, .no] := by
  obtain ⟨h1, h2, h3⟩ := raw_le ha hb
  have e := fraction_eq (p := a.num * b.den + b.num * a.den) (Int.ne_of_gt (den_mul_pos a b)) h3 (by omega)
  rw [← add_eq] at e
  refine R.eq_of_sat ?_
  unfold F_plus m_plus
  rw [sat_runF]
  simp [ha.ok1 hb (by omega), hb.ok1 ha (by omega), ha.ok2 hb (by omega), e]
theorem cmp_lt {a b : Rat} : a.num * b.den < b.num * a.den ↔ a < b := (Rat.lt_iff a b).symm
def cmp (a b : Rat) : Int := if a < b then -1 else if b < a then 1 else 0
theorem compare_eq {a b : Rat} {n m : Nat} (ha : Md n a) (hb : Md m b) (h : n + m ≤ 900000) : F_compare [.own (.imm (frP a)), .own (.imm (frP b))] = .ok (.imm (.int (cmp a b))) [.no, .no] := by
  refine R.eq_of_sat ?_
  unfold F_compare m_compare
  rw [sat_runF]
  simp [ha.ok1 hb (by omega), hb.ok1 ha (by omega), cmp_lt]
  unfold cmp
  refine ⟨fun h => by rw [if_pos h], fun h => ⟨fun h2 => by rw [if_neg h, if_pos h2], fun h2 => by rw [if_neg h, if_neg h2]⟩⟩
theorem cmp_neg {a b : Rat} : cmp a b < 0 ↔ a < b := by
  unfold cmp
  by_cases h : a < b
  · simp [h]
  · by_cases h2 : b < a <;> simp [h, h2]
theorem cmp_pos {a b : Rat} : 0 < cmp a b ↔ b < a := by
  unfold cmp
  by_cases h : a < b
  · have : ¬ b < a := by grind
    simp [h, this]
  · by_cases h2 : b < a <;> simp [h, h2]
def rmin (a b : Rat) : Rat := if b < a then b else a
def rmax (a b : Rat) : Rat := if a < b then b else a
theorem lesser_eq {a b : Rat} {n m : Nat} (ha : Md n a) (hb : Md m b) (h : n + m ≤ 900000) : F_lesser [.own (.imm (frP a)), .own (.imm (frP b))] = .ok (.imm (frP (rmin a b))) [.no, .no] := by
  refine R.eq_of_sat ?_
  unfold F_lesser m_lesser
  rw [sat_runF]
  simp [compare_eq hb ha (by omega), cmp_neg]
  unfold rmin
  exact ⟨fun h => by rw [if_pos h], fun h => by rw [if_neg h]⟩
theorem greater_eq {a b : Rat} {n m : Nat} (ha : Md n a) (hb : Md m b) (h : n + m ≤ 900000) : F_greater [.own (.imm (frP a)), .own (.imm (frP b))] = .ok (.imm (frP (rmax a b))) [.no, .no] := by
  refine R.eq_of_sat ?_
  unfold F_greater m_greater
  rw [sat_runF]
  simp [compare_eq hb ha (by omega), cmp_pos]
  unfold rmax
  exact ⟨fun h => by rw [if_pos h], fun h => by rw [if_neg h]⟩
theorem Md.min {n : Nat} {a b : Rat} (ha : Md n a) (hb : Md n b) : Md n (rmin a b) := by
  unfold rmin
  split
  · exact hb
  · exact ha
theorem Md.max {n : Nat} {a b : Rat} (ha : Md n a) (hb : Md n b) : Md n (rmax a b) := by
  unfold rmax
  split
  · exact hb
  · exact ha
/-- what meet tells -/
def optR : Option (Rat × Rat) → P
  | none => .non
  | some r => .tup [frP r.1, frP r.2]
def meetR (x y : Rat × Rat) : Option (Rat × Rat) := if rmin x.2 y.2 < rmax x.1 y.1 then none else some (rmax x.1 y.1, rmin x.2 y.2)
theorem meet_eq {x y : Rat × Rat} {n : Nat} (h1 : Md n x.1) (h2 : Md n x.2) (h3 : Md n y.1) (h4 : Md n y.2) (h : n ≤ 400000) : F_meet [.own (.imm (.tup [frP x.1, frP x.2])), .own (.imm (.tup [frP y.1, frP y.2]))] = .ok (.imm (optR (meetR x y))) [.no, .no] := by
  refine R.eq_of_sat ?_
  unfold F_meet m_meet
  rw [sat_runF]
  simp [greater_eq h1 h3 (by omega), lesser_eq h2 h4 (by omega), compare_eq (h1.max h3) (h2.min h4) (by omega), cmp_pos]
  unfold meetR
  refine ⟨fun h => by rw [if_pos h]; rfl, fun h => ?_⟩
  rw [if_neg (by grind)]
  rfl
/-- sums -/
def fs (rs : List Rat) : Rat := rs.foldl (· + ·) 0
theorem fs_nil : fs [] = 0 := rfl
theorem fs_snoc (rs : List Rat) (r : Rat) : fs (rs ++ [r]) = fs rs + r := by unfold fs; simp
theorem fold_add (l : List Rat) : ∀ x : Rat, l.foldl (· + ·) x = x + l.foldl (· + ·) 0 := by
  induction l with
  | nil => intro x; simp [Rat.add_zero]
  | cons a l ih =>
    intro x
    rw [List.foldl_cons, List.foldl_cons, ih (x + a), ih (0 + a)]
    grind
theorem fs_cons (a : Rat) (l : List Rat) : fs (a :: l) = a + fs l := by
  unfold fs
  rw [List.foldl_cons, fold_add]
  grind
theorem fs_append (a b : List Rat) : fs (a ++ b) = fs a + fs b := by
  induction a with
  | nil => rw [fs_nil, List.nil_append]; grind
  | cons x a ih => rw [List.cons_append, fs_cons, fs_cons, ih]; grind
theorem fs_rev (a : List Rat) : fs a.reverse = fs a := by
  induction a with
  | nil => rfl
  | cons x a ih => rw [List.reverse_cons, fs_snoc, fs_cons, ih]; grind
theorem Md.sum {n : Nat} : ∀ {rs : List Rat}, (∀ r ∈ rs, Md n r) → Md ((n + 1) * rs.length) (fs rs)
  | [], _ => by
    rw [fs_nil]
    exact Md.zero
  | r :: rs, h => by
    have h1 := h r List.mem_cons_self
    have h2 := Md.sum (rs := rs) fun q hq => h q (List.mem_cons_of_mem _ hq)
    rw [fs_cons, List.length_cons]
    refine (h1.add h2).le ?_
    rw [Nat.mul_add]
    omega
theorem map_frP_inj : ∀ {l1 l2 : List Rat}, l1.map frP = l2.map frP → l1 = l2
  | [], [], _ => rfl
  | [], _ :: _, h => by cases h
  | _ :: _, [], h => by cases h
  | a :: l1, b :: l2, h => by
    simp only [List.map_cons, List.cons.injEq] at h
    rw [frP_inj h.1, map_frP_inj h.2]
theorem mem_split {rs : List Rat} {done : List P} {p : P} {rest : List P} (e : done ++ p :: rest = rs.map frP) : ∃ (ds : List Rat) (r : Rat) (qs : List Rat), done = ds.map frP ∧ p = frP r ∧ rest = qs.map frP ∧ rs = ds ++ r :: qs := by
  obtain ⟨ds, q, e1, e2, e3⟩ := List.map_eq_append_iff.mp e.symm
  obtain ⟨r, qs, e4, e5, e6⟩ := List.map_eq_cons_iff.mp e3
  exact ⟨ds, r, qs, e2.symm, e5.symm, e6.symm, by rw [e1, e4]⟩
/-- sizes that a sum may have on its way -/
def SumOk (rs : List Rat) : Prop := ∀ ds r qs, rs = ds ++ r :: qs → ∃ a b, Md a (fs ds) ∧ Md b r ∧ a + b ≤ 8900
theorem SumOk.of {n : Nat} {rs : List Rat} (hs : ∀ r ∈ rs, Md n r) (hl : (n + 1) * rs.length + n ≤ 8900) : SumOk rs := fun ds r qs e => by
  have hle : (n + 1) * ds.length ≤ (n + 1) * rs.length := Nat.mul_le_mul_left _ (by rw [e]; simp)
  exact ⟨_, n, Md.sum fun q hq => hs q (by rw [e]; simp [hq]), hs r (by rw [e]; simp), by omega⟩
theorem SumOk.head {n m : Nat} {x : Rat} {rs : List Rat} (hx : Md m x) (hs : ∀ r ∈ rs, Md n r) (hl : (n + 1) * rs.length + n + m ≤ 8900) : SumOk (x :: rs) := fun ds r qs e => by
  cases ds with
  | nil =>
    cases e
    exact ⟨0, m, Md.zero, hx, by omega⟩
  | cons y ds =>
    rw [List.cons_append] at e
    obtain ⟨rfl, rfl⟩ := List.cons.inj e
    have hle : (n + 1) * ds.length ≤ (n + 1) * (ds ++ r :: qs).length := Nat.mul_le_mul_left _ (by simp)
    have hm : Md ((n + 1) * ds.length) (fs ds) := Md.sum fun q hq => hs q (by simp [hq])
    rw [fs_cons]
    cases ds with
    | nil => exact ⟨m, n, by rw [fs_nil]; have e : x + 0 = x := by grind
                             rw [e]; exact hx, hs r (by simp), by omega⟩
    | cons z ds =>
      refine ⟨_, n, hx.add hm, hs r (by simp), ?_⟩
      have : (n + 1) * (z :: ds).length + (n + 1) ≤ (n + 1) * (z :: ds ++ r :: qs).length := by
        rw [← Nat.mul_succ]
        exact Nat.mul_le_mul_left _ (by simp)
      omega
theorem total_loop {rs : List Rat} {s0 : Slot} {N : En} (hs : SumOk rs) (hN : ∀ s2, N.nx [s0, .own (.imm (frP (fs rs))), s2]) :
    (forL (.nm 2) (sAsg (.nm 1) (eCall [some (1, false), some (2, false)] F_plus (lLent 1 (lLent 2 lNil)))) (rs.map frP) [s0, .own (.imm k_ZERO), .no]).sat N := by
  refine sat_list (fun done ρ => ∃ (ds : List Rat) (s2 : Slot), done = ds.map frP ∧ frees (some s2) = true ∧ ρ = [s0, .own (.imm (frP (fs ds))), s2])
    ⟨[], .no, rfl, rfl, by simp [frP, fs, k_ZERO]⟩ (fun done p rest ρ e h => ?_) (fun ρ h => ?_)
  · obtain ⟨ds, s2, e1, e2, e3⟩ := h
    subst e3
    obtain ⟨ds', r, qs, e4, e5, e6, e7⟩ := mem_split e
    rw [e1] at e4
    have := map_frP_inj e4
    subst this e5 e1
    obtain ⟨a, b, hm, hr, hab⟩ := hs ds r qs e7
    simp [e2, plus_eq hm hr (by omega)]
    exact ⟨ds ++ [r], by simp, by rw [fs_snoc]⟩
  · obtain ⟨ds, s2, e1, e2, e3⟩ := h
    have := map_frP_inj e1
    subst this e3
    exact hN s2
theorem total_eqS {rs : List Rat} (hs : SumOk rs) : F_total [.own (.lst (rs.map (D.imm ∘ frP)))] = .ok (.imm (frP (fs rs))) [.no] := by
  refine R.eq_of_sat ?_
  unfold F_total m_total
  rw [sat_runF]
  simp
  exact total_loop hs fun s2 => by simp
theorem total_eq {n : Nat} {rs : List Rat} (hs : ∀ r ∈ rs, Md n r) (hl : (n + 1) * rs.length + n ≤ 8900) : F_total [.own (.lst (rs.map (D.imm ∘ frP)))] = .ok (.imm (frP (fs rs))) [.no] := total_eqS (SumOk.of hs hl)
theorem total_eqT {n : Nat} {rs : List Rat} (hs : ∀ r ∈ rs, Md n r) (hl : (n + 1) * rs.length + n ≤ 8900) : F_total [.own (.imm (.tup (rs.map frP)))] = .ok (.imm (frP (fs rs))) [.no] := by
  refine R.eq_of_sat ?_
  unfold F_total m_total
  rw [sat_runF]
  simp
  exact total_loop (SumOk.of hs hl) fun s2 => by simp
end Lb

set_option Elab.async false
set_option linter.all false
set_option maxRecDepth 100000
set_option maxHeartbeats 1000000
/-! Lq2: common, floor, ceiling, the laws' own gcd and lowest. -/
namespace Lb
open PySem L2 MV
@[simp] theorem cLcm_i {i j : Int} : cLcm [.imm (.int i), .imm (.int j)] = if okLcm i j = true then some (.imm (.int ((Nat.lcm i.natAbs j.natAbs : Nat) : Int))) else none := (rfl)
theorem okLcm_of {a b n : Nat} (ha : a ≤ 2 ^ n) (hb : b ≤ 2 ^ n) (h : n < 6000) : okLcm (a : Int) (b : Int) = true := by
  have : 2 ^ n < 2 ^ 6000 := Nat.pow_lt_pow_right (by decide) h
  unfold okLcm
  simp only [Int.natAbs_natCast]
  rw [decide_eq_true (by omega), decide_eq_true (by omega)]
  rfl
def lcs (rs : List Rat) : Nat := rs.foldl (fun l r => Nat.lcm l r.den) 1
theorem lcs_nil : lcs [] = 1 := rfl
theorem lcs_snoc (rs : List Rat) (r : Rat) : lcs (rs ++ [r]) = Nat.lcm (lcs rs) r.den := by unfold lcs; simp
theorem lcs_fold (l : List Rat) : ∀ x : Nat, l.foldl (fun l r => Nat.lcm l r.den) x = Nat.lcm x (lcs l) := by
  induction l with
  | nil => intro x; simp [lcs_nil]
  | cons a l ih =>
    intro x
    unfold lcs
    rw [List.foldl_cons, List.foldl_cons, ih, ih, Nat.lcm_assoc, Nat.lcm_one_left]
theorem lcs_cons (a : Rat) (l : List Rat) : lcs (a :: l) = Nat.lcm a.den (lcs l) := by
  conv => lhs; unfold lcs
  rw [List.foldl_cons, lcs_fold, Nat.lcm_one_left]
theorem lcs_append (a b : List Rat) : lcs (a ++ b) = Nat.lcm (lcs a) (lcs b) := by
  unfold lcs
  rw [List.foldl_append, lcs_fold]
  rfl
theorem lcs_rev (a : List Rat) : lcs a.reverse = lcs a := by
  induction a with
  | nil => rfl
  | cons x a ih => rw [List.reverse_cons, lcs_snoc, lcs_cons, ih, Nat.lcm_comm]
theorem lcs_pos : ∀ l : List Rat, 0 < lcs l
  | [] => by decide
  | a :: l => by rw [lcs_cons]; exact Nat.lcm_pos (den_pos a) (lcs_pos l)
theorem lcs_le {n : Nat} : ∀ {rs : List Rat}, (∀ r ∈ rs, Md n r) → lcs rs ≤ 2 ^ (n * rs.length)
  | [], _ => by simp [lcs_nil]
  | r :: rs, h => by
    have h1 := (h r List.mem_cons_self).2
    have h2 := lcs_le (rs := rs) fun q hq => h q (List.mem_cons_of_mem _ hq)
    rw [lcs_cons, List.length_cons, Nat.mul_add, Nat.mul_one, Nat.add_comm]
    refine Nat.le_trans ?_ (mul_le2 h1 h2)
    exact Nat.le_of_dvd (Nat.mul_pos (den_pos r) (lcs_pos rs)) (Nat.lcm_dvd_mul _ _)
theorem common_loop {n : Nat} {rs : List Rat} {s0 : Slot} {N : En} (hs : ∀ r ∈ rs, Md n r) (hl : n * rs.length + n ≤ 5900) (hN : ∀ s2, N.nx [s0, .own (.imm (.int (lcs rs))), s2]) :
    (forL (.nm 2) (sAsg (.nm 1) (eB cLcm (vCons true (eN 1) (vCons true (eGtN 2 (eC (.int 1))) aNil)))) (rs.map frP) [s0, .own (.imm (.int 1)), .no]).sat N := by
  refine sat_list (fun done ρ => ∃ (ds : List Rat) (s2 : Slot), done = ds.map frP ∧ frees (some s2) = true ∧ ρ = [s0, .own (.imm (.int (lcs ds))), s2])
    ⟨[], .no, rfl, rfl, by simp [lcs_nil]⟩ (fun done p rest ρ e h => ?_) (fun ρ h => ?_)
  · obtain ⟨ds, s2, e1, e2, e3⟩ := h
    subst e3
    obtain ⟨ds', r, qs, e4, e5, e6, e7⟩ := mem_split e
    rw [e1] at e4
    have := map_frP_inj e4
    subst this e5 e1
    have hm := lcs_le (n := n) (rs := ds) fun q hq => hs q (by rw [e7]; simp [hq])
    have hr : Md n r := hs r (by rw [e7]; simp)
    have hle : n * ds.length ≤ n * rs.length := Nat.mul_le_mul_left _ (by rw [e7]; simp)
    have ho : okLcm (lcs ds : Int) (r.den : Int) = true := okLcm_of (n := n * ds.length + n) (Nat.le_trans hm (Nat.pow_le_pow_right (by decide) (by omega))) (Nat.le_trans hr.2 (Nat.pow_le_pow_right (by decide) (by omega))) (by omega)
    simp [e2, ho]
    exact ⟨ds ++ [r], by simp, by rw [lcs_snoc]⟩
  · obtain ⟨ds, s2, e1, e2, e3⟩ := h
    have := map_frP_inj e1
    subst this e3
    exact hN s2
theorem common_eq {n : Nat} {rs : List Rat} (hs : ∀ r ∈ rs, Md n r) (hl : n * rs.length + n ≤ 5900) : F_common [.own (.lst (rs.map (D.imm ∘ frP)))] = .ok (.imm (.int (lcs rs))) [.no] := by
  refine R.eq_of_sat ?_
  unfold F_common m_common
  rw [sat_runF]
  simp
  exact common_loop hs hl fun s2 => by simp
theorem common_eqT {n : Nat} {rs : List Rat} (hs : ∀ r ∈ rs, Md n r) (hl : n * rs.length + n ≤ 5900) : F_common [.own (.imm (.tup (rs.map frP)))] = .ok (.imm (.int (lcs rs))) [.no] := by
  refine R.eq_of_sat ?_
  unfold F_common m_common
  rw [sat_runF]
  simp
  exact common_loop hs hl fun s2 => by simp
theorem floor_eq {a : Rat} {n : Nat} (h : Md n a) (hn : n < 8999) : F_floor_of [.own (.imm (frP a))] = .ok (.imm (.int (a.num / (a.den : Int)))) [.no] := by
  refine R.eq_of_sat ?_
  unfold F_floor_of m_floor_of
  rw [sat_runF]
  simp [okDiv_of (den_pos a) h.2 hn]
theorem ceil_num (a : Rat) : -(-a.num / (a.den : Int)) = if 1 < a.den then a.num / (a.den : Int) + 1 else a.num / (a.den : Int) := by
  have p := den_pos a
  by_cases h : 1 < a.den
  · rw [if_pos h]
    have h1 := Int.emod_add_mul_ediv a.num a.den
    have h2 := Int.emod_nonneg a.num (show (a.den : Int) ≠ 0 by omega)
    have h3 := Int.emod_lt_of_pos a.num (show (0 : Int) < a.den by omega)
    have h4 : a.num % (a.den : Int) ≠ 0 := by
      intro z
      have d : (a.den : Int) ∣ a.num := Int.dvd_of_emod_eq_zero z
      have d2 : a.den ∣ a.num.natAbs := Int.ofNat_dvd_left.mp d
      have g := Nat.gcd_eq_right d2
      rw [a.reduced] at g
      omega
    have u := (Int.ediv_emod_unique (a := -a.num) (b := a.den) (r := a.den - a.num % (a.den : Int)) (q := -(a.num / (a.den : Int)) - 1) (by omega)).mpr ⟨by
      rw [Int.mul_sub, Int.mul_neg, Int.mul_one]
      omega, by omega, by omega⟩
    omega
  · rw [if_neg h]
    have : a.den = 1 := by omega
    rw [this]
    simp
theorem ceil_eq {a : Rat} {n : Nat} (h : Md n a) (hn : n < 8999) : F_ceiling_of [.own (.imm (frP a))] = .ok (.imm (.int (if 1 < a.den then a.num / (a.den : Int) + 1 else a.num / (a.den : Int)))) [.no] := by
  refine R.eq_of_sat ?_
  unfold F_ceiling_of m_ceiling_of
  rw [sat_runF]
  simp [okDiv_of (den_pos a) h.2 hn, ceil_num]

/-! ### the laws' gcd: Euclid in at most 4000 steps -/
theorem gcd_eq {p q : Int} {x y : Nat} (hx : p.natAbs ≤ 2 ^ x) (hy : q.natAbs ≤ 2 ^ y) (h : x + y ≤ 3900) : F__law_gcd [.own (.imm (.int p)), .own (.imm (.int q))] = .ok (.imm (.int (Nat.gcd p.natAbs q.natAbs : Nat))) [.no, .no] := by
  refine R.eq_of_sat ?_
  unfold F__law_gcd m__law_gcd
  rw [sat_runF]
  simp
  refine ⟨lim62_of (by omega) (by omega), ?_⟩
  generalize hG : Nat.gcd p.natAbs q.natAbs = G
  refine sat_rng (fun k ρ => ∃ (a b : Nat) (s2 : Slot), frees (some s2) = true ∧ Nat.gcd a b = G ∧ (k = 0 → a * b ≤ 2 ^ (x + y)) ∧ (1 ≤ k → b ≤ a ∧ a * b * 2 ^ (k - 1) ≤ 2 ^ (x + y)) ∧ ρ = [.own (.imm (.int a)), .own (.imm (.int b)), s2])
    ⟨p.natAbs, q.natAbs, .no, rfl, hG, fun _ => mul_le2 hx hy, fun h => by omega, ?_⟩ (fun k ρ hk h => ?_) (fun ρ h => ?_)
  · have e1 : (if p < 0 then -p else p) = (p.natAbs : Int) := by omega
    have e2 : (if q < 0 then -q else q) = (q.natAbs : Int) := by omega
    rw [e1, e2]
  · obtain ⟨a, b, s2, h2, hg, z0, z1, e⟩ := h
    subst e
    refine ⟨by simpa using h2, ?_⟩
    simp
    refine ⟨fun hb => ?_, fun hb => ?_⟩
    · subst hb
      rw [Nat.gcd_zero_right] at hg
      subst hg
      simp
    · have hb' : 0 < b := by omega
      simp [hb']
      refine ⟨b, a % b, .own (.imm (.int k)), rfl, ?_, ⟨?_, ?_⟩, rfl, by omega, rfl⟩
      · rw [← hg, Nat.gcd_comm a b, Nat.gcd_rec b a, Nat.gcd_comm]
      · have := Nat.mod_lt a (show 0 < b by omega)
        omega
      · cases k with
        | zero =>
          rw [Nat.pow_zero, Nat.mul_one]
          have h1 : b * (a % b) ≤ b * a := Nat.mul_le_mul_left _ (Nat.mod_le _ _)
          have h2 := z0 rfl
          rw [Nat.mul_comm a b] at h2
          omega
        | succ k =>
          obtain ⟨h1, h2⟩ := z1 (by omega)
          have e : k + 1 - 1 = k := by omega
          rw [e] at h2
          have h3 : 2 * (a % b) ≤ a := by
            have m1 := Nat.mod_lt a (show 0 < b by omega)
            have m2 := Nat.div_add_mod a b
            have m3 : 1 ≤ a / b := (Nat.one_le_div_iff (by omega)).mpr h1
            have m4 : b * 1 ≤ b * (a / b) := Nat.mul_le_mul_left _ m3
            omega
          refine Nat.le_trans ?_ h2
          rw [Nat.pow_succ]
          have h4 : b * (a % b) * (2 ^ k * 2) = b * (2 * (a % b)) * 2 ^ k := by
            rw [← Nat.mul_assoc, Nat.mul_right_comm, Nat.mul_assoc b, Nat.mul_comm (a % b) 2]
          rw [h4, Nat.mul_comm a b]
          exact Nat.mul_le_mul_right _ (Nat.mul_le_mul_left _ h3)
  · obtain ⟨a, b, s2, h2, hg, z0, z1, e⟩ := h
    subst e
    obtain ⟨h1, h2⟩ := z1 (by decide)
    have hb : b = 0 := by
      rcases Nat.eq_zero_or_pos b with h0 | h0
      · exact h0
      · exfalso
        have h3 : 1 ≤ a * b := Nat.mul_pos (by omega) h0
        have h4 : 1 * 2 ^ (4000 - 1) ≤ a * b * 2 ^ (4000 - 1) := Nat.mul_le_mul_right _ h3
        have h5 : 2 ^ (x + y) < 2 ^ (4000 - 1) := Nat.pow_lt_pow_right (by decide) (by omega)
        have h6 := Nat.le_trans h4 h2
        rw [Nat.one_mul] at h6
        exact Nat.lt_irrefl _ (Nat.lt_of_lt_of_le h5 h6)
    subst hb
    rw [Nat.gcd_zero_right] at hg
    subst hg
    simp
theorem lowest_eq {p q : Int} {x y : Nat} (hq : 0 < q) (hx : p.natAbs ≤ 2 ^ x) (hy : q.natAbs ≤ 2 ^ y) (h : x + y ≤ 3900) : F__law_lowest [.own (.imm (.int p)), .own (.imm (.int q))] = .ok (.imm (frP (Rat.divInt p q))) [.no, .no] := by
  have od := okDiv_of (gcd_pos (p := p) (q := q) (by omega)) (Nat.le_trans (Nat.gcd_le_right _ (by omega)) hy) (by omega)
  refine R.eq_of_sat ?_
  unfold F__law_lowest m__law_lowest
  rw [sat_runF]
  simp [gcd_eq hx hy h, od]
  rw [fr_num hq, fr_den hq]; rfl
end Lb

set_option Elab.async false
set_option linter.all false
set_option maxRecDepth 100000
set_option maxHeartbeats 1000000
/-! Lq3: the laws' sameness. -/
namespace Lb
open PySem L2 MV
/-- data that is compared -/
def okS : Nat → P → Bool
  | 0, _ => false
  | _ + 1, .non => true
  | _ + 1, .bl _ => true
  | _ + 1, .int _ => true
  | _ + 1, .str _ => true
  | n + 1, .tup ps => decide (ps.length ≤ 100000) && ps.all (okS n)
  | _, _ => false
@[simp] theorem fEq_b {i j : Bool} : fEq (.imm (.bl i)) (.imm (.bl j)) = some (.imm (.bl (decide (i = j)))) := (rfl)
@[simp] theorem fNe_b {i j : Bool} : fNe (.imm (.bl i)) (.imm (.bl j)) = some (.imm (.bl (!decide (i = j)))) := (rfl)
@[simp] theorem fEq_s {i j : Str} : fEq (.imm (.str i)) (.imm (.str j)) = some (.imm (.bl (decide (i = j)))) := (rfl)
@[simp] theorem fNe_s {i j : Str} : fNe (.imm (.str i)) (.imm (.str j)) = some (.imm (.bl (!decide (i = j)))) := (rfl)
theorem lim62_len {n : Nat} (h : n ≤ 100000) : lim62 (n : Int) = true := lim62_of (by omega) (by omega)
theorem same_eq (n : Nat) : ∀ (p : P), okS n p = true → F__law_same n [.own (.imm p), .own (.imm p)] = .ok (.imm (.bl true)) [.no, .no] := by
  induction n with
  | zero => intro p h; simp [okS] at h
  | succ n ih =>
    intro p h
    refine R.eq_of_sat ?_
    unfold F__law_same m__law_same
    rw [sat_runF]
    cases p with
    | non => simp
    | bl b => simp
    | int i => simp [F__law_is_whole, m__law_is_whole, sat_runF]
    | str i => simp
    | tup ps =>
      have hz : ps.length ≤ 100000 ∧ ∀ p ∈ ps, okS n p = true := by simpa [okS] using h
      simp
      refine ⟨lim62_len hz.1, ?_⟩
      refine sat_rng (fun j ρ => ∃ s3, frees (some s3) = true ∧ ρ = [.own (.imm (.tup ps)), .own (.imm (.tup ps)), s3]) ⟨.no, rfl, rfl⟩ (fun j ρ hj h => ?_) (fun ρ h => ?_)
      · obtain ⟨s3, h3, e⟩ := h
        subst e
        refine ⟨by simpa using h3, ?_⟩
        obtain ⟨p, e1, e2⟩ := atI_some (xs := ps) (i := (j : Int)) (by omega) (by omega)
        simp [e1, ih p (hz.2 p (List.mem_of_getElem? e2))]
      · obtain ⟨s3, h3, e⟩ := h
        subst e
        simp
    | lst => simp [okS] at h
    | dct => simp [okS] at h
theorem atI_map {α β : Type} {f : α → β} {l : List α} {i : Int} : atI (l.map f) i = (atI l i).map f := by
  unfold atI
  rw [List.length_map]
  cases ixN l.length i <;> simp
/-- two lists that are looked at -/
theorem same_eqL {n : Nat} {ps : List P} (hl : ps.length ≤ 100000) (h : ∀ p ∈ ps, okS n p = true) : F__law_same (n + 1) [.ro (.lst (ps.map .imm)), .ro (.lst (ps.map .imm))] = .ok (.imm (.bl true)) [.no, .no] := by
  refine R.eq_of_sat ?_
  unfold F__law_same m__law_same
  rw [sat_runF]
  simp
  refine ⟨lim62_len hl, ?_⟩
  refine sat_rng (fun j ρ => ∃ s3, frees (some s3) = true ∧ ρ = [.ro (.lst (ps.map .imm)), .ro (.lst (ps.map .imm)), s3]) ⟨.no, rfl, rfl⟩ (fun j ρ hj h => ?_) (fun ρ h => ?_)
  · obtain ⟨s3, h3, e⟩ := h
    subst e
    refine ⟨by simpa using h3, ?_⟩
    obtain ⟨p, e1, e2⟩ := atI_some (xs := ps) (i := (j : Int)) (by omega) (by omega)
    simp [atI_map, e1, same_eq n p (h p (List.mem_of_getElem? e2))]
  · obtain ⟨s3, h3, e⟩ := h
    subst e
    simp
theorem okS_fr {n : Nat} {r : Rat} : okS (n + 2) (frP r) = true := by simp [okS, frP]
theorem okS_int {n : Nat} {r : Int} : okS (n + 1) (.int r) = true := rfl
theorem okS_opt {n : Nat} {r : Option (Rat × Rat)} : okS (n + 3) (optR r) = true := by cases r <;> simp [okS, optR, frP]
/-! slices -/
@[simp] theorem cutD_comp {α : Type} {f : α → P} {l : List α} {lo hi : Option Int} : cutD (.lst (l.map (D.imm ∘ f))) lo hi = some (.lst ((cutP l lo hi).map (D.imm ∘ f))) := by
  unfold cutD
  simp only [seqL, allImm_comp, Option.map_some, cutP_map, List.map_map]
@[simp] theorem cutP_tail {α : Type} {a : α} {l : List α} : cutP (a :: l) (some 1) none = l := by
  unfold cutP HT.sIx
  simp
@[simp] theorem cutD_cons1 {α : Type} {f : α → P} {p : P} {l : List α} : cutD (.lst (.imm p :: l.map (D.imm ∘ f))) (some 1) none = some (.lst (l.map (D.imm ∘ f))) := by
  unfold cutD
  simp only [seqL, allImm_cons, allImm_comp, Option.map_some, cutP_tail, List.map_map]
theorem cutP_pre {α : Type} {l : List α} {n : Nat} (h : n ≤ l.length) : cutP l none (some (n : Int)) = l.take n := by
  unfold cutP HT.sIx
  simp
  rw [if_neg (by omega)]
  have : min n l.length = n := by omega
  simp [this]
theorem cutP_post {α : Type} {l : List α} {n : Nat} (h : n ≤ l.length) : cutP l (some (n : Int)) none = l.drop n := by
  unfold cutP HT.sIx
  simp
  rw [if_neg (by omega)]
  have : min n l.length = n := by omega
  rw [this]
  simp [List.take_of_length_le]
@[simp] theorem fRev_comp {α : Type} {f : α → P} {l : List α} : fRev (.lst (l.map (D.imm ∘ f))) = some (.lst (l.reverse.map (D.imm ∘ f))) := by
  unfold fRev
  simp [seqL, List.map_reverse]
@[simp] theorem cTuple_rev {α : Type} {f : α → P} {l : List α} : cTuple [.lst (l.map (D.imm ∘ f)).reverse] = some (.imm (.tup (l.map f).reverse)) := by
  have := cTuple_comp (f := f) (l := l.reverse)
  simpa using this
@[simp] theorem cList_rev {α : Type} {f : α → P} {l : List α} : cList [.lst (l.map (D.imm ∘ f)).reverse] = some (.lst (l.map (D.imm ∘ f)).reverse) := by
  have := cList_comp (f := f) (l := l.reverse)
  simpa using this
@[simp] theorem listD_comp {α : Type} {f : α → P} {l : List α} : listD (.lst (l.map (D.imm ∘ f))) = some (l.map f) := by unfold listD; simp
theorem fAddL_l {α : Type} {f : α → P} {a b : List α} (h : a.length + b.length ≤ 100000) : fAddL (.lst (a.map (D.imm ∘ f))) (.lst (b.map (D.imm ∘ f))) = some (.lst ((a ++ b).map (D.imm ∘ f))) := by
  unfold fAddL
  have := line_of h
  simp at this
  simp [this]
end Lb

set_option Elab.async false
set_option linter.all false
set_option maxRecDepth 100000
set_option maxHeartbeats 2000000
/-! Lg1: systems of gaps: the checks, steps, walks. -/
namespace Lb
open PySem L2 MV
/-! ### fractions again -/
theorem minus_eq {a b : Rat} {n m : Nat} (ha : Md n a) (hb : Md m b) (h : n + m ≤ 8900) : F_minus [.own (.imm (frP a)), .own (.imm (frP b))] = .ok (.imm (frP (a - b))) [.no, .no] := by
  obtain ⟨h1, h2, h3⟩ := raw_le ha hb
  have e := fraction_eq (p := a.num * b.den - b.num * a.den) (Int.ne_of_gt (den_mul_pos a b)) h3 (by omega)
  rw [← sub_eq] at e
  refine R.eq_of_sat ?_
  unfold F_minus m_minus
  rw [sat_runF]
  simp [ha.ok1 hb (by omega), hb.ok1 ha (by omega), ha.ok2 hb (by omega), e]
@[simp] theorem is_whole_i {i : Int} : F_is_whole [.own (.imm (.int i))] = .ok (.imm (.bl true)) [.no] := by
  refine R.eq_of_sat ?_
  unfold F_is_whole m_is_whole
  rw [sat_runF]
  simp
@[simp] theorem is_fraction_fr {r : Rat} : F_is_fraction [.own (.imm (frP r))] = .ok (.imm (.bl true)) [.no] := by
  have p := den_pos r
  have g : Nat.gcd r.num.natAbs r.den = 1 := r.reduced
  refine R.eq_of_sat ?_
  unfold F_is_fraction m_is_fraction
  rw [sat_runF]
  simp [frP, p, g]
@[simp] theorem frP_isi {r : Rat} : fIsi "tuple" (.imm (frP r)) = some (.imm (.bl true)) := (rfl)
@[simp] theorem frP_len {r : Rat} : cLen [.imm (frP r)] = some (.imm (.int 2)) := (rfl)
theorem okP_fr (r : Rat) : okP (frP r) := ⟨by simp [frP, plD, plDs], by simp [frP, toPy, toPys, PyData.depth, PyData.depthAll]⟩
/-! ### spans -/
structure Span where
  nm : Str
  a : Str
  b : Str
  lo : Rat
  hi : Rat
def spP (s : Span) : P := .tup [.str s.nm, .str s.a, .str s.b, frP s.lo, frP s.hi]
def ptP (pts : List Str) : P := .tup (pts.map .str)
abbrev spsP (ss : List Span) : P := .tup (ss.map spP)
abbrev Step := Int × Int
def stP (s : Step) : P := .tup [.int s.1, .int s.2]
theorem stP_inj (a b : Step) (h : stP a = stP b) : a = b := by
  simp [stP] at h
  exact Prod.ext h.1 h.2
@[simp] theorem seqV_pt {pts : List Str} {ρ : Sl} : seqV ρ (.own (.imm (ptP pts))) = some (pts.map .str, none) := (rfl)
@[simp] theorem cLen_pt {pts : List Str} : cLen [.imm (ptP pts)] = some (.imm (.int pts.length)) := by unfold ptP; simp
@[simp] theorem fIn_pt {x : Str} {ps : List Str} : fIn5 (.imm (.str x)) (.imm (ptP ps)) = some (.imm (.bl (decide (x ∈ ps)))) := fIn_strs
@[simp] theorem fNotIn_pt {x : Str} {ps : List Str} : fNotIn5 (.imm (.str x)) (.imm (ptP ps)) = some (.imm (.bl (!decide (x ∈ ps)))) := fNotIn_strs
theorem first_duplicate_eq {pts : List Str} (nd : pts.Nodup) (hl : pts.length ≤ 100000) : F_first_duplicate [.own (.imm (ptP pts))] = .ok (.imm .non) [.no] := by
  refine R.eq_of_sat ?_
  unfold F_first_duplicate m_first_duplicate
  rw [sat_runF]
  simp
  refine sat_listF (fun ds ρ => ∃ s2, frees (some s2) = true ∧ ρ = [.own (.imm (ptP pts)), .own (.dct (ds.map .str) (ds.map fun _ => .imm (.bl true))), s2]) ⟨.no, rfl, rfl⟩ (fun ds x rest ρ e h => ?_) (fun ρ h => ?_)
  · obtain ⟨s2, h2, rfl⟩ := h
    have hx : x ∉ ds := by
      rw [e] at nd
      intro z
      exact (List.nodup_append.mp nd).2.2 x z x List.mem_cons_self rfl
    have hl' : ds.length < 16777216 := by
      have := congrArg List.length e
      rw [List.length_append] at this
      omega
    unfold b_first_duplicate_1
    simp [h2, fIn_k keyE_str, hx, atomK_k keyE_str, hl', putKs_newK keyE_str hx, putD_newK keyE_str hx]
  · obtain ⟨s2, h2, rfl⟩ := h
    simp
def SysOk (pts : List Str) (ss : List Span) : Prop := pts.Nodup ∧ pts.length ≤ 60 ∧ ss.length ≤ 200 ∧ ∀ s ∈ ss, s.a ∈ pts ∧ s.b ∈ pts
theorem check_system_eq {pts : List Str} {ss : List Span} (h : SysOk pts ss) : F_check_system [.own (.imm (ptP pts)), .own (.imm (spsP ss))] = .ok (.imm .non) [.no, .no] := by
  obtain ⟨nd, hp, hs, hm⟩ := h
  have h1 : ¬ ((60 : Int) < pts.length) := by omega
  have h2 : ¬ ((200 : Int) < ss.length) := by omega
  refine R.eq_of_sat ?_
  unfold F_check_system m_check_system
  rw [sat_runF]
  simp [k_MOST_POINTS, k_MOST_SPANS, h1, h2, first_duplicate_eq nd (by omega)]
  refine sat_listF (fun ds ρ => ∃ s3 s4, frees (some s3) = true ∧ frees (some s4) = true ∧ ρ = [.own (.imm (ptP pts)), .own (.imm (spsP ss)), .own (.imm .non), s3, s4]) ⟨.no, .no, rfl, rfl, rfl⟩ (fun ds s rest ρ e h => ?_) (fun ρ h => ?_)
  · obtain ⟨s3, s4, h3, h4, rfl⟩ := h
    obtain ⟨ma, mb⟩ := hm s (by rw [e]; simp)
    unfold b_check_system_2
    simp [h3, spP]
    rw [show [P.str s.a, P.str s.b] = [s.a, s.b].map P.str from rfl]
    refine sat_listF (fun ds ρ => ∃ s4, frees (some s4) = true ∧ ρ = [.own (.imm (ptP pts)), .own (.imm (spsP ss)), .own (.imm .non), .own (.imm (spP s)), s4]) ⟨s4, h4, rfl⟩ (fun ds x rest ρ e h => ?_) (fun ρ h => ?_)
    · obtain ⟨s4, h4, rfl⟩ := h
      have hx : x ∈ pts := by
        have : x ∈ [s.a, s.b] := by rw [e]; simp
        simp at this
        rcases this with q | q <;> rw [q] <;> assumption
      unfold b_check_system_1
      simp [h4, hx]
    · obtain ⟨s4, h4, rfl⟩ := h
      exact ⟨_, _, rfl, h4, rfl⟩
  · obtain ⟨s3, s4, h3, h4, rfl⟩ := h
    simp
/-! ### steps -/
def isStep (n : Nat) (s : Step) : Bool := (decide (0 ≤ s.1) && decide (s.1 < n)) && (decide (s.2 = 1) || decide (s.2 = -1))
@[simp] theorem isi_st {s : Step} : fIsi "tuple" (.imm (stP s)) = some (.imm (.bl true)) := (rfl)
@[simp] theorem len_st {s : Step} : cLen [.imm (stP s)] = some (.imm (.int 2)) := (rfl)
@[simp] theorem item_st0 {s : Step} : item (.imm (stP s)) (.int 0) = some (.imm (.int s.1)) := by simp [stP]
@[simp] theorem item_st1 {s : Step} : item (.imm (stP s)) (.int 1) = some (.imm (.int s.2)) := by simp [stP]
theorem is_step_eq {ss : List Span} {s : Step} : F_is_step [.own (.imm (spsP ss)), .own (.imm (stP s))] = .ok (.imm (.bl (isStep ss.length s))) [.no, .no] := by
  refine R.eq_of_sat ?_
  unfold F_is_step m_is_step
  rw [sat_runF]
  simp
  unfold isStep
  refine ⟨fun h0 => ⟨fun h1 => by simp [h0, h1], fun h1 => ?_⟩, fun h0 => ?_⟩
  · have : ¬ s.1 < ss.length := by omega
    simp [this]
  · have : ¬ 0 ≤ s.1 := by omega
    simp [this]
def endsOf (s : Span) (w : Int) : Str × Str × Rat := if w = 1 then (s.a, s.b, s.hi) else (s.b, s.a, -s.lo)
def endsP (e : Str × Str × Rat) : P := .tup [.str e.1, .str e.2.1, frP e.2.2]
theorem item_nth {α : Type} {f : α → P} {l : List α} {i : Int} {x : α} (h0 : 0 ≤ i) (h : l[i.toNat]? = some x) : item (.imm (.tup (l.map f))) (.int i) = some (.imm (f x)) := by
  have hl : i.toNat < l.length := by
    rcases Nat.lt_or_ge i.toNat l.length with q | q
    · exact q
    · rw [List.getElem?_eq_none q] at h; cases h
  obtain ⟨y, e1, e2⟩ := atI_some (xs := l) (i := i) h0 (by omega)
  rw [item_t, atI_map, e1]
  rw [h] at e2
  cases e2
  rfl
theorem step_ends_eq {ss : List Span} {s : Step} {x : Span} {n : Nat} (h0 : 0 ≤ s.1) (hx : ss[s.1.toNat]? = some x) (hm : Md n x.lo) (hn : n ≤ 8000) : F_step_ends [.own (.imm (spsP ss)), .own (.imm (stP s))] = .ok (.imm (endsP (endsOf x s.2))) [.no, .no] := by
  have em := minus_eq Md.zero hm (by omega)
  have ez : frP 0 = k_ZERO := by simp [frP, k_ZERO]
  have e0 : (0 : Rat) - x.lo = -x.lo := by grind
  rw [ez, e0] at em
  have it := item_nth (f := spP) h0 hx
  simp only [item_t] at it
  refine R.eq_of_sat ?_
  unfold F_step_ends m_step_ends
  rw [sat_runF]
  simp [it, spP, em]
  refine ⟨fun h => by simp [endsOf, endsP, h], fun h => by simp [endsOf, endsP, h]⟩
end Lb

set_option Elab.async false
set_option linter.all false
set_option maxRecDepth 100000
set_option maxHeartbeats 2000000
/-! Lg2: walks through systems; papers. -/
namespace Lb
open PySem L2 MV
def stepW (ss : List Span) (x : Option (Str × Rat)) (s : Step) : Option (Str × Rat) := match x with
  | none => none
  | some (pl, len) => if isStep ss.length s = true then (match ss[s.1.toNat]? with
    | some sp => if (endsOf sp s.2).1 = pl then some ((endsOf sp s.2).2.1, len + (endsOf sp s.2).2.2) else none
    | none => none) else none
def wl (ss : List Span) (a : Str) (st : List Step) : Option (Str × Rat) := st.foldl (stepW ss) (some (a, 0))
theorem wl_snoc {ss : List Span} {a : Str} {st : List Step} {s : Step} : wl ss a (st ++ [s]) = stepW ss (wl ss a st) s := by unfold wl; simp
theorem fold_none (ss : List Span) : ∀ st : List Step, st.foldl (stepW ss) none = none
  | [] => rfl
  | s :: st => by rw [List.foldl_cons]; exact fold_none ss st
theorem wl_none {ss : List Span} {a : Str} {st : List Step} {s : Step} {rest : List Step} (h : stepW ss (wl ss a st) s = none) : wl ss a (st ++ s :: rest) = none := by
  unfold wl at h ⊢
  rw [List.foldl_append, List.foldl_cons, h, fold_none]
def SpOk (n : Nat) (ss : List Span) : Prop := ∀ s ∈ ss, Md n s.lo ∧ Md n s.hi
theorem endsOf_md {n : Nat} {s : Span} {w : Int} (h : Md n s.lo ∧ Md n s.hi) : Md n (endsOf s w).2.2 := by
  unfold endsOf
  split
  · exact h.2
  · exact h.1.neg
theorem isStep_get {ss : List Span} {s : Step} (h : isStep ss.length s = true) : 0 ≤ s.1 ∧ ∃ x, ss[s.1.toNat]? = some x ∧ x ∈ ss := by
  unfold isStep at h
  simp at h
  obtain ⟨⟨h0, h1⟩, _⟩ := h
  have hl : s.1.toNat < ss.length := by omega
  exact ⟨h0, ss[s.1.toNat], List.getElem?_eq_getElem hl, List.getElem_mem hl⟩
theorem wl_md {ss : List Span} {n : Nat} {a : Str} (hs : SpOk n ss) (st : List Step) : ∀ pl len, wl ss a st = some (pl, len) → Md ((n + 1) * st.length) len := by
  generalize hk : st.length = k
  induction k generalizing st with
  | zero =>
    intro pl len h
    have : st = [] := List.eq_nil_of_length_eq_zero hk
    subst this
    have : some (a, (0 : Rat)) = some (pl, len) := h
    cases this
    exact Md.zero
  | succ k ih =>
    obtain ⟨st', s, e⟩ : ∃ l' x, st = l' ++ [x] := ⟨st.dropLast, st.getLast (by intro z; rw [z] at hk; cases hk), (List.dropLast_concat_getLast _).symm⟩
    subst e
    intro pl len h
    rw [wl_snoc] at h
    cases q : wl ss a st' with
    | none => rw [q] at h; cases h
    | some y =>
      obtain ⟨pl', len'⟩ := y
      have := ih st' (by simpa using hk) pl' len' q
      rw [q] at h
      unfold stepW at h
      simp only [] at h
      split at h
      · rename_i hi
        obtain ⟨h0, x, hx, hm⟩ := isStep_get hi
        rw [hx] at h
        simp only [] at h
        split at h
        · cases h
          refine (this.add (endsOf_md (hs x hm))).le ?_
          rw [Nat.mul_add]
          omega
        · cases h
      · cases h
def walkR (ss : List Span) (a b : Str) (st : List Step) : Option Rat := if 60 < st.length then none else match wl ss a st with
  | some (pl, len) => if pl = b then some len else none
  | none => none
def optF : Option Rat → P
  | none => .non
  | some r => frP r
abbrev stsP (st : List Step) : P := .tup (st.map stP)
theorem walk_length_eq {ss : List Span} {n : Nat} {a b : Str} {st : List Step} (hs : SpOk n ss) (hn : n ≤ 100) : F_walk_length [.own (.imm (spsP ss)), .own (.imm (.str a)), .own (.imm (.str b)), .own (.imm (stsP st))] = .ok (.imm (optF (walkR ss a b st))) [.no, .no, .no, .no] := by
  refine R.eq_of_sat ?_
  unfold F_walk_length m_walk_length
  rw [sat_runF]
  simp [k_MOST_STEPS]
  refine ⟨fun h => ?_, fun h => ?_⟩
  · unfold walkR
    rw [if_pos (by omega)]
    rfl
  · have hl : st.length ≤ 60 := by omega
    refine sat_listF (fun ds ρ => ∃ pl len s6 s7 s8 s9, wl ss a ds = some (pl, len) ∧ frees (some s6) = true ∧ frees (some s7) = true ∧ frees (some s8) = true ∧ frees (some s9) = true ∧
      ρ = [.own (.imm (spsP ss)), .own (.imm (.str a)), .own (.imm (.str b)), .own (.imm (stsP st)), .own (.imm (.str pl)), .own (.imm (frP len)), s6, s7, s8, s9]) ⟨a, 0, .no, .no, .no, .no, rfl, rfl, rfl, rfl, rfl, by simp [k_ZERO, frP]⟩ (fun ds s rest ρ e h => ?_) (fun ρ h => ?_)
    · obtain ⟨pl, len, s6, s7, s8, s9, hw, h6, h7, h8, h9, rfl⟩ := h
      have hmd := wl_md hs ds pl len hw
      have hds : ds.length ≤ 60 := by
        have := congrArg List.length e
        rw [List.length_append] at this
        omega
      have hle : (n + 1) * ds.length ≤ 101 * 60 := Nat.mul_le_mul (by omega) hds
      have hno : stepW ss (wl ss a ds) s = none → optF (walkR ss a b st) = .non := fun q => by
        unfold walkR
        rw [if_neg (by omega), e, wl_none q]
        rfl
      unfold b_walk_length_1
      simp [h6, is_step_eq]
      cases hi : isStep ss.length s with
      | false =>
        simp
        refine (hno ?_).symm
        rw [hw]
        unfold stepW
        simp [hi]
      | true =>
        obtain ⟨h0, x, hx, hm⟩ := isStep_get hi
        have hmx := hs x hm
        simp [step_ends_eq h0 hx hmx.1 (by omega), endsP, h7, h8, h9]
        have hst : stepW ss (wl ss a ds) s = if (endsOf x s.2).1 = pl then some ((endsOf x s.2).2.1, len + (endsOf x s.2).2.2) else none := by
          rw [hw]
          unfold stepW
          simp [hi, hx]
        have hme := endsOf_md (w := s.2) hmx
        generalize endsOf x s.2 = en at hst hme
        obtain ⟨e1, e2, e3⟩ := en
        simp only [] at hst hme
        refine ⟨fun q => ?_, fun q => ?_⟩
        · have q : e1 = pl := q
          rw [if_pos q] at hst
          simp [plus_eq hmd hme (by omega)]
          exact ⟨_, _, by rw [wl_snoc]; exact hst, _, rfl, _, rfl, _, rfl, _, rfl, rfl, rfl, rfl, rfl, rfl, rfl⟩
        · have q : ¬ e1 = pl := q
          rw [if_neg q] at hst
          exact (hno hst).symm
    · obtain ⟨pl, len, s6, s7, s8, s9, hw, h6, h7, h8, h9, rfl⟩ := h
      have hr : walkR ss a b st = if pl = b then some len else none := by
        unfold walkR
        rw [if_neg (by omega), hw]
      rw [hr]
      unfold t_walk_length_2
      simp
      refine ⟨fun q => by rw [if_pos q]; rfl, fun q => by rw [if_neg q]; rfl⟩
theorem path_length_eq {pts : List Str} {ss : List Span} {n : Nat} {a b : Str} {st : List Step} (hk : SysOk pts ss) (hs : SpOk n ss) (hn : n ≤ 100) (ha : a ∈ pts) (hb : b ∈ pts) : F_path_length [.own (.imm (ptP pts)), .own (.imm (spsP ss)), .own (.imm (.str a)), .own (.imm (.str b)), .own (.imm (stsP st))] = .ok (.imm (optF (walkR ss a b st))) [.no, .no, .no, .no, .no] := by
  refine R.eq_of_sat ?_
  unfold F_path_length m_path_length
  rw [sat_runF]
  simp [check_system_eq hk, ha, hb, walk_length_eq hs hn]
/-! ### papers -/
theorem has_form_eq {w x : Str} {ps : List P} {k : Int} (hk : k = ((ps.length + 1 : Nat) : Int)) : F_has_form [.own (.imm (.tup (.str w :: ps))), .own (.imm (.str x)), .own (.imm (.int k))] = .ok (.imm (.bl (decide (w = x)))) [.no, .no, .no] := by
  refine R.eq_of_sat ?_
  unfold F_has_form m_has_form
  rw [sat_runF]
  have h2 : ((ps.length : Int) + 1 = k) := by omega
  simp [h2]
def isLoop (ss : List Span) (st : List Step) : Bool := match st with
  | [] => false
  | s :: r => if isStep ss.length s = true then (match ss[s.1.toNat]? with
    | some x => (match walkR ss (endsOf x s.2).1 (endsOf x s.2).1 (s :: r) with
      | some len => decide (len < 0)
      | none => false)
    | none => false) else false
theorem is_loop_eq {pts : List Str} {ss : List Span} {n : Nat} {st : List Step} (hk : SysOk pts ss) (hs : SpOk n ss) (hn : n ≤ 100) : F_is_loop [.own (.imm (ptP pts)), .own (.imm (spsP ss)), .own (.imm (.tup [.str "loop", stsP st]))] = .ok (.imm (.bl (isLoop ss st))) [.no, .no, .no] := by
  refine R.eq_of_sat ?_
  unfold F_is_loop m_is_loop
  rw [sat_runF]
  simp [check_system_eq hk, has_form_eq (w := "loop") (x := "loop") (ps := [stsP st]) (k := 2) rfl]
  cases st with
  | nil => simp [isLoop]
  | cons s r =>
    simp [is_step_eq]
    cases hi : isStep ss.length s with
    | false => simp [isLoop, hi]
    | true =>
      obtain ⟨h0, x, hx, hm⟩ := isStep_get hi
      have hmx := hs x hm
      have hw := walk_length_eq (a := (endsOf x s.2).1) (b := (endsOf x s.2).1) (st := s :: r) hs hn
      have hl : isLoop ss (s :: r) = (match walkR ss (endsOf x s.2).1 (endsOf x s.2).1 (s :: r) with
        | some len => decide (len < 0)
        | none => false) := by
        unfold isLoop
        simp [hi, hx]
      have hmd : ∀ len, walkR ss (endsOf x s.2).1 (endsOf x s.2).1 (s :: r) = some len → Md 8000 len := by
        intro len e
        unfold walkR at e
        split at e
        · cases e
        · rename_i h60
          split at e
          · rename_i pl len' hwl
            split at e
            · cases e
              refine (wl_md hs _ _ _ hwl).le ?_
              have : (n + 1) * (s :: r).length ≤ 101 * 60 := Nat.mul_le_mul (by omega) (by omega)
              omega
            · cases e
          · cases e
      rw [hl]
      simp [step_ends_eq h0 hx hmx.1 (by omega), endsP, hw]
      cases hwr : walkR ss (endsOf x s.2).1 (endsOf x s.2).1 (s :: r) with
      | none => simp [optF]
      | some len =>
        have ez : k_ZERO = frP 0 := by simp [frP, k_ZERO]
        have en : fNotN (.imm (frP len)) = some (.imm (.bl true)) := rfl
        simp [optF, en, ez, compare_eq (hmd len hwr) Md.zero (by omega), cmp_neg]
end Lb

set_option Elab.async false
set_option linter.all false
set_option maxRecDepth 100000
set_option maxHeartbeats 2000000
/-! Lg3: rows of positions, most papers. -/
namespace Lb
open PySem L2 MV
def rowP (pos : Str → Rat) (p : Str) : P := .tup [.str p, frP (pos p)]
abbrev rowsP (pts : List Str) (pos : Str → Rat) : P := .tup (pts.map (rowP pos))
def posD (pts : List Str) (pos : Str → Rat) : D := .dct (pts.map .str) (pts.map fun p => .imm (frP (pos p)))
@[simp] theorem dctS_pos {pts : List Str} {pos : Str → Rat} : dctS (.own (posD pts pos)) = some (pts.map .str, pts.map fun p => .imm (frP (pos p))) := (rfl)
theorem fNe_fr {a b : Rat} : fNe (.imm (frP a)) (.imm (frP b)) = some (.imm (.bl (!decide (a = b)))) := by
  rw [fNe_pl (okP_fr a) (okP_fr b)]
  congr 4
  exact decide_eq_decide.mpr frP_eq
theorem fEq_fr {a b : Rat} : fEq (.imm (frP a)) (.imm (frP b)) = some (.imm (.bl (decide (a = b)))) := by
  rw [fEq_pl (okP_fr a) (okP_fr b)]
  congr 3
  exact decide_eq_decide.mpr frP_eq
theorem range_take {α : Type} {l : List α} {k : Nat} {x : α} (h : l[k]? = some x) : l.take (k + 1) = l.take k ++ [x] := by
  rw [List.take_succ, h]
  rfl
theorem nodup_take {α : Type} {l : List α} {j : Nat} {x : α} (nd : l.Nodup) (h : l[j]? = some x) : x ∉ l.take j := by
  obtain ⟨hj, e⟩ := List.getElem?_eq_some_iff.mp h
  have e2 : l = l.take j ++ x :: l.drop (j + 1) := by
    conv => lhs; rw [← List.take_append_drop j l, List.drop_eq_getElem_cons hj, e]
  intro z
  rw [e2] at nd
  exact (List.nodup_append.mp nd).2.2 x z x List.mem_cons_self rfl
theorem read_positions_eq {pts : List Str} {pos : Str → Rat} (nd : pts.Nodup) (hl : pts.length ≤ 1000) : F_read_positions [.own (.imm (ptP pts)), .own (.imm (rowsP pts pos))] = .ok (posD pts pos) [.no, .no] := by
  refine R.eq_of_sat ?_
  unfold F_read_positions m_read_positions
  rw [sat_runF]
  simp
  refine ⟨lim62_len (by omega), ?_⟩
  refine sat_rng (fun j ρ => ∃ s3 s4, frees (some s3) = true ∧ frees (some s4) = true ∧ ρ = [.own (.imm (ptP pts)), .own (.imm (rowsP pts pos)), .own (posD (pts.take j) pos), s3, s4]) ⟨.no, .no, rfl, rfl, rfl⟩ (fun j ρ hj h => ?_) (fun ρ h => ?_)
  · obtain ⟨s3, s4, h3, h4, rfl⟩ := h
    refine ⟨by simpa using h3, ?_⟩
    obtain ⟨x, hx⟩ : ∃ x, pts[j]? = some x := ⟨pts[j], List.getElem?_eq_getElem hj⟩
    have i1 := item_nth (f := P.str) (l := pts) (i := (j : Int)) (by omega) (by simpa using hx)
    have i2 := item_nth (f := rowP pos) (l := pts) (i := (j : Int)) (by omega) (by simpa using hx)
    have hxt := nodup_take nd hx
    have htl : (pts.take j).length < 16777216 := by rw [List.length_take]; omega
    unfold b_read_positions_1
    simp only [item_t] at i1 i2
    rw [range_take hx]
    generalize pts.take j = T at hxt htl
    simp [h4, i1, i2, rowP, ptP, atomK_k keyE_str]
    have e1 : putKs (T.map P.str) (.str x) = (T ++ [x]).map P.str := putKs_newK keyE_str hxt
    have e2 : putD (T.map P.str) (T.map fun p => D.imm (frP (pos p))) (.str x) (.imm (frP (pos x))) = (T ++ [x]).map fun p => D.imm (frP (pos p)) := by
      rw [putD_newK keyE_str hxt]; simp
    rw [e1, e2]
    exact ⟨htl, _, rfl, _, rfl, rfl, rfl, rfl⟩
  · obtain ⟨s3, s4, h3, h4, rfl⟩ := h
    simp [posD]
theorem item_pos {pts : List Str} {pos : Str → Rat} {x : Str} (h : x ∈ pts) : item (posD pts pos) (.str x) = some (.imm (frP (pos x))) := by
  unfold posD
  rw [item_ds]
  exact itemD_k keyE_str h
@[simp] theorem fIsN_pos {pts : List Str} {pos : Str → Rat} : fIsN (posD pts pos) = some (.imm (.bl false)) := (rfl)
@[simp] theorem rd_pos {pts : List Str} {pos : Str → Rat} {i : Nat} : rdSlot i (.own (posD pts pos)) = some (.bor (posD pts pos) i) := (rfl)
def satB (ss : List Span) (pos : Str → Rat) : Bool := ss.all fun s => decide (s.lo ≤ pos s.b - pos s.a) && decide (pos s.b - pos s.a ≤ s.hi)
theorem are_rows_eq {pts : List Str} {ss : List Span} {pos : Str → Rat} {n : Nat} (hk : SysOk pts ss) (hs : SpOk n ss) (hp : ∀ p ∈ pts, Md n (pos p)) (hn : n ≤ 1000) : F_are_rows_of_set [.own (.imm (ptP pts)), .own (.imm (spsP ss)), .own (.imm (rowsP pts pos))] = .ok (.imm (.bl (satB ss pos))) [.no, .no, .no] := by
  obtain ⟨nd, hl, hss, hm⟩ := hk
  refine R.eq_of_sat ?_
  unfold F_are_rows_of_set m_are_rows_of_set
  rw [sat_runF]
  simp [read_positions_eq nd (pos := pos) (by omega)]
  refine sat_listF (fun ds ρ => ∃ s4 s5 s6 s7 s8 s9, satB ds pos = true ∧ frees (some s4) = true ∧ frees (some s5) = true ∧ frees (some s6) = true ∧ frees (some s7) = true ∧ frees (some s8) = true ∧ frees (some s9) = true ∧
    ρ = [.own (.imm (ptP pts)), .own (.imm (spsP ss)), .own (.imm (rowsP pts pos)), .own (posD pts pos), s4, s5, s6, s7, s8, s9]) ⟨.no, .no, .no, .no, .no, .no, rfl, rfl, rfl, rfl, rfl, rfl, rfl, rfl⟩ (fun ds s rest ρ e h => ?_) (fun ρ h => ?_)
  · obtain ⟨s4, s5, s6, s7, s8, s9, hsat, h4, h5, h6, h7, h8, h9, rfl⟩ := h
    have hsm : s ∈ ss := by rw [e]; simp
    obtain ⟨ma, mb⟩ := hm s hsm
    obtain ⟨ml, mh⟩ := hs s hsm
    have em := minus_eq (hp _ mb) (hp _ ma) (by omega)
    have hg := (hp _ mb).sub (hp _ ma)
    have hno : ¬ (s.lo ≤ pos s.b - pos s.a ∧ pos s.b - pos s.a ≤ s.hi) → satB ss pos = false := fun q => by
      unfold satB
      rw [e, List.all_append, List.all_cons]
      have : (decide (s.lo ≤ pos s.b - pos s.a) && decide (pos s.b - pos s.a ≤ s.hi)) = false := by
        rw [← Bool.not_eq_true, Bool.and_eq_true, decide_eq_true_eq, decide_eq_true_eq]
        exact q
      rw [this]
      simp
    have hyes : (s.lo ≤ pos s.b - pos s.a ∧ pos s.b - pos s.a ≤ s.hi) → satB (ds ++ [s]) pos = true := fun q => by
      unfold satB at hsat ⊢
      rw [List.all_append, hsat]
      simp [q.1, q.2]
    unfold b_are_rows_of_set_1
    simp [spP, h4, h5, h6, h7, h8, h9, item_pos ma, item_pos mb, em]
    generalize pos s.b - pos s.a = g at hg hno hyes
    simp [compare_eq hg ml (by omega), compare_eq hg mh (by omega), cmp_neg, cmp_pos]
    refine ⟨fun q => ?_, fun q => ⟨fun q2 => ?_, fun q2 => ?_⟩⟩
    · exact hno (fun z => absurd q (Rat.not_lt.mpr z.1))
    · exact hno (fun z => absurd q2 (Rat.not_lt.mpr z.2))
    · have := hyes ⟨Rat.not_lt.mp (by simpa using q), Rat.not_lt.mp (by simpa using q2)⟩
      exact ⟨this, _, rfl, _, rfl, _, rfl, _, rfl, _, rfl, _, rfl, rfl, rfl, rfl, rfl, rfl, rfl⟩
  · obtain ⟨s4, s5, s6, s7, s8, s9, hsat, h4, h5, h6, h7, h8, h9, rfl⟩ := h
    simp [hsat]
def isMost (ss : List Span) (pos : Str → Rat) (a b : Str) (v : Rat) (st : List Step) : Bool := match walkR ss a b st with
  | none => false
  | some len => decide (len = v) && (satB ss pos && decide (pos b - pos a = len))
theorem is_most_eq {pts : List Str} {ss : List Span} {pos : Str → Rat} {n : Nat} {a b : Str} {v : Rat} {st : List Step} (hk : SysOk pts ss) (hs : SpOk n ss) (hp : ∀ p ∈ pts, Md n (pos p)) (hn : n ≤ 100) (ha : a ∈ pts) (hb : b ∈ pts) :
    F_is_most [.own (.imm (ptP pts)), .own (.imm (spsP ss)), .own (.imm (.str a)), .own (.imm (.str b)), .own (.imm (.tup [.str "most", frP v, stsP st, rowsP pts pos]))] = .ok (.imm (.bl (isMost ss pos a b v st))) [.no, .no, .no, .no, .no] := by
  have hf := has_form_eq (w := "most") (x := "most") (ps := [frP v, stsP st, rowsP pts pos]) (k := 4) rfl
  have hw := walk_length_eq (a := a) (b := b) (st := st) hs hn
  have hr := are_rows_eq hk hs hp (by omega)
  have hrd := read_positions_eq hk.1 (pos := pos) (by have := hk.2.1; omega)
  have em := minus_eq (hp _ hb) (hp _ ha) (by omega)
  refine R.eq_of_sat ?_
  unfold F_is_most m_is_most
  rw [sat_runF]
  simp [check_system_eq hk, hf, ha, hb, hw]
  unfold isMost
  cases hwr : walkR ss a b st with
  | none => simp [optF]
  | some len =>
    have en : fIsN (.imm (frP len)) = some (.imm (.bl false)) := rfl
    simp [optF, en, fNe_fr, hr, hrd, item_pos ha, item_pos hb, em, fEq_fr]
    by_cases q : len = v
    · cases hsat : satB ss pos <;> simp [q, hsat, hrd, item_pos ha, item_pos hb, em, fEq_fr]
    · simp [q]
end Lb

set_option Elab.async false
set_option linter.all false
set_option maxRecDepth 100000
set_option maxHeartbeats 2000000
/-! Lbf1: relaxing edges in rounds (Bellman and Ford), over functions: what stands behind each step. -/
namespace Lbf
structure Ed where
  s : Nat
  t : Nat
  w : Int
  tag : Int × Int
def up {α : Type} (f : Nat → α) (v : Nat) (x : α) : Nat → α := fun i => if i = v then x else f i
theorem up_same {α : Type} {f : Nat → α} {v : Nat} {x : α} : up f v x v = x := if_pos rfl
theorem up_ne {α : Type} {f : Nat → α} {v i : Nat} {x : α} (h : i ≠ v) : up f v x i = f i := if_neg h
/-- m steps back from x: where, and the edges -/
def orb (q : Nat → Option Ed) : Nat → Nat → Option (Nat × List Ed)
  | 0, x => some (x, [])
  | m + 1, x => match q x with
    | some e => (orb q m e.s).map fun y => (y.1, e :: y.2)
    | none => none
def wsum : List Ed → Int
  | [] => 0
  | e :: l => e.w + wsum l
theorem wsum_append : ∀ l m : List Ed, wsum (l ++ m) = wsum l + wsum m
  | [], m => by simp [wsum]
  | e :: l, m => by simp only [List.cons_append, wsum, wsum_append l m]; omega
theorem wsum_reverse : ∀ l : List Ed, wsum l.reverse = wsum l
  | [] => rfl
  | e :: l => by rw [List.reverse_cons, wsum_append, wsum_reverse l]; simp only [wsum]; omega
theorem orb_succ {q : Nat → Option Ed} {m x y : Nat} {l : List Ed} (h : orb q (m + 1) x = some (y, l)) : ∃ e l', q x = some e ∧ orb q m e.s = some (y, l') ∧ l = e :: l' := by
  unfold orb at h
  split at h
  · rename_i e he
    obtain ⟨z, hz, e2⟩ := Option.map_eq_some_iff.mp h
    cases e2
    exact ⟨e, z.2, he, hz, rfl⟩
  · cases h
theorem orb_step {q : Nat → Option Ed} {m x y : Nat} {e : Ed} {l : List Ed} (h : q x = some e) (h2 : orb q m e.s = some (y, l)) : orb q (m + 1) x = some (y, e :: l) := by
  unfold orb
  rw [h]
  simp only [h2, Option.map_some]
theorem orb_add {q : Nat → Option Ed} {b : Nat} : ∀ {a x y z : Nat} {l m : List Ed}, orb q a x = some (y, l) → orb q b y = some (z, m) → orb q (a + b) x = some (z, l ++ m)
  | 0, x, y, z, l, m, h, h2 => by
    have : some (x, ([] : List Ed)) = some (y, l) := h
    cases this
    rw [Nat.zero_add]
    exact h2
  | a + 1, x, y, z, l, m, h, h2 => by
    obtain ⟨e, l', h1, h3, e2⟩ := orb_succ h
    subst e2
    rw [show a + 1 + b = (a + b) + 1 from by omega]
    exact orb_step h1 (orb_add h3 h2)
/-- a shorter walk is defined, too -/
theorem orb_split {q : Nat → Option Ed} {b : Nat} : ∀ {a x z : Nat} {n : List Ed}, orb q (a + b) x = some (z, n) → ∃ y l m, orb q a x = some (y, l) ∧ orb q b y = some (z, m) ∧ n = l ++ m
  | 0, x, z, n, h => by rw [Nat.zero_add] at h; exact ⟨x, [], n, rfl, h, rfl⟩
  | a + 1, x, z, n, h => by
    rw [show a + 1 + b = (a + b) + 1 from by omega] at h
    obtain ⟨e, l', h1, h3, e2⟩ := orb_succ h
    obtain ⟨y, l, m, h4, h5, h6⟩ := orb_split h3
    exact ⟨y, e :: l, m, orb_step h1 h4, h5, by rw [e2, h6]; rfl⟩
theorem orb_len {q : Nat → Option Ed} : ∀ {m x y : Nat} {l : List Ed}, orb q m x = some (y, l) → l.length = m
  | 0, x, y, l, h => by
    have : some (x, ([] : List Ed)) = some (y, l) := h
    cases this
    rfl
  | m + 1, x, y, l, h => by
    obtain ⟨e, l', h1, h3, e2⟩ := orb_succ h
    subst e2
    rw [List.length_cons, orb_len h3]
/-- the edges into a place lead there, from places that are not further behind than they say -/
def Pot (d : Nat → Int) (q : Nat → Option Ed) : Prop := ∀ v e, q v = some e → e.t = v ∧ d e.s + e.w ≤ d v
theorem orb_pot {d : Nat → Int} {q : Nat → Option Ed} (hp : Pot d q) : ∀ {m x y : Nat} {l : List Ed}, orb q m x = some (y, l) → d y + wsum l ≤ d x
  | 0, x, y, l, h => by
    have : some (x, ([] : List Ed)) = some (y, l) := h
    cases this
    simp only [wsum]; omega
  | m + 1, x, y, l, h => by
    obtain ⟨e, l', h1, h3, e2⟩ := orb_succ h
    subst e2
    have := orb_pot hp h3
    have := (hp x e h1).2
    simp only [wsum]; omega
theorem orb_up {d : Nat → Int} {q : Nat → Option Ed} {v : Nat} {f : Ed} (hp : Pot d q) (hf : d f.s + f.w < d v) : ∀ {m x y : Nat} {l : List Ed}, orb (up q v (some f)) m x = some (y, l) → d y + wsum l < d x ∨ orb q m x = some (y, l)
  | 0, x, y, l, h => .inr h
  | m + 1, x, y, l, h => by
    obtain ⟨e, l', h1, h3, e2⟩ := orb_succ h
    subst e2
    by_cases hx : x = v
    · subst hx
      rw [up_same] at h1
      cases h1
      left
      rcases orb_up hp hf h3 with z | z
      · simp only [wsum]; omega
      · have := orb_pot hp z
        simp only [wsum]; omega
    · rw [up_ne hx] at h1
      have := (hp x e h1).2
      rcases orb_up hp hf h3 with z | z
      · left
        simp only [wsum]; omega
      · right
        exact orb_step h1 z
def Neg (q : Nat → Option Ed) : Prop := ∀ m x l, 1 ≤ m → orb q m x = some (x, l) → wsum l < 0
theorem Neg.up {d : Nat → Int} {q : Nat → Option Ed} {v : Nat} {f : Ed} (hn : Neg q) (hp : Pot d q) (hf : d f.s + f.w < d v) : Neg (up q v (some f)) := fun m x l hm h => by
  rcases orb_up hp hf h with z | z
  · omega
  · exact hn m x l hm z
theorem Pot.up {d : Nat → Int} {q : Nat → Option Ed} {f : Ed} (hp : Pot d q) (hf : d f.s + f.w < d f.t) : Pot (up d f.t (d f.s + f.w)) (up q f.t (some f)) := fun v e h => by
  have le : ∀ y, Lbf.up d f.t (d f.s + f.w) y ≤ d y := fun y => by
    unfold Lbf.up
    split
    · rename_i z; rw [z]; omega
    · omega
  by_cases hv : v = f.t
  · subst hv
    rw [up_same] at h
    cases h
    refine ⟨rfl, ?_⟩
    rw [up_same]
    have := le f.s
    omega
  · rw [up_ne hv] at h
    obtain ⟨h1, h2⟩ := hp v e h
    refine ⟨h1, ?_⟩
    rw [up_ne hv]
    have := le e.s
    omega
/-- in round r (from 1 on), with k edges behind: last v the round of v's last change -/
structure BF (E : Nat → Option Ed) (r k : Nat) (d : Nat → Int) (q : Nat → Option Ed) (last : Nat → Nat) : Prop where
  pot : Pot d q
  neg : Neg q
  le : ∀ v, last v ≤ r
  chain : ∀ v, 1 ≤ last v → ∃ e, q v = some e ∧ last v ≤ last e.s + 1
  seen : ∀ j e, E j = some e → (j < k → last e.s + 1 ≤ r → d e.t ≤ d e.s + e.w) ∧ (k ≤ j → last e.s + 2 ≤ r → d e.t ≤ d e.s + e.w)
variable {E : Nat → Option Ed} {r k : Nat} {d : Nat → Int} {q : Nat → Option Ed} {last : Nat → Nat}
theorem BF.start : BF E 1 0 (fun _ => 0) (fun _ => none) (fun _ => 0) := by
  refine ⟨fun v e h => (nomatch h), fun m x l hm h => ?_, fun v => by omega, fun v h => by omega, fun j e h => ⟨fun z => by omega, fun _ z => by omega⟩⟩
  cases m with
  | zero => omega
  | succ m => obtain ⟨e, l', h1, _⟩ := orb_succ h; cases h1
theorem BF.round (h : BF E r k d q last) (hk : ∀ j e, E j = some e → j < k) : BF E (r + 1) 0 d q last :=
  ⟨h.pot, h.neg, fun v => by have := h.le v; omega, h.chain, fun j e he => ⟨fun z => by omega, fun _ z => (h.seen j e he).1 (hk j e he) (by omega)⟩⟩
theorem BF.keep {e : Ed} (h : BF E r k d q last) (he : E k = some e) (hn : d e.t ≤ d e.s + e.w) : BF E r (k + 1) d q last :=
  ⟨h.pot, h.neg, h.le, h.chain, fun j e' he' => by
    by_cases hj : j = k
    · subst hj
      rw [he] at he'
      cases he'
      exact ⟨fun _ _ => hn, fun _ _ => hn⟩
    · exact ⟨fun z => (h.seen j e' he').1 (by omega), fun z => (h.seen j e' he').2 (by omega)⟩⟩
theorem BF.take {e : Ed} (h : BF E r k d q last) (hr : 1 ≤ r) (he : E k = some e) (hn : d e.s + e.w < d e.t) : BF E r (k + 1) (up d e.t (d e.s + e.w)) (up q e.t (some e)) (up last e.t r) := by
  have hl : r ≤ last e.s + 1 := by
    refine Nat.le_of_not_lt fun z => ?_
    have := (h.seen k e he).2 (Nat.le_refl _) (by omega)
    omega
  have mono : ∀ v, last v ≤ up last e.t r v := fun v => by
    unfold up
    split
    · exact h.le v
    · omega
  refine ⟨h.pot.up hn, h.neg.up h.pot hn, fun v => ?_, fun v hv => ?_, fun j e' he' => ?_⟩
  · unfold up
    split
    · omega
    · exact h.le v
  · by_cases hx : v = e.t
    · subst hx
      refine ⟨e, up_same, ?_⟩
      rw [up_same]
      have := mono e.s
      omega
    · rw [up_ne hx] at hv
      rw [up_ne hx, up_ne hx]
      obtain ⟨e', h1, h2⟩ := h.chain v hv
      refine ⟨e', h1, ?_⟩
      have := mono e'.s
      omega
  · have dle : ∀ y, up d e.t (d e.s + e.w) y ≤ d y := fun y => by
      unfold up
      split
      · rename_i z; rw [z]; omega
      · omega
    by_cases hs : e'.s = e.t
    · have : up last e.t r e'.s = r := by rw [hs]; exact up_same
      rw [this]
      exact ⟨fun _ z => by omega, fun _ z => by omega⟩
    · rw [up_ne hs, up_ne hs]
      by_cases hj : j = k
      · subst hj
        rw [he] at he'
        cases he'
        refine ⟨fun _ _ => ?_, fun z => by omega⟩
        rw [up_same]
        omega
      · obtain ⟨s1, s2⟩ := h.seen j e' he'
        have := dle e'.t
        exact ⟨fun z z2 => by have := s1 (by omega) z2; omega, fun z z2 => by have := s2 (by omega) z2; omega⟩
/-- back from a place that changed in the last round -/
theorem BF.walk (h : BF E r k d q last) : ∀ (m x : Nat), m ≤ last x → ∃ y l, orb q m x = some (y, l) ∧ last x ≤ last y + m
  | 0, x, _ => ⟨x, [], rfl, by omega⟩
  | m + 1, x, hm => by
    obtain ⟨e, h1, h2⟩ := h.chain x (by omega)
    obtain ⟨y, l, h3, h4⟩ := BF.walk h m e.s (by omega)
    exact ⟨y, e :: l, orb_step h1 h3, by omega⟩
/-- n + 1 places below n: two are the same -/
theorem nodup_lt : ∀ (n : Nat) (l : List Nat), l.Nodup → (∀ x ∈ l, x < n) → l.length ≤ n
  | 0, l, _, h => by
    cases l with
    | nil => simp
    | cons a l => have := h a List.mem_cons_self; omega
  | n + 1, l, hn, h => by
    by_cases hm : n ∈ l
    · have h1 := nodup_lt n (l.erase n) (hn.erase n) fun x hx => by
        have hx' := (hn.mem_erase_iff).mp hx
        have := h x hx'.2
        have := hx'.1
        omega
      rw [List.length_erase_of_mem hm] at h1
      omega
    · have := nodup_lt n l hn fun x hx => by
        have := h x hx
        have : x ≠ n := fun z => hm (z ▸ hx)
        omega
      omega
/-- n steps back within n places end on a round -/
theorem orb_round {n x z : Nat} {l : List Ed} (hq : ∀ v e, q v = some e → e.s < n) (hx : x < n) (h : orb q n x = some (z, l)) : z < n ∧ ∃ p m, 1 ≤ p ∧ p ≤ n ∧ orb q p z = some (z, m) := by
  -- the places on the way
  have pt : ∀ i, i ≤ n → ∃ y l1 l2, orb q i x = some (y, l1) ∧ orb q (n - i) y = some (z, l2) ∧ y < n := fun i hi => by
    have h' := h
    rw [show n = i + (n - i) from by omega] at h'
    obtain ⟨y, l1, l2, h1, h2, e3⟩ := orb_split h'
    refine ⟨y, l1, l2, h1, h2, ?_⟩
    clear e3 h2 h' h
    clear hi
    induction i generalizing x l1 with
    | zero =>
      have : some (x, ([] : List Ed)) = some (y, l1) := h1
      cases this
      exact hx
    | succ i ih =>
      obtain ⟨e, l', h3, h4, _⟩ := orb_succ h1
      exact ih (hq x e h3) _ h4
  let f : Nat → Nat := fun i => match orb q i x with
    | some (y, _) => y
    | none => 0
  have hf : ∀ i, i ≤ n → ∃ l1 l2, orb q i x = some (f i, l1) ∧ orb q (n - i) (f i) = some (z, l2) ∧ f i < n := fun i hi => by
    obtain ⟨y, l1, l2, h1, h2, h3⟩ := pt i hi
    have : f i = y := by show (match orb q i x with | some (y, _) => y | none => 0) = y; rw [h1]
    rw [this]
    exact ⟨l1, l2, h1, h2, h3⟩
  have hz : f n = z := by show (match orb q n x with | some (y, _) => y | none => 0) = z; rw [h]
  refine ⟨by obtain ⟨_, _, _, _, h3⟩ := hf n (Nat.le_refl n); rw [hz] at h3; exact h3, ?_⟩
  have dup : ∃ i j, i < j ∧ j ≤ n ∧ f i = f j := by
    refine Classical.byContradiction fun hc => ?_
    have nd : ((List.range (n + 1)).map f).Nodup := by
      rw [List.nodup_iff_pairwise_ne, List.pairwise_map]
      refine List.Pairwise.imp_of_mem (fun {a b} ha hb hab => ?_) List.pairwise_lt_range
      exact fun e => hc ⟨a, b, hab, by have := List.mem_range.mp hb; omega, e⟩
    have := nodup_lt n _ nd fun y hy => by
      obtain ⟨i, hi, e⟩ := List.mem_map.mp hy
      obtain ⟨_, _, _, _, h3⟩ := hf i (by have := List.mem_range.mp hi; omega)
      rw [← e]
      exact h3
    simp at this
    omega
  obtain ⟨i, j, hij, hjn, e⟩ := dup
  obtain ⟨a1, a2, a3, a4, _⟩ := hf i (by omega)
  obtain ⟨b1, b2, b3, b4, _⟩ := hf j hjn
  -- from f i, j - i steps lead to f j, which is f i
  have c : ∃ m, orb q (j - i) (f i) = some (f i, m) := by
    rw [show j = i + (j - i) from by omega] at b3
    obtain ⟨y, l1, l2, h1, h2, _⟩ := orb_split b3
    rw [a3] at h1
    cases h1
    rw [show i + (j - i) = j from by omega, ← e] at h2
    exact ⟨_, h2⟩
  obtain ⟨m, c⟩ := c
  -- n - i steps, then j - i steps; the other way round
  have d1 : orb q ((j - i) + (n - i)) (f i) = some (z, m ++ a2) := orb_add c a4
  rw [show (j - i) + (n - i) = (n - i) + (j - i) from by omega] at d1
  obtain ⟨y, l1, l2, h1, h2, _⟩ := orb_split d1
  rw [a4] at h1
  cases h1
  exact ⟨j - i, l2, by omega, by omega, h2⟩
/-- THE LOOP: a place that changed in round n lies, n steps back, on a round of negative length -/
theorem BF.loop {n x : Nat} (h : BF E r k d q last) (hq : ∀ v e, q v = some e → e.s < n) (hx : x < n) (hl : n ≤ last x) : ∃ z l, orb q n x = some (z, l) ∧ z < n ∧ ∃ p m, 1 ≤ p ∧ p ≤ n ∧ orb q p z = some (z, m) ∧ ∀ p' m', 1 ≤ p' → orb q p' z = some (z, m') → wsum m' < 0 := by
  obtain ⟨z, l, h1, _⟩ := h.walk n x hl
  obtain ⟨hz, p, m, h2, h3, h4⟩ := orb_round hq hx h1
  exact ⟨z, l, h1, hz, p, m, h2, h3, h4, fun p' m' hp' h' => h.neg p' z m' hp' h'⟩
end Lbf

set_option Elab.async false
set_option linter.all false
set_option maxRecDepth 100000
/-! What defs shared by several laws compute, over data. Printed by gen.py. -/
namespace Lb
open PySem L2 MV
def b_edges_of_1 : MS := (sSeq (sAsg (.tup [7, 8, 9, 10, 11]) (eGtN 1 (eN 5)))
      (sSeq (sAsg (.nm 12) (e2 true fMul (eGtN 10 (eC (.int 0))) (e2 true fFdiv (eN 2) (eGtN 10 (eC (.int 1))))))
      (sSeq (sAsg (.nm 13) (e2 true fMul (eGtN 11 (eC (.int 0))) (e2 true fFdiv (eN 2) (eGtN 11 (eC (.int 1))))))
      (sSeq (sApp 6 (eTup (aCons (eGtN 4 (eN 8)) (aCons (eGtN 4 (eN 9)) (aCons (eM 13) (aCons (eTup (aCons (eM 5) (aCons (eC (.int 1)) aNil))) aNil))))))
      (sApp 6 (eTup (aCons (eGtN 4 (eN 9)) (aCons (eGtN 4 (eN 8)) (aCons (e1 fNeg (eN 12)) (aCons (eTup (aCons (eM 5) (aCons (e1 fNeg (eC (.int 1))) aNil))) aNil))))))))))
def m_edges_of : MS := (sSeq (sAsg (.nm 2) (eCall [none] F_common (lOwn (e2 false fAddL (eLc (.nm 3) [3] (iSq (eN 1)) (fun ρ => .ok true ρ) (eGtN 3 (eC (.int 3)))) (eLc (.nm 3) [3] (iSq (eN 1)) (fun ρ => .ok true ρ) (eGtN 3 (eC (.int 4))))) lNil)))
    (sSeq (sAsg (.nm 4) (eDc (.nm 5) [5] (iRg rng1 (vCons true (eB cLen (vCons true (eN 0) aNil)) aNil)) (fun ρ => .ok true ρ) (eGtN 0 (eN 5)) (eM 5)))
    (sSeq (sAsg (.nm 6) (eLst aNil))
    (sSeq (sFor (.nm 5) (iRg rng1 (vCons true (eB cLen (vCons true (eN 1) aNil)) aNil)) b_edges_of_1)
    (sRet (eTup (aCons (eM 6) (aCons (eM 2) aNil))))))))
def F_edges_of : FS := runF 14 m_edges_of
def b_relax_1 : MS := (sSeq (sAsg (.tup [5, 6, 7, 8]) (eGtN 2 (eN 4)))
      (sSeq (sIf (toB (e1 fIsN (eGtN 0 (eN 5)))) sCt sNx)
      (sSeq (sAsg (.nm 9) (e2 true fAddL (eGtN 0 (eN 5)) (eN 7)))
      (sIf (tOr' (toB (e1 fIsN (eGtN 0 (eN 6)))) (toB (e2 true fLt (eN 9) (eGtN 0 (eN 6))))) (sSeq (sLput 0 (eN 6) (eM 9))
        (sSeq (sLput 1 (eN 6) (eM 4))
        (sAsg (.nm 3) (eM 6)))) sNx))))
def m_relax : MS := (sSeq (sAsg (.nm 3) (e1 fNeg (eC (.int 1))))
    (sSeq (sFor (.nm 4) (iRg rng1 (vCons true (eB cLen (vCons true (eN 2) aNil)) aNil)) b_relax_1)
    (sRet (eM 3))))
def F_relax : FS := runF 10 m_relax
def b_settle_1 : MS := (sSeq (sAsg (.nm 3) (eCall [some (0, true), some (1, true), some (2, false)] F_relax (lLent 0 (lLent 1 (lLent 2 lNil)))))
      (sIf (toB (e2 true fLt (eN 3) (eC (.int 0)))) sBk sNx))
def m_settle : MS := (sSeq (sAsg (.nm 3) (e1 fNeg (eC (.int 1))))
    (sSeq (sFor (.nm 4) (iRg rng1 (vCons true (eB cLen (vCons true (eN 0) aNil)) aNil)) b_settle_1)
    (sRet (eM 3))))
def F_settle : FS := runF 5 m_settle
def b_loop_through_1 : MS := (sAsg (.nm 2) (eGt true (eGtN 0 (eGtN 1 (eN 2))) (eC (.int 0))))
def b_loop_through_2 : MS := (sSeq (sAsg (.nm 7) (eGtN 0 (eGtN 1 (eN 6))))
      (sSeq (sApp 5 (eGtN 7 (eC (.int 3))))
      (sSeq (sAsg (.nm 6) (eGtN 7 (eC (.int 0))))
      (sIf (toB (e2 true fEq (eN 6) (eN 2))) sBk sNx))))
def t_loop_through_3 : MS := (sSeq (sAsg (.nm 5) (eLst aNil))
    (sSeq (sAsg (.nm 6) (eM 2))
    (sSeq (sFor (.nm 4) (iRg rng1 (vCons true (eN 3) aNil)) b_loop_through_2)
    (sRet (eB cTuple (vCons true (e1 fRev (eN 5)) aNil))))))
def m_loop_through : MS := (sSeq (sFor (.nm 4) (iRg rng1 (vCons true (eN 3) aNil)) b_loop_through_1)
    t_loop_through_3)
def F_loop_through : FS := runF 8 m_loop_through
def m_positions : MS := (sRet (eB cTuple (vCons true (eLc (.nm 3) [3] (iRg rng1 (vCons true (eB cLen (vCons true (eN 0) aNil)) aNil)) (fun ρ => .ok true ρ) (eTup (aCons (eGtN 0 (eN 3)) (aCons (eCall [none, some (2, false)] F_fraction (lOwn (eGtN 1 (eN 3)) (lLent 2 lNil))) aNil)))) aNil)))
def F_positions : FS := runF 4 m_positions
def m_solve : MS := (sSeq (sExpr (eCall [some (0, false), some (1, false)] F_check_system (lLent 0 (lLent 1 lNil))))
    (sSeq (sAsg (.tup [2, 3]) (eCall [some (0, false), some (1, false)] F_edges_of (lLent 0 (lLent 1 lNil))))
    (sSeq (sAsg (.nm 4) (eLc (.nm 5) [5] (iSq (eN 0)) (fun ρ => .ok true ρ) (eC (.int 0))))
    (sSeq (sAsg (.nm 6) (eLc (.nm 5) [5] (iSq (eN 0)) (fun ρ => .ok true ρ) (e1 fNeg (eC (.int 1)))))
    (sSeq (sAsg (.nm 7) (eCall [some (4, true), some (6, true), some (2, false)] F_settle (lLent 4 (lLent 6 (lLent 2 lNil)))))
    (sSeq (sIf (toB (e2 true fGe (eN 7) (eC (.int 0)))) (sRet (eTup (aCons (eC (.str "loop")) (aCons (eCall [some (2, false), some (6, false), some (7, false), none] F_loop_through (lLent 2 (lLent 6 (lLent 7 (lOwn (eB cLen (vCons true (eN 0) aNil)) lNil))))) aNil)))) sNx)
    (sRet (eTup (aCons (eC (.str "set")) (aCons (eCall [some (0, false), some (4, false), some (3, false)] F_positions (lLent 0 (lLent 4 (lLent 3 lNil)))) aNil))))))))))
def F_solve : FS := runF 8 m_solve
def m_is_set : MS := (sSeq (sExpr (eCall [some (0, false), some (1, false)] F_check_system (lLent 0 (lLent 1 lNil))))
    (sRet (eAnd (eCall [some (2, false), none, none] F_has_form (lLent 2 (lOwn (eC (.str "set")) (lOwn (eC (.int 2)) lNil)))) (eCall [some (0, false), some (1, false), none] F_are_rows_of_set (lLent 0 (lLent 1 (lOwn (eGtN 2 (eC (.int 1))) lNil)))))))
def F_is_set : FS := runF 3 m_is_set
end Lb

set_option Elab.async false
set_option linter.all false
set_option maxRecDepth 100000
set_option maxHeartbeats 2000000
/-! Lbf2: the rounds over lists, and that the program goes them. -/
namespace Lbf
open PySem L2 MV Lb
def edP (e : Ed) : P := .tup [.int e.s, .int e.t, .int e.w, .tup [.int e.tag.1, .int e.tag.2]]
abbrev ilD (l : List Int) : D := .lst (l.map (D.imm ∘ P.int))
abbrev esP (es : List Ed) : P := .lst (es.map edP)
theorem atI_nat {α : Type} {l : List α} {k : Nat} : atI l (k : Int) = l[k]? := by
  unfold L2.atI L2.ixN
  rw [if_pos (by omega)]
  by_cases h : k < l.length
  · rw [if_pos (by omega)]; simp
  · rw [if_neg (by omega), List.getElem?_eq_none (by omega)]; rfl
structure St where
  d : List Int
  b : List Int
  c : Int
def rlx (es : List Ed) (x : St) (k : Nat) : St := match es[k]? with
  | none => x
  | some e => if x.d.getD e.s 0 + e.w < x.d.getD e.t 0 then ⟨x.d.set e.t (x.d.getD e.s 0 + e.w), x.b.set e.t k, e.t⟩ else x
def rlxN (es : List Ed) (d b : List Int) : Nat → St
  | 0 => ⟨d, b, -1⟩
  | k + 1 => rlx es (rlxN es d b k) k
def setN (es : List Ed) : Nat → St → St
  | 0, x => x
  | m + 1, x => if (rlxN es x.d x.b es.length).c < 0 then rlxN es x.d x.b es.length else setN es m (rlxN es x.d x.b es.length)
def EsOk (es : List Ed) (n : Nat) : Prop := es.length ≤ 1000 ∧ ∀ e ∈ es, e.s < n ∧ e.t < n
def StOk (x : St) (n : Nat) : Prop := x.d.length = n ∧ x.b.length = n
theorem rlx_ok {es : List Ed} {x : St} {n k : Nat} (h : StOk x n) : StOk (rlx es x k) n := by
  unfold rlx
  split
  · exact h
  · split
    · exact ⟨by simp [h.1], by simp [h.2]⟩
    · exact h
theorem rlxN_ok {es : List Ed} {d b : List Int} {n : Nat} (hd : d.length = n) (hb : b.length = n) : ∀ k, StOk (rlxN es d b k) n
  | 0 => ⟨hd, hb⟩
  | k + 1 => rlx_ok (rlxN_ok hd hb k)
theorem getD_get {l : List Int} {i : Nat} (h : i < l.length) : l[i]? = some (l.getD i 0) := by
  rw [List.getD_eq_getElem?_getD, List.getElem?_eq_getElem h]
  rfl
theorem relax_eq {es : List Ed} {d b : List Int} {n : Nat} (hE : EsOk es n) (hd : d.length = n) (hb : b.length = n) :
    F_relax [.pin (ilD d), .pin (ilD b), .own (.imm (esP es))] = .ok (.imm (.int (rlxN es d b es.length).c)) [.pin (ilD (rlxN es d b es.length).d), .pin (ilD (rlxN es d b es.length).b), .no] := by
  refine R.eq_of_sat ?_
  unfold F_relax m_relax
  rw [sat_runF]
  simp
  refine ⟨lim62_len (by have := hE.1; omega), ?_⟩
  refine sat_rng (fun k ρ => ∃ s4 s5 s6 s7 s8 s9, frees (some s4) = true ∧ frees (some s5) = true ∧ frees (some s6) = true ∧ frees (some s7) = true ∧ frees (some s8) = true ∧ frees (some s9) = true ∧
    ρ = [.pin (ilD (rlxN es d b k).d), .pin (ilD (rlxN es d b k).b), .own (.imm (esP es)), .own (.imm (.int (rlxN es d b k).c)), s4, s5, s6, s7, s8, s9]) ⟨.no, .no, .no, .no, .no, .no, rfl, rfl, rfl, rfl, rfl, rfl, rfl⟩ (fun k ρ hk h => ?_) (fun ρ h => ?_)
  · obtain ⟨s4, s5, s6, s7, s8, s9, h4, h5, h6, h7, h8, h9, rfl⟩ := h
    refine ⟨by simpa using h4, ?_⟩
    obtain ⟨od, ob⟩ := rlxN_ok (es := es) hd hb k
    have hk' : k < es.length := hk
    obtain ⟨hs, ht⟩ := hE.2 es[k] (List.getElem_mem hk')
    have hek : es[k]? = some es[k] := List.getElem?_eq_getElem hk'
    have hr : rlxN es d b (k + 1) = rlx es (rlxN es d b k) k := rfl
    rw [hr]
    unfold rlx
    rw [hek]
    simp only []
    generalize rlxN es d b k = x at od ob
    generalize es[k] = e at hs ht hek
    have g1 := getD_get (l := x.d) (i := e.s) (by omega)
    have g2 := getD_get (l := x.d) (i := e.t) (by omega)
    have od' : x.d.length = n := od
    have ob' : x.b.length = n := ob
    generalize x.d.getD e.s 0 = u at g1
    generalize x.d.getD e.t 0 = v at g2
    unfold b_relax_1
    simp [atI_nat, hek, edP, h5, h6, h7, h8, h9, g1, g2]
    by_cases hlt : u + e.w < v
    · simp [hlt, od', ob', ht]
      refine ⟨⟨_, ?_, _, ?_, _, ?_, _, ?_, _, ?_, _, ?_, rfl, rfl, rfl, rfl, rfl, rfl⟩, fun z => absurd hlt (by omega)⟩ <;> rfl
    · simp [hlt]
      refine fun _ => ⟨_, ?_, _, ?_, _, ?_, _, ?_, _, ?_, _, ?_, rfl, rfl, rfl, rfl, rfl, rfl⟩ <;> rfl
  · obtain ⟨s4, s5, s6, s7, s8, s9, h4, h5, h6, h7, h8, h9, rfl⟩ := h
    simp
/-- rounds -/
def stP3 (x : St) : Nat → Prop := fun n => x.d.length = n ∧ x.b.length = n
theorem setN_ok {es : List Ed} {n : Nat} : ∀ (m : Nat) (x : St), StOk x n → StOk (setN es m x) n
  | 0, x, h => h
  | m + 1, x, h => by
    have h2 := rlxN_ok (es := es) h.1 h.2 es.length
    unfold setN
    split
    · exact h2
    · exact setN_ok m _ h2
/-- the rounds done so far without an end -/
def runN (es : List Ed) (x : St) : Nat → Option St
  | 0 => some x
  | k + 1 => match runN es x k with
    | some y => if (rlxN es y.d y.b es.length).c < 0 then none else some (rlxN es y.d y.b es.length)
    | none => none
theorem setN_run {es : List Ed} {x : St} : ∀ {k m : Nat} {y : St}, runN es x k = some y → setN es (k + m) x = setN es m y
  | 0, m, y, h => by
    have : some x = some y := h
    cases this
    rw [Nat.zero_add]
  | k + 1, m, y, h => by
    unfold runN at h
    cases q : runN es x k with
    | none => rw [q] at h; cases h
    | some z =>
      rw [q] at h
      simp only [] at h
      split at h
      · cases h
      · rename_i hc
        cases h
        rw [show k + 1 + m = k + (m + 1) from by omega, setN_run q]
        rw [setN, if_neg hc]
theorem settle_eq {es : List Ed} {d b : List Int} {n : Nat} (hE : EsOk es n) (hn : n ≤ 1000) (hd : d.length = n) (hb : b.length = n) :
    F_settle [.pin (ilD d), .pin (ilD b), .own (.imm (esP es))] = .ok (.imm (.int (setN es n ⟨d, b, -1⟩).c)) [.pin (ilD (setN es n ⟨d, b, -1⟩).d), .pin (ilD (setN es n ⟨d, b, -1⟩).b), .no] := by
  refine R.eq_of_sat ?_
  unfold F_settle m_settle
  rw [sat_runF]
  simp
  refine ⟨lim62_len (by omega), ?_⟩
  rw [hd]
  refine sat_rng (fun k ρ => ∃ s4 y, frees (some s4) = true ∧ runN es ⟨d, b, -1⟩ k = some y ∧ StOk y n ∧
    ρ = [.pin (ilD y.d), .pin (ilD y.b), .own (.imm (esP es)), .own (.imm (.int y.c)), s4]) ⟨.no, ⟨d, b, -1⟩, rfl, rfl, ⟨hd, hb⟩, rfl⟩ (fun k ρ hk h => ?_) (fun ρ h => ?_)
  · obtain ⟨s4, y, h4, hy, ok, rfl⟩ := h
    refine ⟨by simpa using h4, ?_⟩
    have e := relax_eq hE ok.1 ok.2
    have hs : setN es n ⟨d, b, -1⟩ = setN es (n - k) y := by
      have := setN_run (m := n - k) hy
      rwa [show k + (n - k) = n from by omega] at this
    have hnx : n - k = (n - k - 1) + 1 := by omega
    have ok2 := rlxN_ok (es := es) ok.1 ok.2 es.length
    have hr : runN es ⟨d, b, -1⟩ (k + 1) = if (rlxN es y.d y.b es.length).c < 0 then none else some (rlxN es y.d y.b es.length) := by
      rw [runN, hy]
    rw [hnx, setN] at hs
    unfold b_settle_1
    simp [e]
    generalize rlxN es y.d y.b es.length = z at ok2 hr hs
    refine ⟨fun hz => by rw [hs, if_pos hz]; exact ⟨rfl, rfl, rfl⟩, fun hz => ⟨_, ?_, z, by rw [hr, if_neg (by omega)], ok2, rfl, rfl, rfl, rfl⟩⟩
    rfl
  · obtain ⟨s4, y, h4, hy, ok, rfl⟩ := h
    have hs := setN_run (m := 0) hy
    rw [Nat.add_zero] at hs
    rw [hs]
    simp [setN]
end Lbf

set_option Elab.async false
set_option linter.all false
set_option maxRecDepth 100000
set_option maxHeartbeats 2000000
/-! Lbf3: the loop that is read off. -/
namespace Lbf
open PySem L2 MV Lb
def qOf (es : List Ed) (b : List Int) (v : Nat) : Option Ed := (b[v]?).bind fun j => if 0 ≤ j then es[j.toNat]? else none
theorem qOf_get {es : List Ed} {b : List Int} {v : Nat} {e : Ed} (h : qOf es b v = some e) : ∃ j : Nat, b[v]? = some (j : Int) ∧ es[j]? = some e := by
  unfold qOf at h
  obtain ⟨j, h1, h2⟩ := Option.bind_eq_some_iff.mp h
  split at h2
  · rename_i h0
    exact ⟨j.toNat, by rw [h1]; congr 1; omega, h2⟩
  · cases h2
def First (q : Nat → Option Ed) (z p : Nat) (m : List Ed) : Prop := 1 ≤ p ∧ orb q p z = some (z, m) ∧ ∀ i l, 1 ≤ i → i < p → orb q i z ≠ some (z, l)
theorem first_of {q : Nat → Option Ed} {z : Nat} : ∀ (p : Nat) (m : List Ed), 1 ≤ p → orb q p z = some (z, m) → ∃ p' m', p' ≤ p ∧ First q z p' m' := by
  intro p
  induction p using Nat.strongRecOn with
  | _ p ih =>
    intro m h1 h2
    by_cases hc : ∀ i l, 1 ≤ i → i < p → orb q i z ≠ some (z, l)
    · exact ⟨p, m, Nat.le_refl _, h1, h2, hc⟩
    · have : ∃ i l, 1 ≤ i ∧ i < p ∧ orb q i z = some (z, l) := by
        refine Classical.byContradiction fun hn => hc fun i l h3 h4 h5 => hn ⟨i, l, h3, h4, h5⟩
      obtain ⟨i, l, h3, h4, h5⟩ := this
      obtain ⟨p', m', h6, h7⟩ := ih i h4 l h3 h5
      exact ⟨p', m', by omega, h7⟩
theorem orb_next {q : Nat → Option Ed} {k n x y z : Nat} {l m : List Ed} (h : orb q n x = some (z, m)) (hk : k < n) (hy : orb q k x = some (y, l)) : ∃ e, q y = some e ∧ orb q (k + 1) x = some (e.s, l ++ [e]) := by
  rw [show n = k + ((n - k - 1) + 1) from by omega] at h
  obtain ⟨y', l', m', h1, h2, _⟩ := orb_split h
  rw [hy] at h1
  cases h1
  obtain ⟨e, _, h3, _, _⟩ := orb_succ h2
  exact ⟨e, h3, orb_add hy (orb_step h3 rfl)⟩
theorem lim62_n {n : Nat} (h : n ≤ 1000) : lim62 (n : Int) = true := lim62_len (by omega)
theorem loop_through_eq {es : List Ed} {b : List Int} {n x z p : Nat} {l0 m : List Ed} (hn : n ≤ 1000) (hq : orb (qOf es b) n x = some (z, l0)) (hp : p ≤ n) (hf : First (qOf es b) z p m) :
    F_loop_through [.own (.imm (esP es)), .ro (ilD b), .own (.imm (.int x)), .own (.imm (.int n))] = .ok (.imm (.tup (m.reverse.map fun e => stP e.tag))) [.no, .no, .no, .no] := by
  obtain ⟨hp1, hpz, hpn⟩ := hf
  refine R.eq_of_sat ?_
  unfold F_loop_through m_loop_through
  rw [sat_runF]
  simp
  refine ⟨lim62_n hn, ?_⟩
  refine sat_rng (fun k ρ => ∃ s4 y l, frees (some s4) = true ∧ orb (qOf es b) k x = some (y, l) ∧
    ρ = [.own (.imm (esP es)), .ro (ilD b), .own (.imm (.int y)), .own (.imm (.int n)), s4, .no, .no, .no]) ⟨.no, x, [], rfl, rfl, rfl⟩ (fun k ρ hk h => ?_) (fun ρ h => ?_)
  · obtain ⟨s4, y, l, h4, hy, rfl⟩ := h
    refine ⟨by simpa using h4, ?_⟩
    obtain ⟨e, he, hy'⟩ := orb_next hq hk hy
    obtain ⟨j, hj, hje⟩ := qOf_get he
    unfold b_loop_through_1
    simp [atI_nat, hj, hje, edP]
    exact ⟨_, rfl, e.s, ⟨_, hy'⟩, rfl, rfl⟩
  · obtain ⟨s4, y, l, h4, hy, rfl⟩ := h
    rw [hq] at hy
    cases hy
    unfold t_loop_through_3
    simp
    refine ⟨lim62_n hn, ?_⟩
    refine sat_rng (fun k ρ => ∃ s4 s7 y l, frees (some s4) = true ∧ frees (some s7) = true ∧ k < p ∧ orb (qOf es b) k z = some (y, l) ∧
      ρ = [.own (.imm (esP es)), .ro (ilD b), .own (.imm (.int z)), .own (.imm (.int n)), s4, .own (.lst (l.map fun e => D.imm (stP e.tag))), .own (.imm (.int y)), s7]) ⟨s4, .no, z, [], h4, rfl, by omega, rfl, rfl⟩ (fun k ρ hk h => ?_) (fun ρ h => ?_)
    · obtain ⟨s4, s7, y, l, h4, h7, hkp, hy, rfl⟩ := h
      refine ⟨by simpa using h4, ?_⟩
      obtain ⟨e, he, hy'⟩ := orb_next hpz hkp hy
      obtain ⟨j, hj, hje⟩ := qOf_get he
      have hl := orb_len hy
      have hl' : l.length < 16777216 := by omega
      unfold b_loop_through_2
      simp [atI_nat, hj, hje, edP, h7, hl']
      have el : List.map (fun e => D.imm (stP e.tag)) l ++ [D.imm (P.tup [P.int e.tag.fst, P.int e.tag.snd])] = (l ++ [e]).map (D.imm ∘ fun e => stP e.tag) := by
        simp [stP]
      refine ⟨fun hz => ?_, fun hz => ?_⟩
      · have ez : e.s = z := by omega
        rw [ez] at hy'
        have ep : p = k + 1 := by
          refine Classical.byContradiction fun hc => ?_
          exact hpn (k + 1) _ (by omega) (by omega) hy'
        have em : m = l ++ [e] := by
          rw [ep, hy'] at hpz
          cases hpz
          rfl
        rw [el, em]
        generalize l ++ [e] = L
        have fr : fRev (.lst (L.map (D.imm ∘ fun e => stP e.tag))) = some (.lst (L.reverse.map (D.imm ∘ fun e => stP e.tag))) := fRev_lf (lf := .own) (f := fun e : Ed => stP e.tag)
        have ct : cTuple [.lst (L.reverse.map (D.imm ∘ fun e => stP e.tag))] = some (.imm (.tup (L.reverse.map fun e => stP e.tag))) := tup_lf (lf := .own) (f := fun e : Ed => stP e.tag)
        rw [fr]
        simp only [osat_some]
        generalize L.reverse = L2 at ct
        simp [ct]
      · have hk1 : k + 1 < p := by
          refine Classical.byContradiction fun hc => hz ?_
          have ep : p = k + 1 := by omega
          rw [ep, hy'] at hpz
          cases hpz
          rfl
        rw [el]
        exact ⟨_, rfl, _, rfl, hk1, e.s, l ++ [e], hy', rfl, rfl, rfl, rfl⟩
    · obtain ⟨s4, s7, y, l, h4, h7, hkp, hy, rfl⟩ := h
      omega
end Lbf

set_option Elab.async false
set_option linter.all false
set_option maxRecDepth 100000
set_option maxHeartbeats 2000000
/-! Lbf4: what the rounds over lists tell. -/
namespace Lbf
open PySem L2 MV Lb
def dF (d : List Int) : Nat → Int := fun v => d.getD v 0
def eF (es : List Ed) : Nat → Option Ed := fun j => es[j]?
def Feas (es : List Ed) (f : Nat → Int) : Prop := ∀ e ∈ es, f e.t ≤ f e.s + e.w
/-- .. for edges c times as long -/
def FeasC (c : Int) (es : List Ed) (f : Nat → Int) : Prop := ∀ e ∈ es, f e.t ≤ f e.s + c * e.w
theorem dF_set {d : List Int} {t : Nat} {f : Int} (h : t < d.length) : dF (d.set t f) = up (dF d) t f := by
  funext v
  unfold dF up
  by_cases e : v = t
  · subst e
    rw [if_pos rfl, List.getD_eq_getElem?_getD, List.getElem?_set_self h]
    rfl
  · rw [if_neg e, List.getD_eq_getElem?_getD, List.getElem?_set_ne (Ne.symm e)]
    exact (List.getD_eq_getElem?_getD ..).symm
theorem qOf_set {es : List Ed} {b : List Int} {t k : Nat} {e : Ed} (h : t < b.length) (hk : es[k]? = some e) : qOf es (b.set t k) = up (qOf es b) t (some e) := by
  funext v
  unfold qOf up
  by_cases c : v = t
  · subst c
    rw [if_pos rfl, List.getElem?_set_self h]
    simp only [Option.bind_some]
    rw [if_pos (by omega), ← hk]
    congr 1
  · rw [if_neg c, List.getElem?_set_ne (Ne.symm c)]
theorem qOf_mem {es : List Ed} {b : List Int} {v : Nat} {e : Ed} (h : qOf es b v = some e) : e ∈ es := by
  obtain ⟨j, _, h2⟩ := qOf_get h
  exact List.mem_of_getElem? h2
/-- who changed last in this round -/
def ChOk (c : Int) (n r : Nat) (last : Nat → Nat) : Prop := c < 0 ∨ ∃ v : Nat, v < n ∧ c = v ∧ last v = r
structure RX (es : List Ed) (n r k : Nat) (x : St) (last : Nat → Nat) : Prop where
  ok : StOk x n
  bf : BF (eF es) r k (dF x.d) (qOf es x.b) last
  ch : ChOk x.c n r last
  le : ∀ v, dF x.d v ≤ 0
  lb : ∀ (p : Nat → Int) (c : Int), 0 < c → FeasC c es p → (∀ v, p v ≤ 0) → ∀ v, p v ≤ c * dF x.d v
theorem rlx_take {es : List Ed} {x : St} {k : Nat} {e : Ed} (hk : es[k]? = some e) (h : dF x.d e.s + e.w < dF x.d e.t) : rlx es x k = ⟨x.d.set e.t (dF x.d e.s + e.w), x.b.set e.t k, e.t⟩ := by
  unfold rlx
  rw [hk]
  simp only []
  exact if_pos h
theorem rlx_keep {es : List Ed} {x : St} {k : Nat} {e : Ed} (hk : es[k]? = some e) (h : dF x.d e.t ≤ dF x.d e.s + e.w) : rlx es x k = x := by
  unfold rlx
  rw [hk]
  simp only []
  have h' : ¬ dF x.d e.s + e.w < dF x.d e.t := by omega
  exact if_neg h'
theorem RX.step {es : List Ed} {n r k : Nat} {x : St} {last : Nat → Nat} (hE : EsOk es n) (hr : 1 ≤ r) (hk : k < es.length) (h : RX es n r k x last) : ∃ last', RX es n r (k + 1) (rlx es x k) last' := by
  have hek : es[k]? = some es[k] := List.getElem?_eq_getElem hk
  have hm : es[k] ∈ es := List.getElem_mem hk
  generalize es[k] = e at hek hm
  obtain ⟨hs, ht⟩ := hE.2 e hm
  by_cases c : dF x.d e.s + e.w < dF x.d e.t
  · have ed := dF_set (d := x.d) (t := e.t) (f := dF x.d e.s + e.w) (by have := h.ok.1; omega)
    have eq := qOf_set (es := es) (b := x.b) (t := e.t) (by have := h.ok.2; omega) hek
    rw [rlx_take hek c]
    refine ⟨up last e.t r, ⟨by simp [h.ok.1], by simp [h.ok.2]⟩, ?_, .inr ⟨e.t, ht, rfl, up_same⟩, fun v => ?_, fun p g hg hp h0 v => ?_⟩
    · rw [ed, eq]
      exact h.bf.take hr hek c
    · rw [ed]
      unfold up
      have := h.le v
      have := h.le e.t
      split <;> omega
    · rw [ed]
      unfold up
      have := h.lb p g hg hp h0
      split
      · rename_i z
        have h1 := this e.s
        have h2 := hp e hm
        rw [z, Int.mul_add]
        omega
      · exact this v
  · have c : dF x.d e.t ≤ dF x.d e.s + e.w := by omega
    rw [rlx_keep hek c]
    exact ⟨last, h.ok, h.bf.keep hek c, h.ch, h.le, h.lb⟩
theorem RX.all {es : List Ed} {n r : Nat} {d b : List Int} {last : Nat → Nat} (hE : EsOk es n) (hr : 1 ≤ r) (h : RX es n r 0 ⟨d, b, -1⟩ last) : ∀ k, k ≤ es.length → ∃ last', RX es n r k (rlxN es d b k) last'
  | 0, _ => ⟨last, h⟩
  | k + 1, hk => by
    obtain ⟨l', h'⟩ := RX.all hE hr h k (by omega)
    exact h'.step hE hr (by omega)
theorem rlx_c {es : List Ed} {x : St} {k : Nat} (h : (rlx es x k).c < 0) : rlx es x k = x ∧ ∀ e, es[k]? = some e → dF x.d e.t ≤ dF x.d e.s + e.w := by
  cases q : es[k]? with
  | none =>
    have : rlx es x k = x := by unfold rlx; rw [q]
    exact ⟨this, fun e z => nomatch z⟩
  | some e =>
    by_cases c : dF x.d e.s + e.w < dF x.d e.t
    · rw [rlx_take q c] at h
      exact absurd h (by show ¬ ((e.t : Int) < 0); omega)
    · have c : dF x.d e.t ≤ dF x.d e.s + e.w := by omega
      exact ⟨rlx_keep q c, fun e' z => by cases z; exact c⟩
theorem rlxN_c {es : List Ed} {d b : List Int} : ∀ {k : Nat}, (rlxN es d b k).c < 0 → rlxN es d b k = ⟨d, b, -1⟩ ∧ ∀ j e, j < k → es[j]? = some e → dF d e.t ≤ dF d e.s + e.w
  | 0, _ => ⟨rfl, fun j e z => by omega⟩
  | k + 1, h => by
    obtain ⟨h1, h2⟩ := rlx_c (show (rlx es (rlxN es d b k) k).c < 0 from h)
    have e1 : rlxN es d b (k + 1) = rlxN es d b k := h1
    rw [e1] at h ⊢
    obtain ⟨h3, h4⟩ := rlxN_c h
    refine ⟨h3, fun j e hj he => ?_⟩
    by_cases q : j = k
    · subst q
      have := h2 e he
      rw [h3] at this
      exact this
    · exact h4 j e (by omega) he
theorem RX.start {es : List Ed} {n : Nat} : RX es n 1 0 ⟨List.replicate n 0, List.replicate n (-1), -1⟩ fun _ => 0 := by
  have ed : dF (List.replicate n 0) = fun _ => 0 := by
    funext v
    unfold dF
    rw [List.getD_eq_getElem?_getD, List.getElem?_replicate]
    split <;> rfl
  have eq : qOf es (List.replicate n (-1)) = fun _ => none := by
    funext v
    unfold qOf
    rw [List.getElem?_replicate]
    split <;> rfl
  refine ⟨⟨by simp, by simp⟩, ?_, .inl (by show (-1 : Int) < 0; omega), fun v => ?_, fun p g hg hp h0 v => ?_⟩
  · show BF (eF es) 1 0 (dF (List.replicate n 0)) (qOf es (List.replicate n (-1))) _
    rw [ed, eq]
    exact BF.start
  · show dF (List.replicate n 0) v ≤ 0
    rw [ed]
    exact Int.le_refl _
  · show p v ≤ g * dF (List.replicate n 0) v
    rw [ed]
    have := h0 v
    simpa using this
/-- the next round begins -/
theorem RX.round {es : List Ed} {n r : Nat} {x : St} {last : Nat → Nat} (h : RX es n r es.length x last) : RX es n (r + 1) 0 ⟨x.d, x.b, -1⟩ last :=
  ⟨h.ok, h.bf.round fun j e z => (List.getElem?_eq_some_iff.mp z).1, .inl (by show (-1 : Int) < 0; omega), h.le, h.lb⟩
/-- THE END of m rounds from round r on -/
theorem RX.set {es : List Ed} {n : Nat} (hE : EsOk es n) : ∀ (m r : Nat) (x : St) (last : Nat → Nat), 1 ≤ r → RX es n r 0 ⟨x.d, x.b, -1⟩ last → 1 ≤ m →
    ∃ r' last', RX es n r' es.length (setN es m x) last' ∧ (((setN es m x).c < 0 ∧ Feas es (dF (setN es m x).d)) ∨ (0 ≤ (setN es m x).c ∧ r' + 1 = r + m))
  | 0, r, x, last, hr, h, hm => by omega
  | m + 1, r, x, last, hr, h, _ => by
    obtain ⟨l', h'⟩ := h.all hE hr es.length (Nat.le_refl _)
    unfold setN
    by_cases c : (rlxN es x.d x.b es.length).c < 0
    · rw [if_pos c]
      obtain ⟨e1, e2⟩ := rlxN_c c
      refine ⟨r, l', h', .inl ⟨c, fun e he => ?_⟩⟩
      obtain ⟨j, hj⟩ := List.getElem?_of_mem he
      have := e2 j e (List.getElem?_eq_some_iff.mp hj).1 hj
      rw [e1]
      exact this
    · rw [if_neg c]
      by_cases hm : m = 0
      · subst hm
        refine ⟨r, l', h', .inr ⟨?_, rfl⟩⟩
        show 0 ≤ (rlxN es x.d x.b es.length).c
        omega
      · obtain ⟨r', last', h1, h2⟩ := RX.set hE m (r + 1) (rlxN es x.d x.b es.length) l' (by omega) h'.round (by omega)
        refine ⟨r', last', h1, h2.imp id fun z => ⟨z.1, by have := z.2; omega⟩⟩
def PathE : Nat → List Ed → Nat → Prop
  | a, [], b => a = b
  | a, e :: l, b => e.s = a ∧ PathE e.t l b
theorem PathE.snoc : ∀ {a b : Nat} {l : List Ed} {e : Ed}, PathE a l b → e.s = b → PathE a (l ++ [e]) e.t
  | a, b, [], e, h, he => ⟨by rw [he]; exact (show a = b from h).symm, rfl⟩
  | a, b, f :: l, e, h, he => ⟨h.1, PathE.snoc h.2 he⟩
theorem orb_path {q : Nat → Option Ed} (hq : ∀ v e, q v = some e → e.t = v) : ∀ {m x y : Nat} {l : List Ed}, orb q m x = some (y, l) → PathE y l.reverse x
  | 0, x, y, l, h => by
    have : some (x, ([] : List Ed)) = some (y, l) := h
    cases this
    exact rfl
  | m + 1, x, y, l, h => by
    obtain ⟨e, l', h1, h3, e2⟩ := orb_succ h
    subst e2
    rw [List.reverse_cons]
    have := (orb_path hq h3).snoc (e := e) rfl
    rw [hq x e h1] at this
    exact this
theorem orb_mem {q : Nat → Option Ed} {S : List Ed} (hq : ∀ v e, q v = some e → e ∈ S) : ∀ {m x y : Nat} {l : List Ed}, orb q m x = some (y, l) → ∀ e ∈ l, e ∈ S
  | 0, x, y, l, h, e, he => by
    have : some (x, ([] : List Ed)) = some (y, l) := h
    cases this
    cases he
  | m + 1, x, y, l, h, e, he => by
    obtain ⟨f, l', h1, h3, e2⟩ := orb_succ h
    subst e2
    rcases List.mem_cons.mp he with z | z
    · rw [z]; exact hq x f h1
    · exact orb_mem hq h3 e z
theorem PathE.feas {es : List Ed} {f : Nat → Int} {c : Int} (hf : FeasC c es f) : ∀ {l : List Ed} {a b : Nat}, (∀ e ∈ l, e ∈ es) → PathE a l b → f b ≤ f a + c * wsum l
  | [], a, b, _, h => by
    have h : a = b := h
    rw [h]
    simp [wsum]
  | e :: l, a, b, hm, h => by
    have h1 := hf e (hm e List.mem_cons_self)
    have h2 := PathE.feas hf (l := l) (fun e he => hm e (List.mem_cons_of_mem _ he)) h.2
    rw [h.1] at h1
    simp only [wsum, Int.mul_add]; omega
abbrev end0 (es : List Ed) (n : Nat) : St := setN es n ⟨List.replicate n 0, List.replicate n (-1), -1⟩
/-- WHAT THE ROUNDS TELL -/
theorem rounds {es : List Ed} {n : Nat} (hE : EsOk es n) (hn : 1 ≤ n) :
    StOk (end0 es n) n ∧ (∀ v, dF (end0 es n).d v ≤ 0) ∧ (∀ (p : Nat → Int) (c : Int), 0 < c → FeasC c es p → (∀ v, p v ≤ 0) → ∀ v, p v ≤ c * dF (end0 es n).d v) ∧
    (((end0 es n).c < 0 ∧ Feas es (dF (end0 es n).d)) ∨
      ∃ v : Nat, v < n ∧ (end0 es n).c = v ∧ ∃ z l0 p m, z < n ∧ orb (qOf es (end0 es n).b) n v = some (z, l0) ∧ p ≤ n ∧ First (qOf es (end0 es n).b) z p m ∧ wsum m < 0 ∧ PathE z m.reverse z ∧ ∀ e ∈ m, e ∈ es) := by
  obtain ⟨r', last', h, hc⟩ := RX.set hE n 1 ⟨List.replicate n 0, List.replicate n (-1), -1⟩ _ (Nat.le_refl _) RX.start hn
  refine ⟨h.ok, h.le, h.lb, hc.imp id fun ⟨c0, er⟩ => ?_⟩
  rcases h.ch with z | ⟨v, hv, ec, el⟩
  · exact absurd z (by omega)
  · obtain ⟨z, l0, h1, hz, p, m, h2, h3, h4, h5⟩ := h.bf.loop (n := n) (x := v) (fun w e he => (hE.2 e (qOf_mem he)).1) hv (by omega)
    obtain ⟨p', m', h6, h7⟩ := first_of p m h2 h4
    exact ⟨v, hv, ec, z, l0, p', m', hz, h1, by omega, h7, h5 p' m' h7.1 h7.2.1, orb_path (fun w e he => (h.bf.pot w e he).1) h7.2.1, orb_mem (fun w e he => qOf_mem he) h7.2.1⟩
end Lbf

set_option Elab.async false
set_option linter.all false
set_option maxRecDepth 100000
set_option maxHeartbeats 2000000
/-! Lbf5: the edges of a system; what solve tells. -/
namespace Lbf
open PySem L2 MV Lb
theorem lcs_dvd {u : Nat} : ∀ {rs : List Rat}, (∀ r ∈ rs, r.den ∣ u) → lcs rs ∣ u
  | [], _ => by rw [lcs_nil]; exact Nat.one_dvd u
  | r :: rs, h => by
    rw [lcs_cons]
    exact Nat.lcm_dvd (h r List.mem_cons_self) (lcs_dvd fun q hq => h q (List.mem_cons_of_mem _ hq))
theorem den_dvd_lcs {r : Rat} : ∀ {rs : List Rat}, r ∈ rs → r.den ∣ lcs rs
  | q :: rs, h => by
    rw [lcs_cons]
    rcases List.mem_cons.mp h with z | z
    · rw [z]; exact Nat.dvd_lcm_left _ _
    · exact Nat.dvd_trans (den_dvd_lcs z) (Nat.dvd_lcm_right _ _)
theorem common_loopD {n u : Nat} {rs : List Rat} {s0 : Slot} {N : En} (h0 : 0 < u) (hu : u ≤ 2 ^ n) (hn : n < 5900) (hs : ∀ r ∈ rs, r.den ∣ u) (hN : ∀ s2, N.nx [s0, .own (.imm (.int (lcs rs))), s2]) :
    (forL (.nm 2) (sAsg (.nm 1) (eB cLcm (vCons true (eN 1) (vCons true (eGtN 2 (eC (.int 1))) aNil)))) (rs.map frP) [s0, .own (.imm (.int 1)), .no]).sat N := by
  refine sat_listF (fun ds ρ => ∃ s2, frees (some s2) = true ∧ ρ = [s0, .own (.imm (.int (lcs ds))), s2]) ⟨.no, rfl, by simp [lcs_nil]⟩ (fun ds r rest ρ e h => ?_) (fun ρ h => ?_)
  · obtain ⟨s2, e2, rfl⟩ := h
    have hd : lcs ds ≤ u := Nat.le_of_dvd h0 (lcs_dvd fun q hq => hs q (by rw [e]; simp [hq]))
    have hr : r.den ≤ u := Nat.le_of_dvd h0 (hs r (by rw [e]; simp))
    have ho : okLcm (lcs ds : Int) (r.den : Int) = true := okLcm_of (n := n) (Nat.le_trans hd hu) (Nat.le_trans hr hu) (by omega)
    simp [e2, ho]
    rw [lcs_snoc]
  · obtain ⟨s2, e2, rfl⟩ := h
    exact hN s2
theorem common_eqD {n u : Nat} {rs : List Rat} (h0 : 0 < u) (hu : u ≤ 2 ^ n) (hn : n < 5900) (hs : ∀ r ∈ rs, r.den ∣ u) : F_common [.own (.lst (rs.map (D.imm ∘ frP)))] = .ok (.imm (.int (lcs rs))) [.no] := by
  refine R.eq_of_sat ?_
  unfold F_common m_common
  rw [sat_runF]
  simp
  exact common_loopD h0 hu hn hs fun s2 => by simp
/-! ### edges -/
def ix (pts : List Str) (x : Str) : Nat := pts.idxOf x
def ew (sc : Nat) (r : Rat) : Int := r.num * ((sc : Int) / (r.den : Int))
def espN (pts : List Str) (ss : List Span) (sc : Nat) : Nat → List Ed
  | 0 => []
  | k + 1 => espN pts ss sc k ++ (match ss[k]? with
    | some s => [⟨ix pts s.a, ix pts s.b, ew sc s.hi, ((k : Int), 1)⟩, ⟨ix pts s.b, ix pts s.a, -ew sc s.lo, ((k : Int), -1)⟩]
    | none => [])
def scOf (ss : List Span) : Nat := lcs (ss.map (·.lo) ++ ss.map (·.hi))
def edgesOf (pts : List Str) (ss : List Span) : List Ed := espN pts ss (scOf ss) ss.length
/-- the sizes of what a system is made of -/
structure Sz (u n : Nat) (ss : List Span) : Prop where
  pos : 0 < u
  le : u ≤ 2 ^ n
  lt : n < 5900
  den : ∀ s ∈ ss, s.lo.den ∣ u ∧ s.hi.den ∣ u
  num : ∀ s ∈ ss, s.lo.num.natAbs ≤ 2 ^ n ∧ s.hi.num.natAbs ≤ 2 ^ n
variable {u n : Nat} {ss : List Span} {pts : List Str}
theorem Sz.dens (h : Sz u n ss) : ∀ r ∈ ss.map (·.lo) ++ ss.map (·.hi), r.den ∣ u := fun r hr => by
  rcases List.mem_append.mp hr with z | z
  · obtain ⟨s, hs, e⟩ := List.mem_map.mp z
    rw [← e]; exact (h.den s hs).1
  · obtain ⟨s, hs, e⟩ := List.mem_map.mp z
    rw [← e]; exact (h.den s hs).2
theorem sc_pos : 0 < scOf ss := lcs_pos _
theorem Sz.sc (h : Sz u n ss) : scOf ss ∣ u := lcs_dvd h.dens
theorem Sz.scle (h : Sz u n ss) : scOf ss ≤ 2 ^ n := Nat.le_trans (Nat.le_of_dvd h.pos h.sc) h.le
theorem den_sc {s : Span} (h : s ∈ ss) : s.lo.den ∣ scOf ss ∧ s.hi.den ∣ scOf ss :=
  ⟨den_dvd_lcs (List.mem_append_left _ (List.mem_map.mpr ⟨s, h, rfl⟩)), den_dvd_lcs (List.mem_append_right _ (List.mem_map.mpr ⟨s, h, rfl⟩))⟩
theorem espN_len {sc : Nat} : ∀ k, (espN pts ss sc k).length ≤ 2 * k
  | 0 => by simp [espN]
  | k + 1 => by
    have := espN_len (sc := sc) k
    unfold espN
    split <;> simp <;> omega
theorem espN_mem {sc : Nat} {e : Ed} : ∀ {k}, e ∈ espN pts ss sc k → ∃ (j : Nat) (s : Span), j < k ∧ ss[j]? = some s ∧ (e = ⟨ix pts s.a, ix pts s.b, ew sc s.hi, ((j : Int), 1)⟩ ∨ e = ⟨ix pts s.b, ix pts s.a, -ew sc s.lo, ((j : Int), -1)⟩)
  | 0, h => by simp [espN] at h
  | k + 1, h => by
    unfold espN at h
    rcases List.mem_append.mp h with z | z
    · obtain ⟨j, s, h1, h2, h3⟩ := espN_mem z
      exact ⟨j, s, by omega, h2, h3⟩
    · cases q : ss[k]? with
      | none => rw [q] at z; cases z
      | some s =>
        rw [q] at z
        exact ⟨k, s, by omega, q, by simpa using z⟩
theorem espN_has {sc : Nat} {j : Nat} {s : Span} (hs : ss[j]? = some s) : ∀ {k}, j < k → ⟨ix pts s.a, ix pts s.b, ew sc s.hi, ((j : Int), 1)⟩ ∈ espN pts ss sc k ∧ ⟨ix pts s.b, ix pts s.a, -ew sc s.lo, ((j : Int), -1)⟩ ∈ espN pts ss sc k
  | 0, h => by omega
  | k + 1, h => by
    unfold espN
    by_cases e : j = k
    · subst e
      rw [hs]
      simp
    · obtain ⟨h1, h2⟩ := espN_has hs (k := k) (by omega)
      exact ⟨List.mem_append_left _ h1, List.mem_append_left _ h2⟩
theorem ix_lt {x : Str} (h : x ∈ pts) : ix pts x < pts.length := List.idxOf_lt_length_of_mem h
theorem edges_ok (hk : SysOk pts ss) : EsOk (edgesOf pts ss) pts.length := by
  refine ⟨?_, fun e he => ?_⟩
  · have := espN_len (pts := pts) (ss := ss) (sc := scOf ss) ss.length
    have := hk.2.2.1
    unfold edgesOf
    omega
  · obtain ⟨j, s, _, h2, h3⟩ := espN_mem he
    obtain ⟨ha, hb⟩ := hk.2.2.2 s (List.mem_of_getElem? h2)
    rcases h3 with z | z <;> rw [z]
    · exact ⟨ix_lt ha, ix_lt hb⟩
    · exact ⟨ix_lt hb, ix_lt ha⟩
theorem ew_ok {sc : Nat} {r : Rat} (h1 : sc ≤ 2 ^ n) (h2 : r.num.natAbs ≤ 2 ^ n) (hn : n < 5900) : okMul r.num ((sc : Int) / (r.den : Int)) = true := by
  refine okMul_of (a := n) (b := n) h2 ?_ (by omega)
  rw [show (sc : Int) / (r.den : Int) = ((sc / r.den : Nat) : Int) from rfl, Int.natAbs_natCast]
  exact Nat.le_trans (Nat.div_le_self _ _) h1
theorem range_pts (nd : pts.Nodup) : (List.range pts.length).map (fun k => pts.getD k "") = pts := by
  refine List.ext_getElem? fun i => ?_
  rw [List.getElem?_map]
  by_cases h : i < pts.length
  · rw [List.getElem?_range h, Option.map_some, List.getD_eq_getElem?_getD, List.getElem?_eq_getElem h]; rfl
  · rw [List.getElem?_eq_none (by simp; omega), List.getElem?_eq_none (by omega)]; rfl
end Lbf

set_option Elab.async false
set_option linter.all false
set_option maxRecDepth 100000
set_option maxHeartbeats 2000000
/-! Lbf6: the program's edges; solve. -/
namespace Lbf
open PySem L2 MV Lb
variable {u n : Nat} {ss : List Span} {pts : List Str}
def ixD (pts : List Str) : D := .dct (pts.map .str) (pts.map fun x => .imm (.int (ix pts x)))
theorem item_ix {x : Str} (h : x ∈ pts) : item (ixD pts) (.str x) = some (.imm (.int (ix pts x))) := by
  unfold ixD
  rw [item_ds]
  exact itemD_k keyE_str (f := fun x => D.imm (.int (ix pts x))) h
@[simp] theorem rd_ix {i : Nat} : rdSlot i (.own (ixD pts)) = some (.bor (ixD pts) i) := (rfl)
theorem idx_get (nd : pts.Nodup) {k : Nat} {x : Str} (h : pts[k]? = some x) : ix pts x = k := by
  obtain ⟨hk, e⟩ := List.getElem?_eq_some_iff.mp h
  have hm : x ∈ pts := List.mem_of_getElem? h
  have h1 : ix pts x < pts.length := ix_lt hm
  have h2 : pts[ix pts x] = x := List.getElem_idxOf h1
  rcases Nat.lt_trichotomy (ix pts x) k with z | z | z
  · exact absurd (h2.trans e.symm) (List.pairwise_iff_getElem.mp (List.nodup_iff_pairwise_ne.mp nd) _ _ h1 hk z)
  · exact z
  · exact absurd (e.trans h2.symm) (List.pairwise_iff_getElem.mp (List.nodup_iff_pairwise_ne.mp nd) _ _ hk h1 z)
theorem edges_of_eq (hk : SysOk pts ss) (hz : Sz u n ss) : F_edges_of [.own (.imm (ptP pts)), .own (.imm (spsP ss))] = .ok (.imm (.tup [esP (edgesOf pts ss), .int (scOf ss)])) [.no, .no] := by
  obtain ⟨nd, hl, hss, hm⟩ := hk
  obtain ⟨rs, hrs⟩ : ∃ rs, rs = ss.map (·.lo) ++ ss.map (·.hi) := ⟨_, rfl⟩
  have ec := common_eqD hz.pos hz.le hz.lt hz.dens
  rw [← hrs] at ec
  have esc : lcs rs = scOf ss := by rw [hrs]; rfl
  rw [esc] at ec
  have ea : fAddL (.lst (ss.map fun s => D.imm (frP s.lo))) (.lst (ss.map fun s => D.imm (frP s.hi))) = some (.lst (rs.map (D.imm ∘ frP))) := by
    have := fAddL_l (f := frP) (a := ss.map (·.lo)) (b := ss.map (·.hi)) (by simp; omega)
    rw [← hrs] at this
    simpa only [List.map_map, Function.comp_def] using this
  clear hrs
  refine R.eq_of_sat ?_
  unfold F_edges_of m_edges_of
  rw [sat_runF]
  simp
  refine sat_lcM (fun s => .imm (frP s.lo)) (by rfl) (by simp [wipeS, restS]) (by simp; omega) (fun s hs => ?_) ?_
  · unfold LcStep
    simp [wipeS, spP]
  simp
  refine sat_lcM (fun s => .imm (frP s.hi)) (by rfl) (by simp [wipeS, restS]) (by simp; omega) (fun s hs => ?_) ?_
  · unfold LcStep
    simp [wipeS, spP]
  simp [ea, ec]
  refine ⟨lim62_len (by omega), ?_⟩
  rw [rngL_nat]
  have hK := range_pts nd
  refine sat_dcM keyE_str (fun k => pts.getD k "") (fun x => .imm (.int (ix pts x))) (by rfl) (by simp [wipeS, restS]) (by rw [hK]; exact nd) (by simp; omega) (fun k hk => ?_) ?_
  · have hk' := List.mem_range.mp hk
    have hg : pts[k]? = some (pts.getD k "") := by rw [List.getD_eq_getElem?_getD, List.getElem?_eq_getElem hk']; rfl
    have hi := idx_get nd hg
    rw [hi]
    generalize pts.getD k "" = x at hg
    unfold DcStep
    simp [wipeS, ptP, atI_nat, hg]
  rw [hK]
  rw [show D.dct (pts.map .str) (pts.map fun x => .imm (.int (ix pts x))) = ixD pts from rfl]
  simp
  refine ⟨lim62_len (by omega), ?_⟩
  refine sat_rng (fun k ρ => ∃ s5 s7 s8 s9 s10 s11 s12 s13, frees (some s5) = true ∧ frees (some s7) = true ∧ frees (some s8) = true ∧ frees (some s9) = true ∧ frees (some s10) = true ∧ frees (some s11) = true ∧ frees (some s12) = true ∧ frees (some s13) = true ∧
    ρ = [.own (.imm (ptP pts)), .own (.imm (spsP ss)), .own (.imm (.int (scOf ss))), .no, .own (ixD pts), s5, .own (.lst ((espN pts ss (scOf ss) k).map (D.imm ∘ edP))), s7, s8, s9, s10, s11, s12, s13]) ⟨.no, .no, .no, .no, .no, .no, .no, .no, rfl, rfl, rfl, rfl, rfl, rfl, rfl, rfl, rfl⟩ (fun k ρ hk h => ?_) (fun ρ h => ?_)
  · obtain ⟨s5, s7, s8, s9, s10, s11, s12, s13, h5, h7, h8, h9, h10, h11, h12, h13, rfl⟩ := h
    refine ⟨by simpa using h5, ?_⟩
    have hk' : k < ss.length := hk
    have hg : ss[k]? = some ss[k] := List.getElem?_eq_getElem hk'
    have hmem : ss[k] ∈ ss := List.getElem_mem hk'
    generalize ss[k] = s at hg hmem
    obtain ⟨ha, hb⟩ := hm s hmem
    obtain ⟨n1, n2⟩ := hz.num s hmem
    have o1 := ew_ok hz.scle n1 hz.lt
    have o2 := ew_ok hz.scle n2 hz.lt
    have d1 := okDiv_of (n := n) (den_pos s.lo) (Nat.le_trans (Nat.le_of_dvd hz.pos (hz.den s hmem).1) hz.le) (by have := hz.lt; omega)
    have d2 := okDiv_of (n := n) (den_pos s.hi) (Nat.le_trans (Nat.le_of_dvd hz.pos (hz.den s hmem).2) hz.le) (by have := hz.lt; omega)
    have hl1 : (espN pts ss (scOf ss) k).length ≤ 2 * k := espN_len k
    have hes : espN pts ss (scOf ss) (k + 1) = espN pts ss (scOf ss) k ++ [⟨ix pts s.a, ix pts s.b, ew (scOf ss) s.hi, ((k : Int), 1)⟩, ⟨ix pts s.b, ix pts s.a, -ew (scOf ss) s.lo, ((k : Int), -1)⟩] := by
      rw [espN, hg]
    rw [hes]
    generalize espN pts ss (scOf ss) k = E at hl1
    unfold b_edges_of_1
    simp [spP, atI_nat, hg, h7, h8, h9, h10, h11, h12, h13, o1, o2, d1, d2, item_ix ha, item_ix hb]
    refine ⟨by omega, by omega, _, ?_, _, ?_, _, ?_, _, ?_, _, ?_, _, ?_, _, ?_, _, ?_, rfl, ⟨rfl, rfl⟩, rfl, rfl, rfl, rfl, rfl, rfl, rfl⟩ <;> rfl
  · obtain ⟨s5, s7, s8, s9, s10, s11, s12, s13, h5, h7, h8, h9, h10, h11, h12, h13, rfl⟩ := h
    simp [edgesOf]
/-! ### solve -/
def posOf (pts : List Str) (d : List Int) (sc : Nat) (p : Str) : Rat := Rat.divInt (dF d (ix pts p)) sc
theorem positions_eq {d : List Int} {sc : Nat} (nd : pts.Nodup) (hl : pts.length ≤ 1000) (hd : d.length = pts.length) (h0 : 0 < sc) (hs : sc ≤ 2 ^ n) (hn : n < 5900) : F_positions [.own (.imm (ptP pts)), .ro (ilD d), .own (.imm (.int sc))] = .ok (.imm (rowsP pts (posOf pts d sc))) [.no, .no, .no] := by
  refine R.eq_of_sat ?_
  unfold F_positions m_positions
  rw [sat_runF]
  simp
  refine ⟨lim62_len (by omega), ?_⟩
  rw [rngL_nat]
  have hK := range_pts nd
  refine sat_lcM (fun k => .imm (rowP (posOf pts d sc) (pts.getD k ""))) (by rfl) (by simp [wipeS, restS]) (by simp; omega) (fun k hk => ?_) ?_
  · have hk' := List.mem_range.mp hk
    have hg : pts[k]? = some (pts.getD k "") := by rw [List.getD_eq_getElem?_getD, List.getElem?_eq_getElem hk']; rfl
    have hi := idx_get nd hg
    have hdk := getD_get (l := d) (i := k) (by omega)
    unfold rowP posOf dF
    rw [hi]
    generalize pts.getD k "" = x at hg
    generalize d.getD k 0 = y at hdk
    have ef := fraction_eq (p := y) (q := (sc : Int)) (n := n) (by omega) (by simpa using hs) (by omega)
    unfold LcStep
    simp [wipeS, ptP, atI_nat, hg, hdk, ef]
  · have e : (List.range pts.length).map (fun k => D.imm (rowP (posOf pts d sc) (pts.getD k ""))) = pts.map (D.imm ∘ rowP (posOf pts d sc)) := by
      have := congrArg (List.map (D.imm ∘ rowP (posOf pts d sc))) hK
      rw [List.map_map] at this
      exact this
    rw [e]
    simp
theorem solve_pre {Q : D → List Slot → Prop} (hk : SysOk pts ss) (hz : Sz u n ss) (hp : 1 ≤ pts.length)
    (h : ((end0 (edgesOf pts ss) pts.length).c < 0 → Q (.imm (.tup [.str "set", rowsP pts (posOf pts (end0 (edgesOf pts ss) pts.length).d (scOf ss))])) [.no, .no]) ∧
      (∀ (v z p : Nat) (l0 m : List Ed), (end0 (edgesOf pts ss) pts.length).c = v → orb (qOf (edgesOf pts ss) (end0 (edgesOf pts ss) pts.length).b) pts.length v = some (z, l0) → p ≤ pts.length → First (qOf (edgesOf pts ss) (end0 (edgesOf pts ss) pts.length).b) z p m →
        wsum m < 0 → PathE z m.reverse z → (∀ e ∈ m, e ∈ edgesOf pts ss) → Q (.imm (.tup [.str "loop", .tup (m.reverse.map fun e => stP e.tag)])) [.no, .no])) :
    (F_solve [.own (.imm (ptP pts)), .own (.imm (spsP ss))]).sat Q := by
  obtain ⟨h1, h2⟩ := h
  have eE := edges_of_eq hk hz
  have hE := edges_ok hk
  obtain ⟨ok, _, _, hc⟩ := rounds hE hp
  have es : F_settle [.pin (ilD (List.replicate pts.length 0)), .pin (ilD (List.replicate pts.length (-1))), .own (.imm (esP (edgesOf pts ss)))] = .ok (.imm (.int (end0 (edgesOf pts ss) pts.length).c)) [.pin (ilD (end0 (edgesOf pts ss) pts.length).d), .pin (ilD (end0 (edgesOf pts ss) pts.length).b), .no] :=
    settle_eq (d := List.replicate pts.length 0) (b := List.replicate pts.length (-1)) hE (by have := hk.2.1; omega) (by simp) (by simp)
  have eP := positions_eq (d := (end0 (edgesOf pts ss) pts.length).d) hk.1 (by have := hk.2.1; omega) ok.1 sc_pos hz.scle hz.lt
  have hcs := check_system_eq hk
  generalize end0 (edgesOf pts ss) pts.length = r at h1 h2 ok hc es eP
  obtain ⟨nd, hl, hss, hm⟩ := hk
  have e0 : pts.map (fun _ => D.imm (.int 0)) = (List.replicate pts.length (0 : Int)).map (D.imm ∘ P.int) := by rw [List.map_const', List.map_replicate]; rfl
  have e1 : pts.map (fun _ => D.imm (.int (-1))) = (List.replicate pts.length (-1 : Int)).map (D.imm ∘ P.int) := by rw [List.map_const', List.map_replicate]; rfl
  unfold F_solve m_solve
  rw [sat_runF]
  simp [hcs, eE]
  refine sat_lcM (fun _ => .imm (.int 0)) (by rfl) (by simp [wipeS, restS]) (by simp; omega) (fun x hx => ?_) ?_
  · unfold LcStep
    simp [wipeS]
  rw [e0]
  generalize List.replicate pts.length (0 : Int) = d0 at es
  simp
  refine sat_lcM (fun _ => .imm (.int (-1))) (by rfl) (by simp [wipeS, restS]) (by simp; omega) (fun x hx => ?_) ?_
  · unfold LcStep
    simp [wipeS]
  rw [e1]
  generalize List.replicate pts.length (-1 : Int) = b0 at es
  simp [es]
  refine ⟨fun hge => ?_, fun hlt => ?_⟩
  · rcases hc with ⟨z, _⟩ | ⟨v, hv, ec, z, l0, p, m, hzl, h3, h4, h5, h6, h7, h8⟩
    · omega
    · have el := loop_through_eq (es := edgesOf pts ss) (b := r.b) (n := pts.length) (by omega) h3 h4 h5
      have := h2 v z p l0 m ec h3 h4 h5 h6 h7 h8
      rw [ec]
      generalize m.reverse = M at el this
      simp [el]
      simpa using this
  · have := h1 hlt
    simp [eP]
    exact this
end Lbf

set_option Elab.async false
set_option linter.all false
set_option maxRecDepth 100000
/-! What the defs of the text compute, over data. Printed by gen.py. -/
namespace K22
open PySem L2 MV
def m__law_unit : MS := (sSeq (sAsg (.nm 1) (eGt false (eLst (aCons (eC (.int 1)) (aCons (eC (.int 1)) (aCons (eC (.int 1)) (aCons (e2 true fAddL (e2 true fPow (eC (.int 10)) (eC (.int 20))) (eC (.int 39))) aNil))))) (eCall [some (0, true), none] Jar.F_take (lLent 0 (lOwn (eC (.int 4)) lNil)))))
    (sRet (eTup (aCons (eM 1) (aCons (eGt false (eLst (aCons (eC (.int 1)) (aCons (eC (.int 2)) (aCons (eC (.int 3)) (aCons (e2 true fAddL (e2 true fPow (eC (.int 10)) (eC (.int 15))) (eC (.int 37))) aNil))))) (eCall [some (0, true), none] Jar.F_take (lLent 0 (lOwn (eC (.int 4)) lNil)))) aNil)))))
def F__law_unit : FS := runF 2 m__law_unit
def b__law_hung_1 : MS := (sSeq (sAsg (.nm 6) (e2 true fMod (eB cInt (vCons true (e2 true fAddL (eN 2) (eN 5)) aNil)) (eN 3)))
      (sSeq (sAsg (.nm 7) (e2 true fMod (eB cInt (vCons true (e2 false fAddL (eN 2) (eCall [some (0, true), some (5, false)] Jar.F_take (lLent 0 (lLent 5 lNil)))) aNil)) (eN 3)))
      (sSeq (sAsg (.nm 8) (e2 true fSub (eGtN 1 (eN 6)) (eGtN 1 (eN 7))))
      (sSeq (sAsg (.nm 9) (eCall [some (0, true), none] Jar.F_take (lLent 0 (lOwn (eC (.int 4)) lNil))))
      (sIf (toB (e2 true fEq (eCall [some (0, true), none] Jar.F_take (lLent 0 (lOwn (eC (.int 2)) lNil))) (eC (.int 0)))) (sApp 4 (eTup (aCons (eGt false (eLst (aCons (eC (.str "w")) (aCons (eC (.str "dim")) (aCons (eC (.str "w")) aNil)))) (eCall [some (0, true), none] Jar.F_take (lLent 0 (lOwn (eC (.int 3)) lNil)))) (aCons (eM 7) (aCons (eM 6) (aCons (e2 true fSub (eN 8) (eN 9)) (aCons (eM 8) aNil))))))) (sApp 4 (eTup (aCons (eGt false (eLst (aCons (eC (.str "w")) (aCons (eC (.str "dim")) (aCons (eC (.str "w")) aNil)))) (eCall [some (0, true), none] Jar.F_take (lLent 0 (lOwn (eC (.int 3)) lNil)))) (aCons (eM 6) (aCons (eM 7) (aCons (e2 true fSub (eC (.int 0)) (eN 8)) (aCons (e2 true fSub (eN 9) (eN 8)) aNil))))))))))))
def m__law_hung : MS := (sSeq (sAsg (.nm 3) (eB cLen (vCons true (eN 1) aNil)))
    (sSeq (sAsg (.nm 4) (eLst aNil))
    (sSeq (sFor (.nm 5) (iRg rng2 (vCons true (eC (.int 1)) (vCons true (eN 3) aNil))) b__law_hung_1)
    (sRet (eM 4)))))
def F__law_hung : FS := runF 10 m__law_hung
def m__law_loose : MS := (sSeq (sAsg (.nm 2) (eCall [some (0, true), none] Jar.F_take (lLent 0 (lOwn (eB cLen (vCons true (eN 1) aNil)) lNil))))
    (sSeq (sAsg (.nm 3) (eCall [some (0, true), none] Jar.F_take (lLent 0 (lOwn (eB cLen (vCons true (eN 1) aNil)) lNil))))
    (sSeq (sAsg (.nm 4) (e2 true fSub (eGtN 1 (eN 3)) (eGtN 1 (eN 2))))
    (sRet (eTup (aCons (eGt false (eLst (aCons (eC (.str "w")) (aCons (eC (.str "n")) aNil))) (eCall [some (0, true), none] Jar.F_take (lLent 0 (lOwn (eC (.int 2)) lNil)))) (aCons (eM 2) (aCons (eM 3) (aCons (e2 false fSub (eN 4) (eCall [some (0, true), none] Jar.F_take (lLent 0 (lOwn (eC (.int 4)) lNil)))) (aCons (e2 false fAddL (eN 4) (eCall [some (0, true), none] Jar.F_take (lLent 0 (lOwn (eC (.int 4)) lNil)))) aNil))))))))))
def F__law_loose : FS := runF 5 m__law_loose
def b__law_rows_1 : MS := (sApp 4 (eCall [some (0, true), some (1, false)] F__law_loose (lLent 0 (lLent 1 lNil))))
def b__law_rows_2 : MS := (sSeq (sAsg (.tup [7, 8, 9, 10, 11]) (eGtN 4 (eCall [some (0, true), none] Jar.F_take (lLent 0 (lOwn (eB cLen (vCons true (eN 4) aNil)) lNil)))))
        (sApp 4 (eTup (aCons (eM 7) (aCons (eM 9) (aCons (eM 8) (aCons (e2 true fSub (eC (.int 0)) (eN 11)) (aCons (e2 true fSub (eC (.int 0)) (eN 10)) aNil))))))))
def t__law_rows_3 : MS := (sSeq (sAsg (.nm 12) (eCall [some (0, true), none] Jar.F_take (lLent 0 (lOwn (e2 true fAddL (eB cLen (vCons true (eN 4) aNil)) (eC (.int 1))) lNil))))
    (sSeq (sAsg (.nm 4) (e2 true fAddL (eSl true true (eN 4) (oSome (eN 12)) oNone) (eSl true true (eN 4) oNone (oSome (eN 12)))))
    (sSeq (sIf (toB (e2 true fEq (eCall [some (0, true), none] Jar.F_take (lLent 0 (lOwn (eC (.int 2)) lNil))) (eC (.int 1)))) (sAsg (.nm 4) (e1 fRev (eN 4))) sNx)
    (sRet (eM 4)))))
def t__law_rows_4 : MS := (sSeq (sIf (tAnd' (tNot' (eTru (eN 3))) (toB (e2 true fGt (eB cLen (vCons true (eN 4) aNil)) (eC (.int 0))))) (sFor (.nm 6) (iRg rng1 (vCons true (eCall [some (0, true), none] Jar.F_take (lLent 0 (lOwn (eC (.int 5)) lNil))) aNil)) b__law_rows_2) sNx)
    t__law_rows_3)
def t__law_rows_5 : MS := (sSeq (sFor (.nm 6) (iRg rng1 (vCons true (eN 5) aNil)) b__law_rows_1)
    t__law_rows_4)
def m__law_rows : MS := (sSeq (sAsg (.nm 4) (eCall [some (0, true), some (1, false), some (2, false)] F__law_hung (lLent 0 (lLent 1 (lLent 2 lNil)))))
    (sSeq (sAsg (.nm 5) (eCall [some (0, true), none] Jar.F_take (lLent 0 (lOwn (eC (.int 6)) lNil))))
    (sSeq (sIf (eTru (eN 3)) (sAsg (.nm 5) (e2 true fSub (eC (.int 199)) (eB cLen (vCons true (eN 4) aNil)))) sNx)
    t__law_rows_5)))
def F__law_rows : FS := runF 13 m__law_rows
def t__law_is_round_1 : MS := (sSeq (sAsg (.nm 5) (eM 8))
      (sAsg (.nm 3) (e2 true fAddL (eN 3) (eN 9))))
def t__law_is_round_2 : MS := (sSeq (sIf (toB (e2 true fLt (eN 4) (eC (.int 0)))) (sAsg (.nm 4) (eM 7)) (sIf (toB (e2 true fNe (eN 7) (eN 5))) (sRet (eC (.bl false))) sNx))
      t__law_is_round_1)
def t__law_is_round_3 : MS := (sSeq (sPar3 7 8 9 (aCons (eGt true (eGtN 0 (eGtN 6 (eC (.int 0)))) (eC (.int 1))) (aCons (eGt true (eGtN 0 (eGtN 6 (eC (.int 0)))) (eC (.int 2))) (aCons (eGt true (eGtN 0 (eGtN 6 (eC (.int 0)))) (eC (.int 4))) aNil))))
      (sSeq (sIf (toB (e2 true fEq (eGtN 6 (eC (.int 1))) (e1 fNeg (eC (.int 1))))) (sPar3 7 8 9 (aCons (eGt true (eGtN 0 (eGtN 6 (eC (.int 0)))) (eC (.int 2))) (aCons (eGt true (eGtN 0 (eGtN 6 (eC (.int 0)))) (eC (.int 1))) (aCons (e2 true fSub (eC (.int 0)) (eGt true (eGtN 0 (eGtN 6 (eC (.int 0)))) (eC (.int 3)))) aNil)))) sNx)
      t__law_is_round_2))
def b__law_is_round_4 : MS := (sSeq (sIf (tOr' (tNot' (eTru (e1 (fIsi "tuple") (eN 6)))) (tOr' (toB (e2 true fNe (eB cLen (vCons true (eN 6) aNil)) (eC (.int 2)))) (tOr' (tNot' (eTru (eCall [none] Lb.F__law_is_whole (lOwn (eGtN 6 (eC (.int 0))) lNil)))) (tNot' (eTru (eCall [none] Lb.F__law_is_whole (lOwn (eGtN 6 (eC (.int 1))) lNil))))))) (sRet (eC (.bl false))) sNx)
      (sSeq (sIf (tOr' (toB (e2 true fLt (eGtN 6 (eC (.int 0))) (eC (.int 0)))) (tOr' (toB (e2 true fGe (eGtN 6 (eC (.int 0))) (eB cLen (vCons true (eN 0) aNil)))) (tAnd' (toB (e2 true fNe (eGtN 6 (eC (.int 1))) (eC (.int 1)))) (toB (e2 true fNe (eGtN 6 (eC (.int 1))) (e1 fNeg (eC (.int 1)))))))) (sRet (eC (.bl false))) sNx)
      t__law_is_round_3))
def m__law_is_round : MS := (sSeq (sIf (tOr' (tNot' (eTru (e1 (fIsi "tuple") (eN 1)))) (tOr' (toB (e2 true fNe (eB cLen (vCons true (eN 1) aNil)) (eC (.int 2)))) (tNot' (eTru (eCall [none, none] (Lb.F__law_same 8) (lOwn (eGtN 1 (eC (.int 0))) (lOwn (eC (.str "loop")) lNil))))))) (sRet (eC (.bl false))) sNx)
    (sSeq (sAsg (.nm 2) (eGtN 1 (eC (.int 1))))
    (sSeq (sIf (tOr' (tNot' (eTru (e1 (fIsi "tuple") (eN 2)))) (tOr' (toB (e2 true fLt (eB cLen (vCons true (eN 2) aNil)) (eC (.int 1)))) (toB (e2 true fGt (eB cLen (vCons true (eN 2) aNil)) (eC (.int 60)))))) (sRet (eC (.bl false))) sNx)
    (sSeq (sAsg (.nm 3) (eC (.int 0)))
    (sSeq (sAsg (.nm 4) (e1 fNeg (eC (.int 1))))
    (sSeq (sAsg (.nm 5) (e1 fNeg (eC (.int 1))))
    (sSeq (sFor (.nm 6) (iSq (eN 2)) b__law_is_round_4)
    (sRet (eAnd (e2 true fEq (eN 5) (eN 4)) (e2 true fLt (eN 3) (eC (.int 0))))))))))))
def F__law_is_round : FS := runF 10 m__law_is_round
def b_law_1 : MS := (sIf (tNot' (eTru (eCall [none, some (12, false)] (Lb.F__law_same 8) (lOwn (eCall [some (9, false), none] Lb.F_solve (lLent 9 (lOwn (eCall [some (15, false), some (9, false), some (5, false)] Lb.F__law_spans (lLent 15 (lLent 9 (lLent 5 lNil)))) lNil))) (lLent 12 lNil))))) (sRet (eC (.bl false))) sNx)
def t_law_2 : MS := (sSeq (sAsg (.nm 16) (eCall [some (14, false), some (9, false), some (5, false)] Lb.F__law_spans (lLent 14 (lLent 9 (lLent 5 lNil)))))
    (sSeq (sIf (tOr' (toB (e2 true fNotB (eCall [some (9, false), some (16, false), some (12, false)] Lb.F_is_set (lLent 9 (lLent 16 (lLent 12 lNil)))) (eC (.bl true)))) (toB (e2 true fNotB (eCall [some (9, false), some (16, false), some (12, false)] Lb.F_is_loop (lLent 9 (lLent 16 (lLent 12 lNil)))) (eC (.bl false))))) (sRet (eC (.bl false))) sNx)
    (sSeq (sIf (eTru (eN 2)) (sRet (eC (.bl true))) sNx)
    (sSeq (sAsg (.nm 10) (eCall [some (1, true), some (3, false)] Jar.F_take (lLent 1 (lLent 3 lNil))))
    (sSeq (sAsg (.nm 17) (e2 true fAddL (e2 false fAddL (eSl true true (eN 11) oNone (oSome (eN 13))) (eLst (aCons (eTup (aCons (eC (.str "w")) (aCons (eM 4) (aCons (eM 10) (aCons (e2 true fAddL (eGtN 6 (eN 10)) (eC (.int 1))) (aCons (e2 false fAddL (e2 true fAddL (eGtN 6 (eN 10)) (eC (.int 1))) (eCall [some (1, true), none] Jar.F_take (lLent 1 (lOwn (eC (.int 3)) lNil)))) aNil)))))) aNil))) (eSl true true (eN 11) (oSome (eN 13)) oNone)))
    (sSeq (sAsg (.nm 16) (eCall [some (17, false), some (9, false), some (5, false)] Lb.F__law_spans (lLent 17 (lLent 9 (lLent 5 lNil)))))
    (sRet (eAnd (eCall [some (17, false), none] F__law_is_round (lLent 17 (lOwn (eCall [some (9, false), some (16, false)] Lb.F_solve (lLent 9 (lLent 16 lNil))) lNil))) (e2 true fIsB (eCall [some (9, false), some (16, false), some (12, false)] Lb.F_is_set (lLent 9 (lLent 16 (lLent 12 lNil)))) (eC (.bl false)))))))))))
def t_law_3 : MS := (sSeq (sAsg (.nm 4) (eCall [some (1, true), some (3, false)] Jar.F_take (lLent 1 (lLent 3 lNil))))
    (sSeq (sAsg (.nm 5) (eCall [some (1, true)] F__law_unit (lLent 1 lNil)))
    (sSeq (sAsg (.nm 6) (eLc (.nm 7) [7] (iRg rng1 (vCons true (eN 3) aNil)) (fun ρ => .ok true ρ) (e2 false fSub (eC (.int 0)) (eCall [some (1, true), none] Jar.F_take (lLent 1 (lOwn (eC (.int 30)) lNil))))))
    (sSeq (sLput 6 (eN 4) (eC (.int 0)))
    (sSeq (sAsg (.nm 8) (eGt false (eLst (aCons (eC (.str "p")) (aCons (eC (.str "a.b")) (aCons (eC (.str "0")) aNil)))) (eCall [some (1, true), none] Jar.F_take (lLent 1 (lOwn (eC (.int 3)) lNil)))))
    (sSeq (sAsg (.nm 9) (eB cTuple (vCons true (eLc (.nm 10) [10] (iRg rng1 (vCons true (eN 3) aNil)) (fun ρ => .ok true ρ) (e2 true fAddL (eN 8) (eB cStr (vCons true (eN 10) aNil)))) aNil)))
    (sSeq (sAsg (.nm 11) (eCall [some (1, true), some (6, false), some (4, false), some (2, false)] F__law_rows (lLent 1 (lLent 6 (lLent 4 (lLent 2 lNil))))))
    (sSeq (sAsg (.nm 12) (eTup (aCons (eC (.str "set")) (aCons (eB cTuple (vCons true (eLc (.nm 10) [10] (iRg rng1 (vCons true (eN 3) aNil)) (fun ρ => .ok true ρ) (eTup (aCons (eGtN 9 (eN 10)) (aCons (eCall [none, none] Lb.F__law_lowest (lOwn (e2 true fMul (eGtN 6 (eN 10)) (eGtN 5 (eC (.int 0)))) (lOwn (eGtN 5 (eC (.int 1))) lNil))) aNil)))) aNil)) aNil))))
    (sSeq (sAsg (.nm 13) (eCall [some (1, true), none] Jar.F_take (lLent 1 (lOwn (e2 true fAddL (eB cLen (vCons true (eN 11) aNil)) (eC (.int 1))) lNil))))
    (sSeq (sAsg (.nm 14) (e2 true fAddL (e2 false fAddL (eSl true true (eN 11) oNone (oSome (eN 13))) (eLst (aCons (eCall [some (1, true), some (6, false)] F__law_loose (lLent 1 (lLent 6 lNil))) aNil))) (eSl true true (eN 11) (oSome (eN 13)) oNone)))
    (sSeq (sFor (.nm 15) (iSq (eLst (aCons (eFz 11) (aCons (eFv (e1 fRev (eN 11))) (aCons (eFz 14) aNil))))) b_law_1)
    t_law_2)))))))))))
def m_law : MS := (sSeq (sAsg (.nm 1) (eCall [some (0, false), none] Jar.F_jar (lLent 0 (lOwn (eC (.int 900)) lNil))))
    (sSeq (sAsg (.nm 2) (e2 true fEq (eCall [some (1, true), none] Jar.F_take (lLent 1 (lOwn (eC (.int 8)) lNil))) (eC (.int 3))))
    (sSeq (sAsg (.nm 3) (e2 false fAddL (eC (.int 1)) (eCall [some (1, true), none] Jar.F_take (lLent 1 (lOwn (eC (.int 6)) lNil)))))
    (sSeq (sIf (eTru (eN 2)) (sAsg (.nm 3) (e2 false fAddL (eC (.int 20)) (eCall [some (1, true), none] Jar.F_take (lLent 1 (lOwn (eC (.int 41)) lNil))))) sNx)
    t_law_3))))
def F_law : FS := runF 18 m_law
end K22

set_option Elab.async false
set_option linter.all false
set_option maxRecDepth 100000
set_option maxHeartbeats 2000000
/-! k22, plain: rows of whole numbers, their spans. -/
namespace K22
open PySem L2 MV Lb Lbf
structure Row where
  nm : Str
  a : Nat
  b : Nat
  lo : Int
  hi : Int
def rwP (r : Row) : P := .tup [.str r.nm, .int r.a, .int r.b, .int r.lo, .int r.hi]
def ptOf (pts : List Str) (k : Nat) : Str := pts.getD k ""
def spanOf (pts : List Str) (u0 u1 : Int) (r : Row) : Span := ⟨r.nm, ptOf pts r.a, ptOf pts r.b, Rat.divInt (r.lo * u0) u1, Rat.divInt (r.hi * u0) u1⟩
theorem pt_get {pts : List Str} {k : Nat} (h : k < pts.length) : pts[k]? = some (ptOf pts k) := by
  unfold ptOf
  rw [List.getD_eq_getElem?_getD, List.getElem?_eq_getElem h]
  rfl
theorem pt_mem {pts : List Str} {k : Nat} (h : k < pts.length) : ptOf pts k ∈ pts := List.mem_of_getElem? (pt_get h)
theorem item_pts {pts : List Str} {k : Nat} (h : k < pts.length) : atI (pts.map P.str) (k : Int) = some (.str (ptOf pts k)) := by
  rw [Lbf.atI_nat, List.getElem?_map, pt_get h]
  rfl
/-- the sizes of rows -/
def RowZ (n : Nat) (rows : List Row) : Prop := rows.length ≤ 1000 ∧ ∀ r ∈ rows, r.a < n ∧ r.b < n ∧ r.lo.natAbs ≤ 100 ∧ r.hi.natAbs ≤ 100
structure UOk (u0 u1 : Int) : Prop where
  p0 : 1 ≤ u0
  l0 : u0 ≤ 2 ^ 70
  p1 : 1 ≤ u1
  l1 : u1 ≤ 2 ^ 60
variable {u0 u1 : Int}
theorem UOk.num (hu : UOk u0 u1) {x : Int} (hx : x.natAbs ≤ 100) : (x * u0).natAbs ≤ 2 ^ 77 := by
  rw [Int.natAbs_mul]
  have h0 : u0.natAbs ≤ 2 ^ 70 := by have := hu.p0; have := hu.l0; omega
  exact Nat.le_trans (Nat.mul_le_mul hx h0) (by decide)
theorem UOk.den (hu : UOk u0 u1) : u1.natAbs ≤ 2 ^ 60 := by have := hu.p1; have := hu.l1; omega
theorem UOk.mul (hu : UOk u0 u1) {x : Int} (hx : x.natAbs ≤ 100) : okMul x u0 = true := by
  have h0 : u0.natAbs ≤ 2 ^ 70 := by have := hu.p0; have := hu.l0; omega
  exact okMul_of (a := 7) (b := 70) (by omega) h0 (by omega)
theorem UOk.lowest (hu : UOk u0 u1) {x : Int} (hx : x.natAbs ≤ 100) : F__law_lowest [.own (.imm (.int (x * u0))), .own (.imm (.int u1))] = .ok (.imm (frP (Rat.divInt (x * u0) u1))) [.no, .no] :=
  lowest_eq (x := 77) (y := 60) (by have := hu.p1; omega) (hu.num hx) hu.den (by omega)
theorem UOk.md (hu : UOk u0 u1) {x : Int} (hx : x.natAbs ≤ 100) : Md 77 (Rat.divInt (x * u0) u1) :=
  Md.divInt (by have := hu.p1; omega) (hu.num hx) (Nat.le_trans hu.den (by decide))
theorem spans_loop {pts : List Str} {rows : List Row} {s0 : MV.Slot} {N : En} (hu : UOk u0 u1) (hr : RowZ pts.length rows)
    (hN : ∀ s4 s5 s6 s7 s8 s9 s10, N.nx [s0, .own (.imm (ptP pts)), .own (.imm (.tup [.int u0, .int u1])), .own (.lst ((rows.map (spanOf pts u0 u1)).map (D.imm ∘ spP))), s4, s5, s6, s7, s8, s9, s10]) :
    (forL (.tup [4, 5, 6, 7, 8]) b__law_spans_1 (rows.map rwP) [s0, .own (.imm (ptP pts)), .own (.imm (.tup [.int u0, .int u1])), .own (.lst []), .no, .no, .no, .no, .no, .no, .no]).sat N := by
  refine sat_listF (fun ds ρ => ∃ s4 s5 s6 s7 s8 s9 s10, frees (some s4) = true ∧ frees (some s5) = true ∧ frees (some s6) = true ∧ frees (some s7) = true ∧ frees (some s8) = true ∧ frees (some s9) = true ∧ frees (some s10) = true ∧
    ρ = [s0, .own (.imm (ptP pts)), .own (.imm (.tup [.int u0, .int u1])), .own (.lst ((ds.map (spanOf pts u0 u1)).map (D.imm ∘ spP))), s4, s5, s6, s7, s8, s9, s10]) ⟨.no, .no, .no, .no, .no, .no, .no, rfl, rfl, rfl, rfl, rfl, rfl, rfl, rfl⟩ (fun ds r rest ρ e h => ?_) (fun ρ h => ?_)
  · obtain ⟨s4, s5, s6, s7, s8, s9, s10, h4, h5, h6, h7, h8, h9, h10, rfl⟩ := h
    obtain ⟨ha, hb, hlo, hhi⟩ := hr.2 r (by rw [e]; simp)
    have hl : ds.length < 16777216 := by
      have := congrArg List.length e
      rw [List.length_append] at this
      have := hr.1
      omega
    unfold b__law_spans_1
    simp [rwP, h4, h5, h6, h7, h8, h9, h10, hu.mul hlo, hu.mul hhi, hu.lowest hlo, hu.lowest hhi, ptP, item_pts ha, item_pts hb, hl]
    simp [spP, spanOf, Function.comp_def]
    exact ⟨_, rfl, _, rfl, _, rfl, _, rfl, _, rfl, _, rfl, _, rfl, rfl, rfl, rfl, rfl, rfl, rfl, rfl⟩
  · obtain ⟨s4, s5, s6, s7, s8, s9, s10, _, _, _, _, _, _, _, rfl⟩ := h
    exact hN _ _ _ _ _ _ _
theorem spans_eq {pts : List Str} {rows : List Row} {lf : Lf} (hi : lf.it = true) (hu : UOk u0 u1) (hr : RowZ pts.length rows) : F__law_spans [lf.at rwP rows, .own (.imm (ptP pts)), .own (.imm (.tup [.int u0, .int u1]))] = .ok (.imm (spsP (rows.map (spanOf pts u0 u1)))) [.no, .no, .no] := by
  refine R.eq_of_sat ?_
  unfold F__law_spans m__law_spans
  rw [sat_runF]
  simp [hi]
  refine spans_loop hu hr ?_
  intros
  simp
/-! ### the spans' sizes -/
theorem rows_sys {pts : List Str} {rows : List Row} (nd : pts.Nodup) (hp : pts.length ≤ 60) (hl : rows.length ≤ 200) (hr : RowZ pts.length rows) : SysOk pts (rows.map (spanOf pts u0 u1)) := by
  refine ⟨nd, hp, by simpa using hl, fun s hs => ?_⟩
  obtain ⟨r, hm, rfl⟩ := List.mem_map.mp hs
  obtain ⟨ha, hb, _⟩ := hr.2 r hm
  exact ⟨pt_mem ha, pt_mem hb⟩
theorem rows_sp {pts : List Str} {rows : List Row} (hu : UOk u0 u1) (hr : RowZ pts.length rows) : SpOk 77 (rows.map (spanOf pts u0 u1)) := fun s hs => by
  obtain ⟨r, hm, rfl⟩ := List.mem_map.mp hs
  obtain ⟨_, _, h1, h2⟩ := hr.2 r hm
  exact ⟨hu.md h1, hu.md h2⟩
theorem den_dvd {p q : Int} (hq : 0 < q) : (Rat.divInt p q).den ∣ q.natAbs := by
  have h := fr_den (p := p) hq
  have hd : ((Nat.gcd p.natAbs q.natAbs : Nat) : Int) ∣ q := by
    exact Int.ofNat_dvd_left.mpr (Nat.gcd_dvd_right _ _)
  have h2 := Int.ediv_mul_cancel hd
  rw [h] at h2
  have h3 : ((Rat.divInt p q).den : Int) ∣ q := ⟨_, h2.symm⟩
  exact Int.ofNat_dvd_left.mp h3
theorem rows_sz {pts : List Str} {rows : List Row} (hu : UOk u0 u1) (hr : RowZ pts.length rows) : Sz u1.natAbs 77 (rows.map (spanOf pts u0 u1)) := by
  have hp := hu.p1
  refine ⟨by omega, Nat.le_trans hu.den (by decide), by decide, fun s hs => ?_, fun s hs => ?_⟩
  · obtain ⟨r, hm, rfl⟩ := List.mem_map.mp hs
    exact ⟨den_dvd (by omega), den_dvd (by omega)⟩
  · obtain ⟨r, hm, rfl⟩ := List.mem_map.mp hs
    obtain ⟨_, _, h1, h2⟩ := hr.2 r hm
    exact ⟨(hu.md h1).1, (hu.md h2).1⟩
/-- what an edge weighs, times the unit's lower part -/
theorem ew_eq {sc : Nat} {x : Int} (hu : UOk u0 u1) (hd : (Rat.divInt (x * u0) u1).den ∣ sc) : ew sc (Rat.divInt (x * u0) u1) * u1 = x * (u0 * sc) := by
  have hp := hu.p1
  unfold ew
  obtain ⟨q, hq⟩ := hd
  have dp := den_pos (Rat.divInt (x * u0) u1)
  have e1 : (sc : Int) / ((Rat.divInt (x * u0) u1).den : Int) = q := by
    rw [hq, Int.natCast_mul]
    exact Int.mul_ediv_cancel_left _ (by omega)
  rw [e1]
  have e2 : (Rat.divInt (x * u0) u1).num * u1 = (x * u0) * ((Rat.divInt (x * u0) u1).den : Int) := by
    have := Rat.num_divInt_den (Rat.divInt (x * u0) u1)
    exact (Rat.divInt_eq_divInt_iff (by omega) (by omega)).mp this
  have e3 : (sc : Int) = ((Rat.divInt (x * u0) u1).den : Int) * (q : Int) := by rw [hq, Int.natCast_mul]
  generalize (Rat.divInt (x * u0) u1).num = N at e2 ⊢
  generalize ((Rat.divInt (x * u0) u1).den : Int) = D at e2 e3
  rw [e3]
  calc N * (q : Int) * u1 = N * u1 * q := by rw [Int.mul_assoc, Int.mul_comm (q : Int) u1, ← Int.mul_assoc]
    _ = x * u0 * D * q := by rw [e2]
    _ = x * (u0 * (D * q)) := by simp only [Int.mul_assoc]
end K22

set_option Elab.async false
set_option linter.all false
set_option maxRecDepth 100000
set_option maxHeartbeats 2000000
/-! k22, plain: what solve tells of rows. -/
namespace K22
open PySem L2 MV Lb Lbf
variable {u0 u1 : Int} {pts : List Str} {rows : List Row} {root : Nat} {pl : Nat → Int}
def RfC (C : Int) (rows : List Row) (d : Nat → Int) : Prop := ∀ r ∈ rows, d r.b ≤ d r.a + r.hi * C ∧ d r.a ≤ d r.b - r.lo * C
def Fits (pl : Nat → Int) (rows : List Row) : Prop := ∀ r ∈ rows, r.lo ≤ pl r.b - pl r.a ∧ pl r.b - pl r.a ≤ r.hi
/-- every place hangs on the root -/
def Det (n : Nat) (pl : Nat → Int) (root : Nat) (rows : List Row) : Prop := ∀ (C : Int) (d : Nat → Int), 0 < C → RfC C rows d → ∀ k, k < n → d k ≤ pl k * C + d root
theorem Det.mono {n : Nat} {rows' : List Row} (h : Det n pl root rows) (hs : ∀ r ∈ rows, r ∈ rows') : Det n pl root rows' := fun C d hC hd => h C d hC fun r hr => hd r (hs r hr)
abbrev sps (pts : List Str) (u0 u1 : Int) (rows : List Row) : List Span := rows.map (spanOf pts u0 u1)
def CC (pts : List Str) (u0 u1 : Int) (rows : List Row) : Int := u0 * (scOf (sps pts u0 u1 rows) : Int)
theorem CC_pos (hu : UOk u0 u1) : 0 < CC pts u0 u1 rows := Int.mul_pos (by have := hu.p0; omega) (by have := sc_pos (ss := sps pts u0 u1 rows); omega)
theorem ix_pt (nd : pts.Nodup) {k : Nat} (h : k < pts.length) : ix pts (ptOf pts k) = k := idx_get nd (pt_get h)
def EdR (C u1 : Int) (rows : List Row) (e : Ed) (j : Nat) (r : Row) : Prop := rows[j]? = some r ∧ ((e.s = r.a ∧ e.t = r.b ∧ u1 * e.w = r.hi * C ∧ e.tag = ((j : Int), 1)) ∨ (e.s = r.b ∧ e.t = r.a ∧ u1 * e.w = -(r.lo * C) ∧ e.tag = ((j : Int), -1)))
theorem edge_row (nd : pts.Nodup) (hu : UOk u0 u1) (hr : RowZ pts.length rows) {e : Ed} (he : e ∈ edgesOf pts (sps pts u0 u1 rows)) : ∃ j r, EdR (CC pts u0 u1 rows) u1 rows e j r := by
  obtain ⟨j, s, _, hs, h⟩ := espN_mem he
  rw [List.getElem?_map] at hs
  obtain ⟨r, hj, rfl⟩ := Option.map_eq_some_iff.mp hs
  have hm : r ∈ rows := List.mem_of_getElem? hj
  obtain ⟨ha, hb, h1, h2⟩ := hr.2 r hm
  obtain ⟨d1, d2⟩ := den_sc (ss := sps pts u0 u1 rows) (s := spanOf pts u0 u1 r) (List.mem_map.mpr ⟨r, hm, rfl⟩)
  have w1 := ew_eq hu d1
  have w2 := ew_eq hu d2
  refine ⟨j, r, hj, ?_⟩
  rcases h with z | z
  · left
    rw [z]
    refine ⟨ix_pt nd ha, ix_pt nd hb, ?_, rfl⟩
    rw [Int.mul_comm]
    exact w2
  · right
    rw [z]
    refine ⟨ix_pt nd hb, ix_pt nd ha, ?_, rfl⟩
    rw [Int.mul_comm, Int.neg_mul]
    exact congrArg (fun x => -x) w1
theorem row_edges (nd : pts.Nodup) (hu : UOk u0 u1) (hr : RowZ pts.length rows) {r : Row} (hm : r ∈ rows) : ∃ e1 e2, e1 ∈ edgesOf pts (sps pts u0 u1 rows) ∧ e2 ∈ edgesOf pts (sps pts u0 u1 rows) ∧
    (e1.s = r.a ∧ e1.t = r.b ∧ u1 * e1.w = r.hi * CC pts u0 u1 rows) ∧ (e2.s = r.b ∧ e2.t = r.a ∧ u1 * e2.w = -(r.lo * CC pts u0 u1 rows)) := by
  obtain ⟨j, hj⟩ := List.getElem?_of_mem hm
  have hjl := (List.getElem?_eq_some_iff.mp hj).1
  obtain ⟨ha, hb, h1, h2⟩ := hr.2 r hm
  obtain ⟨d1, d2⟩ := den_sc (ss := sps pts u0 u1 rows) (s := spanOf pts u0 u1 r) (List.mem_map.mpr ⟨r, hm, rfl⟩)
  have w1 := ew_eq hu d1
  have w2 := ew_eq hu d2
  have hs : (sps pts u0 u1 rows)[j]? = some (spanOf pts u0 u1 r) := by rw [List.getElem?_map, hj]; rfl
  obtain ⟨m1, m2⟩ := espN_has (pts := pts) (sc := scOf (sps pts u0 u1 rows)) hs (k := (sps pts u0 u1 rows).length) (by rw [List.length_map]; exact hjl)
  refine ⟨_, _, m1, m2, ⟨ix_pt nd ha, ix_pt nd hb, ?_⟩, ⟨ix_pt nd hb, ix_pt nd ha, ?_⟩⟩
  · rw [Int.mul_comm]; exact w2
  · rw [Int.mul_comm, Int.neg_mul]; exact congrArg (fun x => -x) w1
/-- what edges allow, rows allow -/
theorem feas_rows (nd : pts.Nodup) (hu : UOk u0 u1) (hr : RowZ pts.length rows) {d : Nat → Int} (hd : Feas (edgesOf pts (sps pts u0 u1 rows)) d) : RfC (CC pts u0 u1 rows) rows fun v => u1 * d v := fun r hm => by
  obtain ⟨e1, e2, m1, m2, ⟨s1, t1, w1⟩, s2, t2, w2⟩ := row_edges nd hu hr hm
  have f1 := hd e1 m1
  have f2 := hd e2 m2
  have hp := hu.p1
  have g1 := Int.mul_le_mul_of_nonneg_left f1 (show 0 ≤ u1 by omega)
  have g2 := Int.mul_le_mul_of_nonneg_left f2 (show 0 ≤ u1 by omega)
  rw [Int.mul_add, w1, s1, t1] at g1
  rw [Int.mul_add, w2, s2, t2] at g2
  exact ⟨g1, (show u1 * d r.a ≤ u1 * d r.b - r.lo * CC pts u0 u1 rows from by omega)⟩
theorem fits_feas (nd : pts.Nodup) (hu : UOk u0 u1) (hr : RowZ pts.length rows) (hf : Fits pl rows) : FeasC u1 (edgesOf pts (sps pts u0 u1 rows)) fun v => pl v * CC pts u0 u1 rows := fun e he => by
  obtain ⟨j, r, hj, h⟩ := edge_row nd hu hr he
  obtain ⟨f1, f2⟩ := hf r (List.mem_of_getElem? hj)
  have hC := CC_pos (pts := pts) (rows := rows) hu
  generalize CC pts u0 u1 rows = C at h hC
  have k1 := Int.mul_le_mul_of_nonneg_right f1 (Int.le_of_lt hC)
  have k2 := Int.mul_le_mul_of_nonneg_right f2 (Int.le_of_lt hC)
  rw [Int.sub_mul] at k1 k2
  rcases h with ⟨s, t, w, _⟩ | ⟨s, t, w, _⟩
  · show pl e.t * C ≤ pl e.s * C + u1 * e.w
    rw [s, t, w]; omega
  · show pl e.t * C ≤ pl e.s * C + u1 * e.w
    rw [s, t, w]; omega
def posR (pts : List Str) (pl : Nat → Int) (u0 u1 : Int) (p : Str) : Rat := Rat.divInt (pl (ix pts p) * u0) u1
theorem solve_set (nd : pts.Nodup) (hp : pts.length ≤ 60) (hl : rows.length ≤ 200) (hu : UOk u0 u1) (hr : RowZ pts.length rows) (hf : Fits pl rows) (hd : Det pts.length pl root rows) (hroot : root < pts.length) (h0 : pl root = 0) (hneg : ∀ v, pl v ≤ 0) :
    F_solve [.own (.imm (ptP pts)), .own (.imm (spsP (sps pts u0 u1 rows)))] = .ok (.imm (.tup [.str "set", rowsP pts (posR pts pl u0 u1)])) [.no, .no] := by
  have hk := rows_sys (u0 := u0) (u1 := u1) nd hp hl hr
  have hz := rows_sz (pts := pts) hu hr
  have hp1 := hu.p1
  have hC := CC_pos (pts := pts) (rows := rows) hu
  have hE : EsOk (edgesOf pts (sps pts u0 u1 rows)) pts.length := edges_ok hk
  obtain ⟨ok, le, lb, hc⟩ := rounds hE (show 1 ≤ pts.length by omega)
  have lb := lb _ u1 (by omega) (fits_feas nd hu hr hf) fun v => by
    have := Int.mul_le_mul_of_nonneg_right (hneg v) (Int.le_of_lt hC)
    simpa using this
  refine R.eq_of_sat (solve_pre hk hz (by omega) ⟨fun hneg => ⟨?_, rfl⟩, fun v z p l0 m _ _ _ _ hw hpath hm => ?_⟩)
  · rcases hc with ⟨_, hfe⟩ | ⟨v, _, ec, _⟩
    · have hrf := feas_rows nd hu hr hfe
      have hdt := hd _ _ hC hrf
      have hr0 := le root
      have hrr : u1 * dF (end0 (edgesOf pts (sps pts u0 u1 rows)) pts.length).d root ≤ 0 := by
        have := Int.mul_le_mul_of_nonneg_left hr0 (show 0 ≤ u1 by omega)
        simpa using this
      have hex : ∀ k, k < pts.length → u1 * dF (end0 (edgesOf pts (sps pts u0 u1 rows)) pts.length).d k = pl k * CC pts u0 u1 rows := fun k hk => by
        have h1 := hdt k hk
        have h2 := lb k
        omega
      have hmap : pts.map (rowP (posOf pts (end0 (edgesOf pts (sps pts u0 u1 rows)) pts.length).d (scOf (sps pts u0 u1 rows)))) = pts.map (rowP (posR pts pl u0 u1)) := by
        refine List.map_congr_left fun q hq => ?_
        have hq2 : posOf pts (end0 (edgesOf pts (sps pts u0 u1 rows)) pts.length).d (scOf (sps pts u0 u1 rows)) q = posR pts pl u0 u1 q := ?_
        · unfold rowP
          rw [hq2]
        have hi := hex _ (ix_lt hq)
        unfold posOf posR
        have hsc := sc_pos (ss := sps pts u0 u1 rows)
        refine (Rat.divInt_eq_divInt_iff (by omega) (by omega)).mpr ?_
        unfold CC at hi
        rw [Int.mul_comm, hi, Int.mul_assoc]
      show D.imm (.tup [.str "set", .tup (pts.map _)]) = _
      rw [hmap]
    · have := Int.lt_of_le_of_lt (Int.le_of_eq ec.symm) hneg
      omega
  · have := hpath.feas (fits_feas nd hu hr hf) fun e he => hm e (List.mem_reverse.mp he)
    rw [wsum_reverse] at this
    have hlt : u1 * wsum m < 0 := Int.mul_neg_of_pos_of_neg (by omega) hw
    omega
end K22

set_option Elab.async false
set_option linter.all false
set_option maxRecDepth 100000
set_option maxHeartbeats 2000000
/-! k22, plain: the law's judge of loops. -/
namespace K22
open PySem L2 MV Lb Lbf
variable {u0 u1 : Int} {pts : List Str} {rows : List Row} {root : Nat} {pl : Nat → Int}
theorem PathE.split : ∀ {ds : List Ed} {e : Ed} {rest : List Ed} {a b : Nat}, PathE a (ds ++ e :: rest) b → PathE a ds e.s
  | [], e, rest, a, b, h => h.1.symm
  | d :: ds, e, rest, a, b, h => ⟨h.1, PathE.split h.2⟩
theorem PathE.uniq : ∀ {ds : List Ed} {a b c : Nat}, PathE a ds b → PathE a ds c → b = c
  | [], a, b, c, h, g => (show a = b from h).symm.trans g
  | d :: ds, a, b, c, h, g => PathE.uniq h.2 g.2
def mo (rows : List Row) (e : Ed) : Int := match rows[e.tag.1.toNat]? with
  | some r => if e.tag.2 = 1 then r.hi else -r.lo
  | none => 0
def msum (rows : List Row) : List Ed → Int
  | [] => 0
  | e :: l => mo rows e + msum rows l
theorem msum_snoc {e : Ed} : ∀ {l : List Ed}, msum rows (l ++ [e]) = msum rows l + mo rows e
  | [] => by simp [msum]
  | f :: l => by simp only [List.cons_append, msum, msum_snoc (l := l)]; omega
theorem mo_eq {C : Int} {e : Ed} {j : Nat} {r : Row} (h : EdR C u1 rows e j r) : u1 * e.w = mo rows e * C := by
  obtain ⟨hj, h⟩ := h
  unfold mo
  rcases h with ⟨_, _, w, t⟩ | ⟨_, _, w, t⟩
  · rw [t]; simp [hj, w]
  · rw [t]; simp [hj, w, Int.neg_mul]
theorem msum_eq {C : Int} : ∀ {l : List Ed}, (∀ e ∈ l, ∃ j r, EdR C u1 rows e j r) → u1 * wsum l = msum rows l * C
  | [], _ => by simp [wsum, msum]
  | e :: l, h => by
    obtain ⟨j, r, h1⟩ := h e List.mem_cons_self
    have h2 := msum_eq (l := l) fun e he => h e (List.mem_cons_of_mem _ he)
    simp only [wsum, msum, Int.mul_add, Int.add_mul, mo_eq h1, h2]
theorem lwh {i : Int} : Lb.F__law_is_whole [.own (.imm (.int i))] = .ok (.imm (.bl true)) [.no] := by
  refine R.eq_of_sat ?_
  unfold Lb.F__law_is_whole Lb.m__law_is_whole
  rw [sat_runF]
  simp
theorem is_round_eq {C : Int} {lf : Lf} {z : Nat} {L : List Ed} (hl : rows.length ≤ 1000) (h1 : 1 ≤ L.length) (h60 : L.length ≤ 60) (hp : PathE z L z) (he : ∀ e ∈ L, ∃ j r, EdR C u1 rows e j r) (hs : msum rows L < 0) :
    F__law_is_round [lf.at rwP rows, .own (.imm (.tup [.str "loop", .tup (L.map fun e => stP e.tag)]))] = .ok (.imm (.bl true)) [.no, .no] := by
  have hsm : Lb.F__law_same 8 [.own (.imm (.str "loop")), .own (.imm (.str "loop"))] = .ok (.imm (.bl true)) [.no, .no] := same_eq 8 (.str "loop") rfl
  refine R.eq_of_sat ?_
  unfold F__law_is_round m__law_is_round
  rw [sat_runF]
  have q1 : ¬ ((L.length : Int) < 1) := by omega
  have q2 : ¬ ((60 : Int) < L.length) := by omega
  simp [hsm, q1, q2]
  refine sat_listF (fun ds ρ => ∃ y s6 s7 s8 s9, PathE z ds y ∧ frees (some s6) = true ∧ frees (some s7) = true ∧ frees (some s8) = true ∧ frees (some s9) = true ∧
    ρ = [lf.at rwP rows, .own (.imm (.tup [.str "loop", .tup (L.map fun e => stP e.tag)])), .own (.imm (.tup (L.map fun e => stP e.tag))), .own (.imm (.int (msum rows ds))), .own (.imm (.int (if ds = [] then -1 else (z : Int)))), .own (.imm (.int (if ds = [] then -1 else (y : Int)))), s6, s7, s8, s9])
    ⟨z, .no, .no, .no, .no, rfl, rfl, rfl, rfl, rfl, rfl⟩ (fun ds e rest ρ eL h => ?_) (fun ρ h => ?_)
  · obtain ⟨y, s6, s7, s8, s9, hy, h6, h7, h8, h9, rfl⟩ := h
    obtain ⟨j, r, hE⟩ := he e (by rw [eL]; simp)
    have hmo := hE
    rw [eL] at hp
    have hes := PathE.uniq hy (PathE.split hp)
    have hsn := (PathE.split hp).snoc (e := e) rfl
    obtain ⟨hj, hE⟩ := hE
    have hjl := (List.getElem?_eq_some_iff.mp hj).1
    have hgr : atI rows (j : Int) = some r := by rw [Lbf.atI_nat]; exact hj
    have b1 : (j : Int) < rows.length := by omega
    unfold b__law_is_round_4 t__law_is_round_3 t__law_is_round_2 t__law_is_round_1
    rcases hE with ⟨s, t, w, tg⟩ | ⟨s, t, w, tg⟩
    · have hm : mo rows e = r.hi := by unfold mo; rw [tg]; simp [hj]
      simp [tg, h6, h7, h8, h9, b1, hgr, rwP, msum_snoc, hm, lwh]
      have hA : ds = [] → z = y := fun q => by rw [q] at hy; exact hy
      refine ⟨hjl, fun _ => ⟨fun hneg => ?_, fun hge => ?_⟩⟩
      · have hd : ds = [] := by
          refine Classical.byContradiction fun q => ?_
          rw [if_neg q] at hneg
          omega
        have := hA hd
        refine ⟨e.t, hsn, _, ?_, _, ?_, _, ?_, _, ?_, by omega, by omega, rfl, rfl, rfl, rfl⟩ <;> rfl
      · have hd : ds ≠ [] := fun q => by
          rw [if_pos q] at hge
          omega
        rw [if_neg hd]
        refine ⟨fun _ => ?_, by omega⟩
        refine ⟨e.t, hsn, _, ?_, _, ?_, _, ?_, _, ?_, hd, by omega, rfl, rfl, rfl, rfl⟩ <;> rfl
    · have hm : mo rows e = -r.lo := by unfold mo; rw [tg]; simp [hj]
      simp [tg, h6, h7, h8, h9, b1, hgr, rwP, msum_snoc, hm, lwh]
      have hA : ds = [] → z = y := fun q => by rw [q] at hy; exact hy
      refine ⟨hjl, fun _ => ⟨fun hneg => ?_, fun hge => ?_⟩⟩
      · have hd : ds = [] := by
          refine Classical.byContradiction fun q => ?_
          rw [if_neg q] at hneg
          omega
        have := hA hd
        refine ⟨e.t, hsn, _, ?_, _, ?_, _, ?_, _, ?_, by omega, by omega, rfl, rfl, rfl, rfl⟩ <;> rfl
      · have hd : ds ≠ [] := fun q => by
          rw [if_pos q] at hge
          omega
        rw [if_neg hd]
        refine ⟨fun _ => ?_, by omega⟩
        refine ⟨e.t, hsn, _, ?_, _, ?_, _, ?_, _, ?_, hd, by omega, rfl, rfl, rfl, rfl⟩ <;> rfl
  · obtain ⟨y, s6, s7, s8, s9, hy, h6, h7, h8, h9, rfl⟩ := h
    have : y = z := PathE.uniq hy hp
    have hne : L ≠ [] := fun q => by rw [q] at h1; simp at h1
    subst this
    simp [hne, hs]
end K22

set_option Elab.async false
set_option linter.all false
set_option maxRecDepth 100000
set_option maxHeartbeats 2000000
/-! k22, plain: loops of rows that can't be; papers of sets. -/
namespace K22
open PySem L2 MV Lb Lbf
variable {u0 u1 : Int} {pts : List Str} {rows : List Row} {root : Nat} {pl : Nat → Int}
theorem solve_round {lf : Lf} (nd : pts.Nodup) (hp : pts.length ≤ 60) (hp1 : 1 ≤ pts.length) (hl : rows.length ≤ 200) (hu : UOk u0 u1) (hr : RowZ pts.length rows) (hno : ∀ C d, 0 < C → ¬ RfC C rows d) :
    (F_solve [.own (.imm (ptP pts)), .own (.imm (spsP (sps pts u0 u1 rows)))]).sat fun d os => os = [.no, .no] ∧ ∃ p, d = .imm p ∧ F__law_is_round [lf.at rwP rows, .own (.imm p)] = .ok (.imm (.bl true)) [.no, .no] := by
  have hk := rows_sys (u0 := u0) (u1 := u1) nd hp hl hr
  have hz := rows_sz (pts := pts) hu hr
  have hC := CC_pos (pts := pts) (rows := rows) hu
  have hE : EsOk (edgesOf pts (sps pts u0 u1 rows)) pts.length := edges_ok hk
  obtain ⟨ok, le, lb, hc⟩ := rounds hE hp1
  refine solve_pre hk hz hp1 ⟨fun hneg => ?_, fun v z p l0 m _ _ hpn hfi hw hpath hm => ⟨rfl, _, rfl, ?_⟩⟩
  · rcases hc with ⟨_, hfe⟩ | ⟨v, _, ec, _⟩
    · exact absurd (feas_rows nd hu hr hfe) (hno _ _ hC)
    · have := Int.lt_of_le_of_lt (Int.le_of_eq ec.symm) hneg
      omega
  · have hlen := orb_len hfi.2.1
    have hed : ∀ e ∈ m.reverse, ∃ j r, EdR (CC pts u0 u1 rows) u1 rows e j r := fun e he => edge_row nd hu hr (hm e (List.mem_reverse.mp he))
    have hs := msum_eq hed
    rw [wsum_reverse] at hs
    have hlt : u1 * wsum m < 0 := Int.mul_neg_of_pos_of_neg (by have := hu.p1; omega) hw
    refine is_round_eq (C := CC pts u0 u1 rows) (u1 := u1) (by omega) (by rw [List.length_reverse]; have := hfi.1; omega) (by rw [List.length_reverse]; omega) hpath hed ?_
    refine Classical.byContradiction fun q => ?_
    have := Int.mul_nonneg (show 0 ≤ msum rows m.reverse by omega) (Int.le_of_lt hC)
    omega
theorem is_set_eq {ss : List Span} {pos : Str → Rat} {n : Nat} (hk : SysOk pts ss) (hs : SpOk n ss) (hp : ∀ p ∈ pts, Md n (pos p)) (hn : n ≤ 1000) :
    F_is_set [.own (.imm (ptP pts)), .own (.imm (spsP ss)), .own (.imm (.tup [.str "set", rowsP pts pos]))] = .ok (.imm (.bl (satB ss pos))) [.no, .no, .no] := by
  refine R.eq_of_sat ?_
  unfold F_is_set m_is_set
  rw [sat_runF]
  simp [check_system_eq hk, has_form_eq (w := "set") (x := "set") (ps := [rowsP pts pos]) (k := 2) rfl, are_rows_eq hk hs hp hn]
theorem no_loop_eq {ss : List Span} {p : P} (hk : SysOk pts ss) : F_is_loop [.own (.imm (ptP pts)), .own (.imm (spsP ss)), .own (.imm (.tup [.str "set", p]))] = .ok (.imm (.bl false)) [.no, .no, .no] := by
  refine R.eq_of_sat ?_
  unfold F_is_loop m_is_loop
  rw [sat_runF]
  simp [check_system_eq hk, has_form_eq (w := "set") (x := "loop") (ps := [p]) (k := 2) rfl]
  exact fun h => absurd h (by decide)
theorem divInt_sub' {x y u : Int} : Rat.divInt x u - Rat.divInt y u = Rat.divInt (x - y) u := by
  rw [Rat.divInt_eq_div, Rat.divInt_eq_div, Rat.divInt_eq_div, Rat.intCast_sub]
  grind
theorem divInt_le' {x y u : Int} (hu : 0 < u) : Rat.divInt x u ≤ Rat.divInt y u ↔ x ≤ y := by
  have e := Rat.divInt_nonneg_iff_of_pos_right (a := y - x) (b := u) hu
  have s := divInt_sub' (x := y) (y := x) (u := u)
  rw [← s] at e
  constructor
  · intro h
    have : 0 ≤ y - x := e.mp (by grind)
    omega
  · intro h
    have := e.mpr (by omega)
    grind
theorem row_fit (nd : pts.Nodup) (hu : UOk u0 u1) {r : Row} (ha : r.a < pts.length) (hb : r.b < pts.length) :
    ((spanOf pts u0 u1 r).lo ≤ posR pts pl u0 u1 (spanOf pts u0 u1 r).b - posR pts pl u0 u1 (spanOf pts u0 u1 r).a ↔ r.lo ≤ pl r.b - pl r.a) ∧
    (posR pts pl u0 u1 (spanOf pts u0 u1 r).b - posR pts pl u0 u1 (spanOf pts u0 u1 r).a ≤ (spanOf pts u0 u1 r).hi ↔ pl r.b - pl r.a ≤ r.hi) := by
  have h0 := hu.p0
  have h1 := hu.p1
  have e : posR pts pl u0 u1 (spanOf pts u0 u1 r).b - posR pts pl u0 u1 (spanOf pts u0 u1 r).a = Rat.divInt ((pl r.b - pl r.a) * u0) u1 := by
    unfold posR
    rw [show (spanOf pts u0 u1 r).b = ptOf pts r.b from rfl, show (spanOf pts u0 u1 r).a = ptOf pts r.a from rfl, ix_pt nd ha, ix_pt nd hb, divInt_sub', Int.sub_mul]
  rw [e]
  refine ⟨?_, ?_⟩
  · show Rat.divInt (r.lo * u0) u1 ≤ _ ↔ _
    rw [divInt_le' (by omega)]
    exact ⟨fun h => Int.le_of_mul_le_mul_right h (by omega), fun h => Int.mul_le_mul_of_nonneg_right h (by omega)⟩
  · show _ ≤ Rat.divInt (r.hi * u0) u1 ↔ _
    rw [divInt_le' (by omega)]
    exact ⟨fun h => Int.le_of_mul_le_mul_right h (by omega), fun h => Int.mul_le_mul_of_nonneg_right h (by omega)⟩
theorem sat_true (nd : pts.Nodup) (hu : UOk u0 u1) (hr : RowZ pts.length rows) (hf : Fits pl rows) : satB (sps pts u0 u1 rows) (posR pts pl u0 u1) = true := by
  unfold satB
  rw [List.all_eq_true]
  intro s hs
  obtain ⟨r, hm, rfl⟩ := List.mem_map.mp hs
  obtain ⟨ha, hb, _⟩ := hr.2 r hm
  obtain ⟨f1, f2⟩ := row_fit (pl := pl) nd hu ha hb
  obtain ⟨g1, g2⟩ := hf r hm
  simp only [Bool.and_eq_true, decide_eq_true_eq]
  exact ⟨f1.mpr g1, f2.mpr g2⟩
theorem sat_false (nd : pts.Nodup) (hu : UOk u0 u1) (hr : RowZ pts.length rows) {r : Row} (hm : r ∈ rows) (hbad : pl r.b - pl r.a < r.lo) : satB (sps pts u0 u1 rows) (posR pts pl u0 u1) = false := by
  obtain ⟨ha, hb, _⟩ := hr.2 r hm
  obtain ⟨f1, f2⟩ := row_fit (pl := pl) nd hu ha hb
  refine Bool.eq_false_iff.mpr fun h => ?_
  unfold satB at h
  rw [List.all_eq_true] at h
  have := h _ (List.mem_map.mpr ⟨r, hm, rfl⟩)
  simp only [Bool.and_eq_true, decide_eq_true_eq] at this
  have := f1.mp this.1
  omega
theorem posR_md (hu : UOk u0 u1) (hpl : ∀ v, (pl v).natAbs ≤ 100) (p : Str) : Md 77 (posR pts pl u0 u1 p) := hu.md (hpl _)
end K22

set_option Elab.async false
set_option linter.all false
set_option maxRecDepth 100000
set_option maxHeartbeats 2000000
/-! k22, plain: rows drawn. -/
namespace K22
open PySem L2 MV Lb Lbf
theorem lit_in {xs : List D} {v : Int} (h0 : 0 ≤ v) (h1 : v < xs.length) : ∃ x ∈ xs, atI xs v = some x := by
  obtain ⟨x, e1, e2⟩ := atI_some h0 h1
  exact ⟨x, List.mem_of_getElem? e2, e1⟩
def plOf (ps : List Int) (v : Nat) : Int := ps.getD v 0
structure PsOk (n : Nat) (ps : List Int) : Prop where
  len : ps.length = n
  rng : ∀ x ∈ ps, -29 ≤ x ∧ x ≤ 0
theorem PsOk.at {n : Nat} {ps : List Int} (h : PsOk n ps) (v : Nat) : -29 ≤ plOf ps v ∧ plOf ps v ≤ 0 := by
  unfold plOf
  rw [List.getD_eq_getElem?_getD]
  cases q : ps[v]? with
  | none => simp
  | some x => exact h.rng x (List.mem_of_getElem? q)
theorem PsOk.item {n : Nat} {ps : List Int} (h : PsOk n ps) {v : Nat} (hv : v < n) : atI (ps.map (D.imm ∘ P.int)) (v : Int) = some (.imm (.int (plOf ps v))) := by
  rw [Lbf.atI_nat, List.getElem?_map]
  have := getD_get (l := ps) (i := v) (by have := h.len; omega)
  rw [this]
  rfl
def RowFit (n : Nat) (pl : Nat → Int) (x : Row) : Prop := (x.a < n ∧ x.b < n ∧ x.lo.natAbs ≤ 100 ∧ x.hi.natAbs ≤ 100) ∧ x.lo ≤ pl x.b - pl x.a ∧ pl x.b - pl x.a ≤ x.hi
variable {row : List Int} {k : Int} {n : Nat} {ps : List Int}
theorem loose_ok (hr : row ≠ []) (hk : 0 ≤ k) (hp : PsOk n ps) (hn : 1 ≤ n) : (F__law_loose [.pin (jarD row k), .ro (ilD ps)]).sat fun d os => ∃ x k', RowFit n (plOf ps) x ∧ 0 ≤ k' ∧ d = .imm (rwP x) ∧ os = [.pin (jarD row k'), .no] := by
  have hlen := hp.len
  have hn0 : (0 : Int) < n := by omega
  unfold F__law_loose m__law_loose
  rw [sat_runF]
  simp [hlen]
  refine R.sat_mono (take_ok hr hk hn0) fun d os h => ?_
  obtain ⟨v, h1, h2, rfl, rfl⟩ := h
  obtain ⟨a, rfl⟩ : ∃ a : Nat, v = a := ⟨v.toNat, by omega⟩
  simp [hlen]
  refine R.sat_mono (take_ok hr (by omega) hn0) fun d os h => ?_
  obtain ⟨v, h3, h4, rfl, rfl⟩ := h
  obtain ⟨b, rfl⟩ : ∃ b : Nat, v = b := ⟨v.toNat, by omega⟩
  have ia := hp.item (v := a) (by omega)
  have ib := hp.item (v := b) (by omega)
  simp [ia, ib]
  refine R.sat_mono (take_ok hr (by omega) (by decide)) fun d os h => ?_
  obtain ⟨w, h5, h6, rfl, rfl⟩ := h
  obtain ⟨x, hx, e⟩ := lit_in (xs := [D.imm (.str "w"), .imm (.str "n")]) h5 h6
  obtain ⟨nm, rfl⟩ : ∃ nm : Str, x = .imm (.str nm) := by
    simp at hx
    rcases hx with e | e <;> exact ⟨_, e⟩
  simp [e]
  refine R.sat_mono (take_ok hr (by omega) (by decide)) fun d os h => ?_
  obtain ⟨y, h7, h8, rfl, rfl⟩ := h
  simp
  refine R.sat_mono (take_ok hr (by omega) (by decide)) fun d os h => ?_
  obtain ⟨z, h9, h10, rfl, rfl⟩ := h
  simp
  obtain ⟨pa, pa'⟩ := hp.at a
  obtain ⟨pb, pb'⟩ := hp.at b
  refine ⟨⟨nm, a, b, plOf ps b - plOf ps a - y, plOf ps b - plOf ps a + z⟩, ⟨⟨by simp only []; omega, by simp only []; omega, by simp only []; omega, by simp only []; omega⟩, by simp only []; omega, by simp only []; omega⟩, k + 1 + 1 + 1 + 1 + 1, by omega, by simp [rwP], rfl⟩
/-- a place behind the root, by the rank -/
def at' (n root t : Nat) : Nat := (root + t) % n
theorem at_cast {n root t : Nat} : ((at' n root t : Nat) : Int) = ((root : Int) + (t : Int)) % (n : Int) := by
  unfold at'
  rw [Int.natCast_emod, Int.natCast_add]
theorem at_lt {n root t : Nat} (h : 1 ≤ n) : at' n root t < n := Nat.mod_lt _ (by omega)
structure HungOk (n : Nat) (ps : List Int) (root t : Nat) (rows : List Row) : Prop where
  len : rows.length = t
  fit : ∀ r ∈ rows, RowFit n (plOf ps) r
  det : ∀ (C : Int) (d : Nat → Int), 0 < C → RfC C rows d → ∀ s, s ≤ t → d (at' n root s) ≤ plOf ps (at' n root s) * C + d root
theorem HungOk.snoc {root t s : Nat} {rows : List Row} {x : Row} (h : HungOk n ps root t rows) (hx : RowFit n (plOf ps) x) (hs : s ≤ t)
    (ht : (x.a = at' n root s ∧ x.b = at' n root (t + 1) ∧ x.hi = plOf ps (at' n root (t + 1)) - plOf ps (at' n root s)) ∨ (x.b = at' n root s ∧ x.a = at' n root (t + 1) ∧ x.lo = -(plOf ps (at' n root (t + 1)) - plOf ps (at' n root s)))) : HungOk n ps root (t + 1) (rows ++ [x]) := by
  refine ⟨by simp [h.len], fun r hr => ?_, fun C d hC hd q hq => ?_⟩
  · rcases List.mem_append.mp hr with z | z
    · exact h.fit r z
    · have : r = x := by simpa using z
      rw [this]; exact hx
  · have hd0 := h.det C d hC fun r hr => hd r (List.mem_append_left _ hr)
    by_cases e : q ≤ t
    · exact hd0 q e
    · have : q = t + 1 := by omega
      subst this
      obtain ⟨f1, f2⟩ := hd x (by simp)
      have g := hd0 s hs
      rcases ht with ⟨e1, e2, e3⟩ | ⟨e1, e2, e3⟩
      · rw [e1, e2, e3, Int.sub_mul] at f1
        omega
      · rw [e1, e2, e3, Int.neg_mul, Int.sub_mul] at f2
        omega
theorem hung_ok {root : Nat} (hr : row ≠ []) (hk : 0 ≤ k) (hp : PsOk n ps) (hn : 1 ≤ n) (hn6 : n ≤ 60) (hroot : root < n) (h0 : plOf ps root = 0) : (F__law_hung [.pin (jarD row k), .ro (ilD ps), .own (.imm (.int root))]).sat fun d os => ∃ rows k', HungOk n ps root (n - 1) rows ∧ 0 ≤ k' ∧ d = .lst (rows.map (D.imm ∘ rwP)) ∧ os = [.pin (jarD row k'), .no, .no] := by
  have hlen := hp.len
  have hn0 : (0 : Int) < n := by omega
  unfold F__law_hung m__law_hung
  rw [sat_runF]
  simp [hlen]
  refine ⟨⟨by decide, lim62_n (by omega)⟩, ?_⟩
  refine sat_rng (fun t ρ => ∃ (rows : List Row) (k' : Int) (s5 s6 s7 s8 s9 : MV.Slot), HungOk n ps root t rows ∧ 0 ≤ k' ∧ frees (some s5) = true ∧ frees (some s6) = true ∧ frees (some s7) = true ∧ frees (some s8) = true ∧ frees (some s9) = true ∧
    ρ = [.pin (jarD row k'), .ro (ilD ps), .own (.imm (.int root)), .own (.imm (.int n)), .own (.lst (rows.map (D.imm ∘ rwP))), s5, s6, s7, s8, s9]) ⟨[], k, .no, .no, .no, .no, .no, ⟨rfl, (by intro r hr; cases hr), fun C d hC hd s hs => ?_⟩, hk, rfl, rfl, rfl, rfl, rfl, rfl⟩ (fun t ρ ht h => ?_) (fun ρ h => ?_)
  · have : s = 0 := by omega
    subst this
    have : at' n root 0 = root := Nat.mod_eq_of_lt hroot
    rw [this, h0]
    simp
  · obtain ⟨rows, k', s5, s6, s7, s8, s9, hh, hk', h5, h6, h7, h8, h9, rfl⟩ := h
    refine ⟨by simpa using h5, ?_⟩
    have hl := hh.len
    have ek : ((root : Int) + (1 + (t : Int))) % (n : Int) = ((at' n root (t + 1) : Nat) : Int) := by
      rw [at_cast]
      congr 1
      omega
    have lk := at_lt (n := n) (root := root) (t := t + 1) hn
    have ik := hp.item lk
    obtain ⟨pk, pk'⟩ := hp.at (at' n root (t + 1))
    have hfin : ∀ x, RowFit n (plOf ps) x → ∀ s, s ≤ t → _ → HungOk n ps root (t + 1) (rows ++ [x]) := fun x hx s hs h => hh.snoc hx hs h
    generalize at' n root (t + 1) = K at ek lk ik pk pk' hfin
    unfold b__law_hung_1
    simp [h6, h7, h8, h9, ek]
    refine ⟨by omega, R.sat_mono (take_ok hr hk' (by omega)) fun d os h => ?_⟩
    obtain ⟨v, v1, v2, rfl, rfl⟩ := h
    obtain ⟨s, rfl⟩ : ∃ s : Nat, v = s := ⟨v.toNat, by omega⟩
    have ej : ((root : Int) + (s : Int)) % (n : Int) = ((at' n root s : Nat) : Int) := at_cast.symm
    have lj := at_lt (n := n) (root := root) (t := s) hn
    have ij := hp.item lj
    obtain ⟨pj, pj'⟩ := hp.at (at' n root s)
    have hfin := fun x hx => hfin x hx s (by omega)
    generalize at' n root s = J at ej lj ij pj pj' hfin
    simp [h6, h7, h8, h9, ej, ik, ij]
    refine ⟨by omega, R.sat_mono (take_ok hr (by omega) (by decide)) fun d os h => ?_⟩
    obtain ⟨m, m1, m2, rfl, rfl⟩ := h
    simp [h6, h7, h8, h9]
    refine R.sat_mono (take_ok hr (by omega) (by decide)) fun d os h => ?_
    obtain ⟨w, w1, w2, rfl, rfl⟩ := h
    simp
    refine ⟨fun _ => ?_, fun _ => ?_⟩
    · refine R.sat_mono (take_ok hr (by omega) (by decide)) fun d os h => ?_
      obtain ⟨y, y1, y2, rfl, rfl⟩ := h
      obtain ⟨x, hx, e⟩ := lit_in (xs := [D.imm (.str "w"), .imm (.str "dim"), .imm (.str "w")]) y1 y2
      obtain ⟨nm, rfl⟩ : ∃ nm : Str, x = .imm (.str nm) := by
        simp at hx
        rcases hx with e | e | e <;> exact ⟨_, e⟩
      have hl2 : rows.length < 16777216 := by omega
      simp [e, hl2]
      refine ⟨rows ++ [⟨nm, J, K, plOf ps K - plOf ps J - m, plOf ps K - plOf ps J⟩], hfin _ ⟨⟨lj, lk, by simp only []; omega, by simp only []; omega⟩, by simp only []; omega, by simp only []; omega⟩ (.inl ⟨rfl, rfl, rfl⟩), k' + 1 + 1 + 1 + 1, by omega, _, ?_, _, ?_, _, ?_, _, ?_, _, ?_, rfl, by simp [rwP], rfl, rfl, rfl, rfl, rfl⟩ <;> rfl
    · refine R.sat_mono (take_ok hr (by omega) (by decide)) fun d os h => ?_
      obtain ⟨y, y1, y2, rfl, rfl⟩ := h
      obtain ⟨x, hx, e⟩ := lit_in (xs := [D.imm (.str "w"), .imm (.str "dim"), .imm (.str "w")]) y1 y2
      obtain ⟨nm, rfl⟩ : ∃ nm : Str, x = .imm (.str nm) := by
        simp at hx
        rcases hx with e | e | e <;> exact ⟨_, e⟩
      have hl2 : rows.length < 16777216 := by omega
      simp [e, hl2]
      refine ⟨rows ++ [⟨nm, K, J, -(plOf ps K - plOf ps J), m - (plOf ps K - plOf ps J)⟩], hfin _ ⟨⟨lk, lj, by simp only []; omega, by simp only []; omega⟩, by simp only []; omega, by simp only []; omega⟩ (.inr ⟨rfl, rfl, rfl⟩), k' + 1 + 1 + 1 + 1, by omega, _, ?_, _, ?_, _, ?_, _, ?_, _, ?_, rfl, by simp [rwP], rfl, rfl, rfl, rfl, rfl⟩ <;> rfl
  · obtain ⟨rows, k', s5, s6, s7, s8, s9, hh, hk', h5, h6, h7, h8, h9, rfl⟩ := h
    simp
    exact ⟨rows, hh, k', hk', rfl, rfl⟩
end K22

set_option Elab.async false
set_option linter.all false
set_option maxRecDepth 100000
set_option maxHeartbeats 2000000
/-! k22, plain: the rows of a system. -/
namespace K22
open PySem L2 MV Lb Lbf
variable {row : List Int} {k : Int} {n : Nat} {ps : List Int} {root : Nat}
structure RI (n : Nat) (ps : List Int) (root : Nat) (rows : List Row) : Prop where
  fit : ∀ r ∈ rows, RowFit n (plOf ps) r
  det : Det n (plOf ps) root rows
theorem at_onto {m : Nat} (hm : m < n) (hr : root < n) : ∃ s, s ≤ n - 1 ∧ at' n root s = m := by
  by_cases h : root ≤ m
  · exact ⟨m - root, by omega, by unfold at'; rw [show root + (m - root) = m from by omega]; exact Nat.mod_eq_of_lt hm⟩
  · exact ⟨m + n - root, by omega, by unfold at'; rw [show root + (m + n - root) = m + n from by omega, Nat.add_mod_right]; exact Nat.mod_eq_of_lt hm⟩
theorem HungOk.ri {rows : List Row} (h : HungOk n ps root (n - 1) rows) (hr : root < n) : RI n ps root rows := ⟨h.fit, fun C d hC hd m hm => by
  obtain ⟨s, hs, e⟩ := at_onto hm hr
  have := h.det C d hC hd s hs
  rwa [e] at this⟩
theorem RI.more {rows rows' : List Row} (h : RI n ps root rows) (hs : ∀ r ∈ rows, r ∈ rows') (hf : ∀ r ∈ rows', r ∈ rows ∨ RowFit n (plOf ps) r) : RI n ps root rows' :=
  ⟨fun r hr => (hf r hr).elim (h.fit r) id, h.det.mono hs⟩
theorem RI.snoc {rows : List Row} {x : Row} (h : RI n ps root rows) (hx : RowFit n (plOf ps) x) : RI n ps root (rows ++ [x]) :=
  h.more (fun r hr => List.mem_append_left _ hr) fun r hr => by
    rcases List.mem_append.mp hr with z | z
    · exact .inl z
    · have : r = x := by simpa using z
      rw [this]; exact .inr hx
theorem RI.same {rows rows' : List Row} (h : RI n ps root rows) (hs : ∀ r, r ∈ rows' ↔ r ∈ rows) : RI n ps root rows' := h.more (fun r hr => (hs r).mpr hr) fun r hr => .inl ((hs r).mp hr)
theorem t3_ok {s1 s2 s3 s5 s6 s7 s8 s9 s10 s11 s12 : MV.Slot} {rows : List Row} {N : En} (hr : row ≠ []) (hk : 0 ≤ k) (h : RI n ps root rows) (hl : rows.length ≤ 199) (h12 : frees (some s12) = true)
    (hN : ∀ (rows' : List Row) (k' : Int) (L : List MV.Slot), RI n ps root rows' → rows'.length = rows.length → 0 ≤ k' → N.rt (.lst (rows'.map (D.imm ∘ rwP))) (.pin (jarD row k') :: s1 :: s2 :: s3 :: L)) :
    (t__law_rows_3 [.pin (jarD row k), s1, s2, s3, .own (.lst (rows.map (D.imm ∘ rwP))), s5, s6, s7, s8, s9, s10, s11, s12]).sat N := by
  unfold t__law_rows_3
  simp [h12]
  refine R.sat_mono (take_ok hr hk (by omega)) fun d os hh => ?_
  obtain ⟨v, v1, v2, rfl, rfl⟩ := hh
  obtain ⟨c, rfl⟩ : ∃ c : Nat, v = c := ⟨v.toNat, by omega⟩
  have hc : c ≤ rows.length := by omega
  have p1 := cutP_pre (l := rows) hc
  have p2 := cutP_post (l := rows) hc
  obtain ⟨A, hA⟩ : ∃ A, A = rows.drop c := ⟨_, rfl⟩
  obtain ⟨B, hB⟩ : ∃ B, B = rows.take c := ⟨_, rfl⟩
  rw [← hA] at p2
  rw [← hB] at p1
  have hAB : A.length + B.length = rows.length := by rw [hA, hB, List.length_drop, List.length_take]; omega
  have eL := fAddL_l (f := rwP) (a := A) (b := B) (by omega)
  have hmem : ∀ r, r ∈ A ++ B ↔ r ∈ rows := fun r => by
    have e : rows = B ++ A := by rw [hA, hB, List.take_append_drop]
    rw [e, List.mem_append, List.mem_append]
    exact Or.comm
  have hlen : (A ++ B).length = rows.length := by rw [List.length_append]; exact hAB
  simp [p1, p2, h12, eL]
  rw [show List.map (D.imm ∘ rwP) A ++ List.map (D.imm ∘ rwP) B = (A ++ B).map (D.imm ∘ rwP) from List.map_append.symm]
  clear eL
  generalize A ++ B = RR at hmem hlen
  have hRI : RI n ps root RR := h.same hmem
  refine R.sat_mono (take_ok hr (by omega) (by decide)) fun d os hh => ?_
  obtain ⟨w, w1, w2, rfl, rfl⟩ := hh
  simp
  refine ⟨fun _ => ?_, fun _ => ?_⟩
  · have := hN RR.reverse (k + 1 + 1) [.no, s5, s6, s7, s8, s9, s10, s11, .own (.imm (.int c))] (hRI.same fun r => List.mem_reverse) (by rw [List.length_reverse]; exact hlen) (by omega)
    rw [← List.map_reverse]
    exact this
  · have := hN RR (k + 1 + 1) [.no, s5, s6, s7, s8, s9, s10, s11, .own (.imm (.int c))] hRI hlen (by omega)
    exact this
theorem loose_loop {s2 s3 : MV.Slot} {rows : List Row} {x : Nat} {N : En} (hr : row ≠ []) (hk : 0 ≤ k) (hp : PsOk n ps) (hn : 1 ≤ n) (h : RI n ps root rows) (hl : rows.length + x ≤ 199) {s5 : MV.Slot}
    (hN : ∀ (rows' : List Row) (k' : Int) (s6 : MV.Slot), RI n ps root rows' → rows'.length = rows.length + x → 0 ≤ k' → frees (some s6) = true → N.nx [.pin (jarD row k'), .ro (ilD ps), s2, s3, .own (.lst (rows'.map (D.imm ∘ rwP))), s5, s6, .no, .no, .no, .no, .no, .no]) :
    (forL (.nm 6) b__law_rows_1 (rngL 0 x) [.pin (jarD row k), .ro (ilD ps), s2, s3, .own (.lst (rows.map (D.imm ∘ rwP))), s5, .no, .no, .no, .no, .no, .no, .no]).sat N := by
  refine sat_rng (fun t ρ => ∃ (rows' : List Row) (k' : Int) (s6 : MV.Slot), RI n ps root rows' ∧ rows'.length = rows.length + t ∧ 0 ≤ k' ∧ frees (some s6) = true ∧
    ρ = [.pin (jarD row k'), .ro (ilD ps), s2, s3, .own (.lst (rows'.map (D.imm ∘ rwP))), s5, s6, .no, .no, .no, .no, .no, .no]) ⟨rows, k, .no, h, rfl, hk, rfl, rfl⟩ (fun t ρ ht h => ?_) (fun ρ h => ?_)
  · obtain ⟨rows', k', s6, g1, g2, g3, g4, rfl⟩ := h
    refine ⟨by simpa using g4, ?_⟩
    unfold b__law_rows_1
    simp
    refine R.sat_mono (loose_ok hr g3 hp hn) fun d os hh => ?_
    obtain ⟨y, k2, q1, q2, rfl, rfl⟩ := hh
    have hl2 : rows'.length < 16777216 := by omega
    simp [hl2]
    exact ⟨rows' ++ [y], g1.snoc q1, by simp; omega, k2, q2, _, rfl, rfl, by simp, rfl⟩
  · obtain ⟨rows', k', s6, g1, g2, g3, g4, rfl⟩ := h
    exact hN rows' k' s6 g1 g2 g3 g4
theorem back_loop {s1 s2 s3 s5 : MV.Slot} {rows : List Row} {x : Nat} {s6 : MV.Slot} {N : En} (hr : row ≠ []) (hk : 0 ≤ k) (h : RI n ps root rows) (h0 : 0 < rows.length) (hl : rows.length + x ≤ 199) (h6 : frees (some s6) = true)
    (hN : ∀ (rows' : List Row) (k' : Int) (s6 s7 s8 s9 s10 s11 : MV.Slot), RI n ps root rows' → rows'.length = rows.length + x → 0 ≤ k' → N.nx [.pin (jarD row k'), s1, s2, s3, .own (.lst (rows'.map (D.imm ∘ rwP))), s5, s6, s7, s8, s9, s10, s11, .no]) :
    (forL (.nm 6) b__law_rows_2 (rngL 0 x) [.pin (jarD row k), s1, s2, s3, .own (.lst (rows.map (D.imm ∘ rwP))), s5, s6, .no, .no, .no, .no, .no, .no]).sat N := by
  refine sat_rng (fun t ρ => ∃ (rows' : List Row) (k' : Int) (s6 s7 s8 s9 s10 s11 : MV.Slot), RI n ps root rows' ∧ rows'.length = rows.length + t ∧ 0 ≤ k' ∧ frees (some s6) = true ∧ frees (some s7) = true ∧ frees (some s8) = true ∧ frees (some s9) = true ∧ frees (some s10) = true ∧ frees (some s11) = true ∧
    ρ = [.pin (jarD row k'), s1, s2, s3, .own (.lst (rows'.map (D.imm ∘ rwP))), s5, s6, s7, s8, s9, s10, s11, .no]) ⟨rows, k, s6, .no, .no, .no, .no, .no, h, rfl, hk, h6, rfl, rfl, rfl, rfl, rfl, rfl⟩ (fun t ρ ht h => ?_) (fun ρ h => ?_)
  · obtain ⟨rows', k', s6, s7, s8, s9, s10, s11, g1, g2, g3, g6, g7, g8, g9, g10, g11, rfl⟩ := h
    refine ⟨by simpa using g6, ?_⟩
    unfold b__law_rows_2
    simp [g7, g8, g9, g10, g11]
    refine R.sat_mono (take_ok hr g3 (by omega)) fun d os hh => ?_
    obtain ⟨v, v1, v2, rfl, rfl⟩ := hh
    obtain ⟨c, rfl⟩ : ∃ c : Nat, v = c := ⟨v.toNat, by omega⟩
    have hc : c < rows'.length := by omega
    have hg : rows'[c]? = some rows'[c] := List.getElem?_eq_getElem hc
    have hm : rows'[c] ∈ rows' := List.getElem_mem hc
    generalize rows'[c] = y at hg hm
    obtain ⟨⟨y1, y2, y3, y4⟩, y5, y6⟩ := g1.fit y hm
    have hl2 : rows'.length < 16777216 := by omega
    simp [Lbf.atI_nat, hg, rwP, g7, g8, g9, g10, g11, hl2]
    refine ⟨rows' ++ [⟨y.nm, y.b, y.a, -y.hi, -y.lo⟩], g1.snoc ⟨⟨y2, y1, by simp only []; omega, by simp only []; omega⟩, by simp only []; omega, by simp only []; omega⟩, by simp; omega, k' + 1, by omega, ?_⟩
    refine ⟨_, ?_, _, ?_, _, ?_, _, ?_, _, ?_, _, ?_, rfl, by simp [rwP], rfl, rfl, rfl, rfl, rfl, rfl⟩ <;> rfl
  · obtain ⟨rows', k', s6, s7, s8, s9, s10, s11, g1, g2, g3, g6, g7, g8, g9, g10, g11, rfl⟩ := h
    exact hN rows' k' s6 s7 s8 s9 s10 s11 g1 g2 g3
theorem rows_ok (large : Bool) (hr : row ≠ []) (hk : 0 ≤ k) (hp : PsOk n ps) (hn : 1 ≤ n) (h60 : n ≤ 60) (h6 : large = false → n ≤ 6) (hroot : root < n) (h0 : plOf ps root = 0) :
    (F__law_rows [.pin (jarD row k), .ro (ilD ps), .own (.imm (.int root)), .own (.imm (.bl large))]).sat fun d os => ∃ (rows : List Row) (k' : Int), RI n ps root rows ∧ rows.length ≤ 199 ∧ 0 ≤ k' ∧ d = .lst (rows.map (D.imm ∘ rwP)) ∧ os = [.pin (jarD row k'), .no, .no, .no] := by
  unfold F__law_rows m__law_rows
  rw [sat_runF]
  simp
  refine R.sat_mono (hung_ok hr hk hp hn h60 hroot h0) fun d os hh => ?_
  obtain ⟨rows, k1, hg, hk1, rfl, rfl⟩ := hh
  have hRI := hg.ri hroot
  have hl := hg.len
  simp
  refine R.sat_mono (take_ok hr hk1 (by decide)) fun d os hh => ?_
  obtain ⟨v, v1, v2, rfl, rfl⟩ := hh
  cases large with
  | true =>
    simp
    unfold t__law_rows_5
    simp
    refine ⟨lim62_of (by omega) (by omega), ?_⟩
    refine loose_loop hr (by omega) hp hn hRI (by omega) fun rows' k' s6 g1 g2 g3 g4 => ?_
    unfold t__law_rows_4
    simp
    refine t3_ok hr g3 g1 (by omega) rfl fun rows2 k2 L q1 q2 q3 => ?_
    simp
    exact ⟨rows2, q1, by omega, k2, q3, rfl, rfl⟩
  | false =>
    have h6 := h6 rfl
    simp
    unfold t__law_rows_5
    simp
    refine ⟨lim62_of (by omega) (by omega), ?_⟩
    obtain ⟨X, rfl⟩ : ∃ X : Nat, v = X := ⟨v.toNat, by omega⟩
    simp
    refine loose_loop hr (by omega) hp hn hRI (by omega) fun rows' k' s6 g1 g2 g3 g4 => ?_
    unfold t__law_rows_4
    simp
    have fin : ∀ {k2 : Int} {rows2 : List Row} {s6 s7 s8 s9 s10 s11 : MV.Slot} {N : En}, 0 ≤ k2 → RI n ps root rows2 → rows2.length ≤ 199 → (∀ (rows' : List Row) (k' : Int) (L : List MV.Slot), RI n ps root rows' → rows'.length = rows2.length → 0 ≤ k' → N.rt (.lst (rows'.map (D.imm ∘ rwP))) (.pin (jarD row k') :: .ro (ilD ps) :: .own (.imm (.int root)) :: .own (.imm (.bl false)) :: L)) →
        (t__law_rows_3 [.pin (jarD row k2), .ro (ilD ps), .own (.imm (.int root)), .own (.imm (.bl false)), .own (.lst (rows2.map (D.imm ∘ rwP))), .own (.imm (.int X)), s6, s7, s8, s9, s10, s11, .no]).sat N := fun h1 h2 h3 h4 => t3_ok hr h1 h2 h3 rfl h4
    refine ⟨fun hpos => ?_, fun _ => ?_⟩
    · refine R.sat_mono (take_ok hr g3 (by decide)) fun d os hh => ?_
      obtain ⟨w, w1, w2, rfl, rfl⟩ := hh
      simp
      refine ⟨lim62_of (by omega) (by omega), ?_⟩
      obtain ⟨Y, rfl⟩ : ∃ Y : Nat, w = Y := ⟨w.toNat, by omega⟩
      simp
      refine back_loop hr (by omega) g1 hpos (by omega) g4 fun rows2 k2 t6 t7 t8 t9 t10 t11 q1 q2 q3 => ?_
      refine fin q3 q1 (by omega) fun rows3 k3 L p1 p2 p3 => ?_
      simp
      exact ⟨rows3, p1, by omega, k3, p3, rfl, rfl⟩
    · refine fin g3 g1 (by omega) fun rows3 k3 L p1 p2 p3 => ?_
      simp
      exact ⟨rows3, p1, by omega, k3, p3, rfl, rfl⟩
end K22

set_option Elab.async false
set_option linter.all false
set_option maxRecDepth 100000
set_option maxHeartbeats 2000000
/-! k22, plain: names, units. -/
namespace K22
open PySem L2 MV Lb Lbf
def ptn (L : Str) (k : Nat) : Str := L ++ (toString (k : Int) : Str)
def ptsOf (L : Str) (n : Nat) : List Str := (List.range n).map (ptn L)
def Let (L : Str) : Prop := L = "p" ∨ L = "a.b" ∨ L = "0"
theorem nodup60 {L : Str} (h : Let L) : (ptsOf L 60).Nodup := by
  rcases h with h | h | h <;> subst h <;> decide +kernel
theorem pts_nodup {L : Str} {n : Nat} (h : Let L) (hn : n ≤ 60) : (ptsOf L n).Nodup := by
  have e : (ptsOf L n) = (ptsOf L 60).take n := by
    unfold ptsOf
    rw [← List.map_take, List.take_range]
    congr 2
    omega
  rw [e]
  exact (List.take_sublist _ _).nodup (nodup60 h)
theorem pts_len {L : Str} {n : Nat} : (ptsOf L n).length = n := by unfold ptsOf; simp
theorem ptOf_pts {L : Str} {n k : Nat} (h : k < n) : ptOf (ptsOf L n) k = ptn L k := by
  unfold ptOf ptsOf
  rw [List.getD_eq_getElem?_getD, List.getElem?_map, List.getElem?_range h]
  rfl
theorem cStr_i {i : Int} : cStr [.imm (.int i)] = if i.natAbs.log2 < 1920 then some (.imm (.str (toString i))) else none := (rfl)
theorem fAddL_s {a b : Str} (h : a.length + b.length ≤ sizeLine) : fAddL (.imm (.str a)) (.imm (.str b)) = some (.imm (.str (a ++ b))) := by
  show fAdd (.imm (.str a)) (.imm (.str b)) = _
  unfold fAdd
  simp only [if_pos h]
theorem name_el {L : Str} {k : Nat} (hL : Let L) (h : k < 60) : ∃ T : Str, cStr [.imm (.int k)] = some (.imm (.str T)) ∧ fAddL (.imm (.str L)) (.imm (.str T)) = some (.imm (.str (ptn L k))) := by
  have hl : ((k : Int)).natAbs.log2 < 1920 := by
    have := log2_of (x := k) (n := 6) (by omega)
    simp
    omega
  have hT : (toString (k : Int) : Str).length ≤ 10 := by
    have : ∀ k : Fin 60, (toString ((k.1 : Nat) : Int) : Str).length ≤ 10 := by decide +kernel
    exact this ⟨k, h⟩
  refine ⟨toString (k : Int), by rw [cStr_i, if_pos hl], ?_⟩
  unfold ptn
  refine fAddL_s ?_
  have hp : L.length ≤ 10 := by rcases hL with e | e | e <;> subst e <;> decide
  rw [sizeLine_num]
  omega
variable {row : List Int} {k : Int}
theorem unit_ok (hr : row ≠ []) (hk : 0 ≤ k) : (F__law_unit [.pin (jarD row k)]).sat fun d os => ∃ (u0 u1 k' : Int), UOk u0 u1 ∧ 0 ≤ k' ∧ d = .imm (.tup [.int u0, .int u1]) ∧ os = [.pin (jarD row k')] := by
  unfold F__law_unit m__law_unit
  rw [sat_runF]
  simp
  refine ⟨rfl, R.sat_mono (take_ok hr hk (by decide)) fun d os h => ?_⟩
  obtain ⟨v, v1, v2, rfl, rfl⟩ := h
  obtain ⟨x, hx, e⟩ := lit_in (xs := [D.imm (.int 1), .imm (.int 1), .imm (.int 1), .imm (.int 100000000000000000039)]) v1 v2
  obtain ⟨u0, rfl, a0, a1⟩ : ∃ u : Int, x = .imm (.int u) ∧ 1 ≤ u ∧ u ≤ 2 ^ 70 := by
    simp at hx
    rcases hx with e | e
    · exact ⟨_, e, by decide, by decide⟩
    · exact ⟨_, e, by decide, by decide⟩
  simp [e]
  refine ⟨rfl, R.sat_mono (take_ok hr (by omega) (by decide)) fun d os h => ?_⟩
  obtain ⟨w, w1, w2, rfl, rfl⟩ := h
  obtain ⟨y, hy, e'⟩ := lit_in (xs := [D.imm (.int 1), .imm (.int 2), .imm (.int 3), .imm (.int 1000000000000037)]) w1 w2
  obtain ⟨u1, rfl, b0, b1⟩ : ∃ u : Int, y = .imm (.int u) ∧ 1 ≤ u ∧ u ≤ 2 ^ 60 := by
    simp at hy
    rcases hy with e | e | e | e
    · exact ⟨_, e, by decide, by decide⟩
    · exact ⟨_, e, by decide, by decide⟩
    · exact ⟨_, e, by decide, by decide⟩
    · exact ⟨_, e, by decide, by decide⟩
  simp [e']
  exact ⟨u0, u1, ⟨a0, a1, b0, b1⟩, k + 1 + 1, by omega, ⟨rfl, rfl⟩, rfl⟩
end K22

set_option Elab.async false
set_option linter.all false
set_option maxRecDepth 100000
set_option maxHeartbeats 4000000
/-! k22, plain: the law's end. -/
namespace K22
open PySem L2 MV Lb Lbf
abbrev NT : En := { rt := fun d _ => d = .imm (.bl true) }
theorem RI.z {n : Nat} {ps : List Int} {root : Nat} {rows : List Row} {pts : List Str} (h : RI n ps root rows) (hl : rows.length ≤ 200) (hp : pts.length = n) : RowZ pts.length rows := ⟨by omega, fun r hr => by rw [hp]; exact (h.fit r hr).1⟩
theorem RI.fits {n : Nat} {ps : List Int} {root : Nat} {rows : List Row} (h : RI n ps root rows) : Fits (plOf ps) rows := fun r hr => (h.fit r hr).2
theorem t2law {row : List Int} {k : Int} {n root c : Nat} {large : Bool} {S s8 s15 : MV.Slot} {ps : List Int} {pts : List Str} {rows more : List Row} {u0 u1 : Int} (hr : row ≠ []) (hk : 0 ≤ k) (hn : 1 ≤ n) (h60 : n ≤ 60) (hroot : root < n) (h0 : plOf ps root = 0)
    (hu : UOk u0 u1) (hps : PsOk n ps) (nd : pts.Nodup) (hpl : pts.length = n) (hRI : RI n ps root rows) (hlr : rows.length ≤ 199) (hc : c ≤ rows.length) (hMI : RI n ps root more) (hlm : more.length ≤ 200) :
    (t_law_2 [S, .own (jarD row k), .own (.imm (.bl large)), .own (.imm (.int n)), .own (.imm (.int root)), .own (.imm (.tup [.int u0, .int u1])), .own (ilD ps), .no, s8, .own (.imm (ptP pts)), .no, Lf.imm.at rwP rows, .own (.imm (.tup [.str "set", rowsP pts (posR pts (plOf ps) u0 u1)])), .own (.imm (.int c)), Lf.imm.at rwP more, s15, .no, .no]).sat NT := by
  have zM := hMI.z hlm hpl
  have eS := spans_eq (lf := .imm) rfl hu zM
  have kM := rows_sys (u0 := u0) (u1 := u1) nd (by omega) hlm zM
  have eSet := is_set_eq kM (rows_sp hu zM) (fun p _ => posR_md (pts := pts) (pl := plOf ps) hu (fun v => by have := hps.at v; omega) p) (by omega)
  have sT := sat_true nd hu zM hMI.fits
  rw [show satB (more.map (spanOf pts u0 u1)) (posR pts (plOf ps) u0 u1) = true from sT] at eSet
  have eL := no_loop_eq (p := rowsP pts (posR pts (plOf ps) u0 u1)) kM
  generalize hPOS : posR pts (plOf ps) u0 u1 = pos at *
  unfold t_law_2
  simp [eS, eSet, eL]
  cases large with
  | true => simp
  | false =>
  simp
  refine R.sat_mono (take_ok hr hk (by omega)) fun d os h => ?_
  obtain ⟨v, v1, v2, rfl, rfl⟩ := h
  obtain ⟨K, rfl⟩ : ∃ m : Nat, v = m := ⟨v.toNat, by omega⟩
  have hK : K < n := by omega
  have iK := hps.item hK
  have p1 := cutP_pre (l := rows) hc
  have p2 := cutP_post (l := rows) hc
  obtain ⟨A, hA⟩ : ∃ A, A = rows.take c := ⟨_, rfl⟩
  obtain ⟨B, hB⟩ : ∃ B, B = rows.drop c := ⟨_, rfl⟩
  rw [← hA] at p1
  rw [← hB] at p2
  have hAB : A ++ B = rows := by rw [hA, hB, List.take_append_drop]
  have hABl : A.length + B.length = rows.length := by rw [← hAB, List.length_append]
  simp [iK, p1]
  refine R.sat_mono (take_ok hr (by omega) (by decide)) fun d os h => ?_
  obtain ⟨z, z1, z2, rfl, rfl⟩ := h
  obtain ⟨x, hx⟩ : ∃ x : Row, x = ⟨"w", root, K, plOf ps K + 1, plOf ps K + 1 + z⟩ := ⟨_, rfl⟩
  have ex : ([D.imm (.tup [.str "w", .int root, .int K, .int (plOf ps K + 1), .int (plOf ps K + 1 + z)])] : List D) = [x].map (D.imm ∘ rwP) := by rw [hx]; rfl
  have f1 := fAddL_l (f := rwP) (a := A) (b := [x]) (by simp; omega)
  have f2 := fAddL_l (f := rwP) (a := A ++ [x]) (b := B) (by simp; omega)
  rw [← ex] at f1
  simp [f1]
  rw [p2]
  rw [show List.map (D.imm ∘ rwP) A ++ [D.imm (rwP x)] = (A ++ [x]).map (D.imm ∘ rwP) from by simp, f2]
  have hW : ∀ r, r ∈ A ++ [x] ++ B ↔ r ∈ rows ∨ r = x := fun r => by
    rw [← hAB]
    simp only [List.mem_append, List.mem_singleton]
    constructor
    · rintro ((h | h) | h)
      · exact .inl (.inl h)
      · exact .inr h
      · exact .inl (.inr h)
    · rintro ((h | h) | h)
      · exact .inl (.inl h)
      · exact .inr h
      · exact .inl (.inr h)
  have hWl : (A ++ [x] ++ B).length = rows.length + 1 := by simp; omega
  clear f1 f2
  generalize A ++ [x] ++ B = Wr at hW hWl
  obtain ⟨b1, b2⟩ := hps.at K
  have zW : RowZ pts.length Wr := ⟨by omega, fun r h => by
    rcases (hW r).mp h with q | q
    · exact (hRI.z (by omega) hpl).2 r q
    · rw [q, hx, hpl]
      exact ⟨hroot, hK, by simp only []; omega, by simp only []; omega⟩⟩
  have eW := spans_eq (lf := .ro) rfl hu zW
  have kW := rows_sys (u0 := u0) (u1 := u1) nd (by omega) (by omega) zW
  have eWS := is_set_eq kW (rows_sp hu zW) (fun p _ => posR_md (pts := pts) (pl := plOf ps) hu (fun v => by have := hps.at v; omega) p) (by omega)
  have sF : satB (Wr.map (spanOf pts u0 u1)) (posR pts (plOf ps) u0 u1) = false := sat_false nd hu zW ((hW x).mpr (.inr rfl)) (by rw [hx]; simp only []; rw [h0]; omega)
  rw [sF, hPOS] at eWS
  have hno : ∀ C d, 0 < C → ¬ RfC C Wr d := fun C d hC hd => by
    have h1 := hRI.det C d hC (fun r h => hd r ((hW r).mpr (.inl h))) K hK
    have h2 := (hd x ((hW x).mpr (.inr rfl))).2
    rw [hx] at h2
    simp only [Int.add_mul] at h2
    omega
  have hR := solve_round (lf := .ro) nd (by omega) (by omega) (by omega) hu zW hno
  rw [← at_ro] at eW hR
  simp [eW]
  refine R.sat_mono hR fun d os h => ?_
  obtain ⟨rfl, p, rfl, e⟩ := h
  simp [e, eWS]
end K22

set_option Elab.async false
set_option linter.all false
set_option maxRecDepth 100000
set_option maxHeartbeats 4000000
/-! k22, plain: the law's tail. -/
namespace K22
open PySem L2 MV Lb Lbf
theorem t3law {row : List Int} {k : Int} {n : Nat} {large : Bool} {S : MV.Slot} (hr : row ≠ []) (hk : 0 ≤ k) (hn : 1 ≤ n) (h60 : n ≤ 60) (h6 : large = false → n ≤ 6) :
    (t_law_3 [S, .own (jarD row k), .own (.imm (.bl large)), .own (.imm (.int n)), .no, .no, .no, .no, .no, .no, .no, .no, .no, .no, .no, .no, .no, .no]).sat NT := by
  unfold t_law_3
  simp
  refine R.sat_mono (take_ok hr hk (by omega)) fun d os h => ?_
  obtain ⟨v, v1, v2, rfl, rfl⟩ := h
  obtain ⟨root, rfl⟩ : ∃ m : Nat, v = m := ⟨v.toNat, by omega⟩
  have hroot : root < n := by omega
  simp
  refine R.sat_mono (unit_ok hr (by omega)) fun d os h => ?_
  obtain ⟨u0, u1, k2, hu, hk2, rfl, rfl⟩ := h
  simp
  refine ⟨lim62_n (by omega), ?_⟩
  refine sat_lcJ (fun j acc ρ => ∃ (ps : List Int) (k' : Int), ps.length = j ∧ (∀ x ∈ ps, -29 ≤ x ∧ x ≤ 0) ∧ 0 ≤ k' ∧ acc = ps.map (D.imm ∘ P.int) ∧ ρ = [S, .own (jarD row k'), .own (.imm (.bl large)), .own (.imm (.int n)), .own (.imm (.int root)), .own (.imm (.tup [.int u0, .int u1])), .no, .no, .no, .no, .no, .no, .no, .no, .no, .no, .no, .no])
    rfl (by simp; omega) ⟨[], k2, rfl, (by intro r hr; cases hr), hk2, rfl, rfl⟩ (fun j p acc ρw hp h => ?_) (fun acc ρ' h => ?_)
  · obtain ⟨ps, k', g1, g2, g3, rfl, rfl⟩ := h
    obtain ⟨hj, rfl⟩ := rngL_get hp
    simp
    refine R.sat_mono (take_ok hr g3 (by decide)) fun d os h => ?_
    obtain ⟨x, x1, x2, rfl, rfl⟩ := h
    simp [wipeS]
    refine ⟨ps ++ [-x], by simp [g1], ?_, k' + 1, by omega, by simp, rfl⟩
    intro y hy
    rcases List.mem_append.mp hy with z | z
    · exact g2 y z
    · have : y = -x := by simpa using z
      omega
  obtain ⟨ps0, k3, g1, g2, g3, rfl, rfl⟩ := h
  simp at g1
  have hps : PsOk n (ps0.set root 0) := ⟨by simp [g1], fun x hx => by
    rcases List.mem_or_eq_of_mem_set hx with z | z
    · exact g2 x z
    · omega⟩
  have h0 : plOf (ps0.set root 0) root = 0 := by
    unfold plOf
    rw [List.getD_eq_getElem?_getD, List.getElem?_set_self (by omega)]
    rfl
  simp [restS, g1, hroot]
  rw [show (List.map (D.imm ∘ P.int) ps0).set root (D.imm (P.int 0)) = (ps0.set root 0).map (D.imm ∘ P.int) from by rw [List.map_set]; rfl]
  generalize ps0.set root 0 = ps at hps h0
  refine R.sat_mono (take_ok hr g3 (by decide)) fun d os h => ?_
  obtain ⟨w, w1, w2, rfl, rfl⟩ := h
  obtain ⟨x, hx, e⟩ := lit_in (xs := [D.imm (.str "p"), .imm (.str "a.b"), .imm (.str "0")]) w1 w2
  obtain ⟨L, rfl, hL⟩ : ∃ L : Str, x = .imm (.str L) ∧ Let L := by
    simp at hx
    rcases hx with e | e | e
    · exact ⟨_, e, .inl rfl⟩
    · exact ⟨_, e, .inr (.inl rfl)⟩
    · exact ⟨_, e, .inr (.inr rfl)⟩
  simp [e]
  refine ⟨lim62_n (by omega), ?_⟩
  rw [rngL_nat]
  refine sat_lcM (fun k => .imm (.str (ptn L k))) (by rfl) (by simp [wipeS, restS]) (by simp; omega) (fun k hk => ?_) ?_
  · have hk' := List.mem_range.mp hk
    unfold LcStep
    simp [wipeS]
    obtain ⟨T, e1, e2⟩ := name_el (k := k) hL (by omega)
    simp [e1, e2]
  have ep : P.tup (List.map (fun x => P.str (ptn L x)) (List.range n)) = ptP (ptsOf L n) := by unfold ptP ptsOf; rw [List.map_map]; rfl
  simp
  rw [ep]
  have nd := pts_nodup hL h60
  have hpl : (ptsOf L n).length = n := pts_len
  refine R.sat_mono (rows_ok large hr (by omega) hps hn h60 h6 hroot h0) fun d os h => ?_
  obtain ⟨rows, k4, hRI, hlr, hk4, rfl, rfl⟩ := h
  simp
  refine ⟨lim62_n (by omega), ?_⟩
  rw [rngL_nat]
  have hpn := hps.at
  refine sat_lcM (fun k => .imm (rowP (posR (ptsOf L n) (plOf ps) u0 u1) (ptn L k))) (by rfl) (by simp [wipeS, restS]) (by simp; omega) (fun k hk => ?_) ?_
  · have hk' := List.mem_range.mp hk
    have hi := ix_pt nd (k := k) (by omega)
    rw [ptOf_pts hk'] at hi
    have hz : (plOf ps k).natAbs ≤ 100 := by have := hpn k; omega
    have i1 := item_pts (pts := ptsOf L n) (k := k) (by omega)
    rw [ptOf_pts hk'] at i1
    have i2 := hps.item hk'
    unfold rowP posR
    rw [hi]
    generalize plOf ps k = y at hz i2
    generalize ptn L k = x at i1
    unfold LcStep
    simp [wipeS, ptP, i1, i2, hu.mul hz, hu.lowest hz]
  have er : (List.range n).map (fun k => rowP (posR (ptsOf L n) (plOf ps) u0 u1) (ptn L k)) = (ptsOf L n).map (rowP (posR (ptsOf L n) (plOf ps) u0 u1)) := by
    rw [show ptsOf L n = (List.range n).map (ptn L) from rfl, List.map_map]
    rfl
  simp
  rw [er]
  generalize hPT : ptsOf L n = pts at nd hpl er ep
  generalize hPOS : posR pts (plOf ps) u0 u1 = pos
  refine R.sat_mono (take_ok hr hk4 (by omega)) fun d os h => ?_
  obtain ⟨v, v1, v2, rfl, rfl⟩ := h
  obtain ⟨c, rfl⟩ : ∃ m : Nat, v = m := ⟨v.toNat, by omega⟩
  have hc : c ≤ rows.length := by omega
  have p1 := cutP_pre (l := rows) hc
  have p2 := cutP_post (l := rows) hc
  obtain ⟨A, hA⟩ : ∃ A, A = rows.take c := ⟨_, rfl⟩
  obtain ⟨B, hB⟩ : ∃ B, B = rows.drop c := ⟨_, rfl⟩
  rw [← hA] at p1
  rw [← hB] at p2
  have hAB : A ++ B = rows := by rw [hA, hB, List.take_append_drop]
  have hABl : A.length + B.length = rows.length := by rw [← hAB, List.length_append]
  simp [p1]
  refine R.sat_mono (loose_ok hr (by omega) hps hn) fun d os h => ?_
  obtain ⟨x, k5, hx, hk5, rfl, rfl⟩ := h
  have ex : ([D.imm (rwP x)] : List D) = [x].map (D.imm ∘ rwP) := rfl
  have f1 := fAddL_l (f := rwP) (a := A) (b := [x]) (by simp; omega)
  have f2 := fAddL_l (f := rwP) (a := A ++ [x]) (b := B) (by simp; omega)
  rw [← ex] at f1
  simp [f1]
  rw [p2, show List.map (D.imm ∘ rwP) A ++ [D.imm (rwP x)] = (A ++ [x]).map (D.imm ∘ rwP) from by simp, f2]
  have hM : ∀ r, r ∈ A ++ [x] ++ B ↔ r ∈ rows ∨ r = x := fun r => by
    rw [← hAB]
    simp only [List.mem_append, List.mem_singleton]
    constructor
    · rintro ((h | h) | h)
      · exact .inl (.inl h)
      · exact .inr h
      · exact .inl (.inr h)
    · rintro ((h | h) | h)
      · exact .inl (.inl h)
      · exact .inr h
      · exact .inl (.inr h)
  have hMl : (A ++ [x] ++ B).length = rows.length + 1 := by simp; omega
  clear f1 f2
  generalize A ++ [x] ++ B = M at hM hMl
  have hMI : RI n ps root M := hRI.more (fun r h => (hM r).mpr (.inl h)) fun r h => ((hM r).mp h).imp id fun e => by rw [e]; exact hx
  simp
  obtain ⟨RV, hRV⟩ : ∃ RV, RV = rows.reverse := ⟨_, rfl⟩
  have fr : fRev (.imm (.lst (rows.map rwP))) = some (.lst (RV.map (D.imm ∘ rwP))) := by rw [hRV]; exact fRev_lf (lf := .imm)
  have hVI : RI n ps root RV := hRI.same fun r => by rw [hRV]; exact List.mem_reverse
  have hVl : RV.length = rows.length := by rw [hRV, List.length_reverse]
  clear hRV
  simp [fr]
  have hdue : okS 8 (.tup [.str "set", .tup (pts.map (rowP pos))]) = true := by
    have : pts.length ≤ 100000 := by omega
    simp [okS, this, rowP, frP]
  have hsame := same_eq 8 _ hdue
  rw [show [P.lst (rows.map rwP), .lst (RV.map rwP), .lst (M.map rwP)] = [rows, RV, M].map (fun R => P.lst (R.map rwP)) from rfl]
  refine sat_listF (fun ds ρ => ∃ s15, frees (some s15) = true ∧ ρ = [S, .own (jarD row k5), .own (.imm (.bl large)), .own (.imm (.int n)), .own (.imm (.int root)), .own (.imm (.tup [.int u0, .int u1])), .own (ilD ps), .no, .own (.imm (.str L)), .own (.imm (ptP pts)), .no, .own (.imm (.lst (rows.map rwP))), .own (.imm (.tup [.str "set", rowsP pts pos])), .own (.imm (.int c)), .own (.imm (.lst (M.map rwP))), s15, .no, .no]) ⟨.no, rfl, rfl⟩ (fun ds R rest ρ eD h => ?_) (fun ρ h => ?_)
  · obtain ⟨s15, h15, rfl⟩ := h
    have hRI' : RI n ps root R ∧ R.length ≤ 200 := by
      have : R ∈ [rows, RV, M] := by rw [eD]; simp
      simp at this
      rcases this with q | q | q <;> rw [q]
      · exact ⟨hRI, by omega⟩
      · exact ⟨hVI, by omega⟩
      · exact ⟨hMI, by omega⟩
    obtain ⟨hR, hRl⟩ := hRI'
    have zR := hR.z hRl hpl
    have eS := spans_eq (lf := .imm) rfl hu zR
    rw [← at_imm] at eS
    have eV := solve_set nd (by omega) hRl hu zR hR.fits (by rw [hpl]; exact hR.det) (by omega) h0 (fun v => (hps.at v).2)
    rw [hPOS] at eV
    unfold b_law_1
    simp [h15, eS, eV, hsame]
  · obtain ⟨s15, h15, rfl⟩ := h
    have := t2law (S := S) (s8 := .own (.imm (.str L))) (s15 := s15) (large := large) (c := c) hr hk5 hn h60 hroot h0 hu hps nd hpl hRI hlr hc hMI (by omega)
    rw [hPOS] at this
    exact this
end K22

set_option Elab.async false
set_option linter.all false
set_option maxRecDepth 100000
set_option maxHeartbeats 4000000
/-! k22, plain: the law. -/
namespace K22
open PySem L2 MV Lb Lbf
theorem plain (ns : List Int) (hl : ns.length ≤ 63) : ∃ ρ, F_law [.own (.imm (.lst (ns.map P.int)))] = .ok (.imm (.bl true)) ρ := by
  have main : (F_law [.own (.imm (.lst (ns.map P.int)))]).sat fun r os => r = .imm (.bl true) := by
    unfold F_law m_law
    rw [sat_runF]
    simp
    refine R.sat_mono (jar_ok hl (by decide) (by decide)) fun d os h => ?_
    obtain ⟨row, hr, rfl, rfl⟩ := h
    simp
    refine R.sat_mono (take_ok hr (by decide) (by decide)) fun d os h => ?_
    obtain ⟨v, h1, h2, rfl, rfl⟩ := h
    simp
    refine R.sat_mono (take_ok hr (by decide) (by decide)) fun d os h => ?_
    obtain ⟨w, h3, h4, rfl, rfl⟩ := h
    simp
    refine ⟨fun hv => ?_, fun hv => ?_⟩
    · refine R.sat_mono (take_ok hr (by decide) (by decide)) fun d os h => ?_
      obtain ⟨x, x1, x2, rfl, rfl⟩ := h
      obtain ⟨n, hn⟩ : ∃ n : Nat, 20 + x = (n : Int) := ⟨(20 + x).toNat, by omega⟩
      simp [hn, hv]
      exact SR.sat_mono (t3law (large := true) hr (by decide) (by omega) (by omega) (fun h => nomatch h)) (fun ρ h => h.elim) (fun ρ h => h.elim) (fun ρ h => h.elim) (fun d ρ h => h)
    · obtain ⟨n, hn⟩ : ∃ n : Nat, 1 + w = (n : Int) := ⟨(1 + w).toNat, by omega⟩
      simp [hn, hv]
      exact SR.sat_mono (t3law (large := false) hr (by decide) (by omega) (by omega) (fun _ => by omega)) (fun ρ h => h.elim) (fun ρ h => h.elim) (fun ρ h => h.elim) (fun d ρ h => h)
  obtain ⟨a, ρ, e, h⟩ := R.of_sat main
  subst h
  exact ⟨ρ, e⟩
end K22

set_option Elab.async false
set_option linter.all false
set_option maxRecDepth 100000
set_option maxHeartbeats 8000000
/-! That they do; the head. Printed by gen.py. -/
namespace K22
open PySem PySem.Spec PyProof.Rows L2 MV
def top (i : Nat) : Stmt := PySem.Challenge.pw_millbench_k22_hung_points.main.body.getD i (.Pass ⟨0, 0, 0, 0⟩)
abbrev st__law_jar : Stmt := top 38
theorem sc__law_jar : FnScope ["script", "most", "found", "seed", "k", "cell", "step"] ["script", "most"] (defScope st__law_jar) := ⟨rfl, rfl, rfl, by decide +kernel, rfl, by decide +kernel, by decide +kernel⟩
abbrev st__law_take : Stmt := top 39
theorem sc__law_take : FnScope ["jar", "many", "number"] ["jar", "many"] (defScope st__law_take) := ⟨rfl, rfl, rfl, by decide +kernel, rfl, by decide +kernel, by decide +kernel⟩
abbrev st__law_unit : Stmt := top 44
theorem sc__law_unit : FnScope ["jar", "over_one"] ["jar"] (defScope st__law_unit) := ⟨rfl, rfl, rfl, by decide +kernel, rfl, by decide +kernel, by decide +kernel⟩
abbrev st__law_hung : Stmt := top 45
theorem sc__law_hung : FnScope ["jar", "places", "root", "many", "rows", "t", "k", "j", "gap", "room"] ["jar", "places", "root"] (defScope st__law_hung) := ⟨rfl, rfl, rfl, by decide +kernel, rfl, by decide +kernel, by decide +kernel⟩
abbrev st__law_loose : Stmt := top 46
theorem sc__law_loose : FnScope ["jar", "places", "a", "b", "gap"] ["jar", "places"] (defScope st__law_loose) := ⟨rfl, rfl, rfl, by decide +kernel, rfl, by decide +kernel, by decide +kernel⟩
abbrev st__law_rows : Stmt := top 47
theorem sc__law_rows : FnScope ["jar", "places", "root", "is_large", "rows", "extra", "_", "name", "a", "b", "lo", "hi", "cut"] ["jar", "places", "root", "is_large"] (defScope st__law_rows) := ⟨rfl, rfl, rfl, by decide +kernel, rfl, by decide +kernel, by decide +kernel⟩
abbrev st__law_gcd : Stmt := top 42
theorem sc__law_gcd : FnScope ["a", "b", "_"] ["a", "b"] (defScope st__law_gcd) := ⟨rfl, rfl, rfl, by decide +kernel, rfl, by decide +kernel, by decide +kernel⟩
abbrev st__law_lowest : Stmt := top 43
theorem sc__law_lowest : FnScope ["p", "q", "shared"] ["p", "q"] (defScope st__law_lowest) := ⟨rfl, rfl, rfl, by decide +kernel, rfl, by decide +kernel, by decide +kernel⟩
abbrev st__law_spans : Stmt := top 48
theorem sc__law_spans : FnScope ["rows", "points", "unit", "found", "name", "a", "b", "lo", "hi", "low", "high"] ["rows", "points", "unit"] (defScope st__law_spans) := ⟨rfl, rfl, rfl, by decide +kernel, rfl, by decide +kernel, by decide +kernel⟩
abbrev st__law_is_whole : Stmt := top 40
theorem sc__law_is_whole : FnScope ["value"] ["value"] (defScope st__law_is_whole) := ⟨rfl, rfl, rfl, by decide +kernel, rfl, by decide +kernel, by decide +kernel⟩
abbrev st__law_same : Stmt := top 41
theorem sc__law_same : FnScope ["told", "due", "k"] ["told", "due"] (defScope st__law_same) := ⟨rfl, rfl, rfl, by decide +kernel, rfl, by decide +kernel, by decide +kernel⟩
abbrev st__law_is_round : Stmt := top 49
theorem sc__law_is_round : FnScope ["rows", "paper", "steps", "length", "first", "here", "step", "start", "end", "more"] ["rows", "paper"] (defScope st__law_is_round) := ⟨rfl, rfl, rfl, by decide +kernel, rfl, by decide +kernel, by decide +kernel⟩
abbrev st_first_duplicate : Stmt := top 8
theorem sc_first_duplicate : FnScope ["names", "seen", "name"] ["names"] (defScope st_first_duplicate) := ⟨rfl, rfl, rfl, by decide +kernel, rfl, by decide +kernel, by decide +kernel⟩
abbrev st_check_system : Stmt := top 22
theorem sc_check_system : FnScope ["points", "spans", "twice", "span", "place"] ["points", "spans"] (defScope st_check_system) := ⟨rfl, rfl, rfl, by decide +kernel, rfl, by decide +kernel, by decide +kernel⟩
abbrev st_has_form : Stmt := top 34
theorem sc_has_form : FnScope ["paper", "word", "size"] ["paper", "word", "size"] (defScope st_has_form) := ⟨rfl, rfl, rfl, by decide +kernel, rfl, by decide +kernel, by decide +kernel⟩
abbrev st_is_whole : Stmt := top 11
theorem sc_is_whole : FnScope ["value"] ["value"] (defScope st_is_whole) := ⟨rfl, rfl, rfl, by decide +kernel, rfl, by decide +kernel, by decide +kernel⟩
abbrev st_is_fraction : Stmt := top 12
theorem sc_is_fraction : FnScope ["value"] ["value"] (defScope st_is_fraction) := ⟨rfl, rfl, rfl, by decide +kernel, rfl, by decide +kernel, by decide +kernel⟩
abbrev st_read_positions : Stmt := top 32
theorem sc_read_positions : FnScope ["points", "rows", "found", "k", "row"] ["points", "rows"] (defScope st_read_positions) := ⟨rfl, rfl, rfl, by decide +kernel, rfl, by decide +kernel, by decide +kernel⟩
abbrev st_fraction : Stmt := top 13
theorem sc_fraction : FnScope ["p", "q", "shared"] ["p", "q"] (defScope st_fraction) := ⟨rfl, rfl, rfl, by decide +kernel, rfl, by decide +kernel, by decide +kernel⟩
abbrev st_minus : Stmt := top 15
theorem sc_minus : FnScope ["a", "b"] ["a", "b"] (defScope st_minus) := ⟨rfl, rfl, rfl, by decide +kernel, rfl, by decide +kernel, by decide +kernel⟩
abbrev st_compare : Stmt := top 16
theorem sc_compare : FnScope ["a", "b", "left", "right"] ["a", "b"] (defScope st_compare) := ⟨rfl, rfl, rfl, by decide +kernel, rfl, by decide +kernel, by decide +kernel⟩
abbrev st_are_rows_of_set : Stmt := top 33
theorem sc_are_rows_of_set : FnScope ["points", "spans", "rows", "found", "_", "a", "b", "lo", "hi", "gap"] ["points", "spans", "rows"] (defScope st_are_rows_of_set) := ⟨rfl, rfl, rfl, by decide +kernel, rfl, by decide +kernel, by decide +kernel⟩
abbrev st_is_set : Stmt := top 35
theorem sc_is_set : FnScope ["points", "spans", "paper"] ["points", "spans", "paper"] (defScope st_is_set) := ⟨rfl, rfl, rfl, by decide +kernel, rfl, by decide +kernel, by decide +kernel⟩
abbrev st_step_ends : Stmt := top 30
theorem sc_step_ends : FnScope ["spans", "step", "_", "a", "b", "lo", "hi"] ["spans", "step"] (defScope st_step_ends) := ⟨rfl, rfl, rfl, by decide +kernel, rfl, by decide +kernel, by decide +kernel⟩
abbrev st_plus : Stmt := top 14
theorem sc_plus : FnScope ["a", "b"] ["a", "b"] (defScope st_plus) := ⟨rfl, rfl, rfl, by decide +kernel, rfl, by decide +kernel, by decide +kernel⟩
abbrev st_is_step : Stmt := top 29
theorem sc_is_step : FnScope ["spans", "step"] ["spans", "step"] (defScope st_is_step) := ⟨rfl, rfl, rfl, by decide +kernel, rfl, by decide +kernel, by decide +kernel⟩
abbrev st_walk_length : Stmt := top 31
theorem sc_walk_length : FnScope ["spans", "a", "b", "steps", "place", "length", "step", "start", "end", "more"] ["spans", "a", "b", "steps"] (defScope st_walk_length) := ⟨rfl, rfl, rfl, by decide +kernel, rfl, by decide +kernel, by decide +kernel⟩
abbrev st_is_loop : Stmt := top 36
theorem sc_is_loop : FnScope ["points", "spans", "paper", "steps", "start", "length"] ["points", "spans", "paper"] (defScope st_is_loop) := ⟨rfl, rfl, rfl, by decide +kernel, rfl, by decide +kernel, by decide +kernel⟩
abbrev st_common : Stmt := top 17
theorem sc_common : FnScope ["values", "result", "value"] ["values"] (defScope st_common) := ⟨rfl, rfl, rfl, by decide +kernel, rfl, by decide +kernel, by decide +kernel⟩
abbrev st_edges_of : Stmt := top 23
theorem sc_edges_of : FnScope ["points", "spans", "scale", "span", "index", "k", "edges", "_", "a", "b", "lo", "hi", "low", "high"] ["points", "spans"] (defScope st_edges_of) := ⟨rfl, rfl, rfl, by decide +kernel, rfl, by decide +kernel, by decide +kernel⟩
abbrev st_relax : Stmt := top 24
theorem sc_relax : FnScope ["distances", "back", "edges", "changed", "k", "start", "end", "length", "_", "found"] ["distances", "back", "edges"] (defScope st_relax) := ⟨rfl, rfl, rfl, by decide +kernel, rfl, by decide +kernel, by decide +kernel⟩
abbrev st_settle : Stmt := top 25
theorem sc_settle : FnScope ["distances", "back", "edges", "changed", "_"] ["distances", "back", "edges"] (defScope st_settle) := ⟨rfl, rfl, rfl, by decide +kernel, rfl, by decide +kernel, by decide +kernel⟩
abbrev st_positions : Stmt := top 27
theorem sc_positions : FnScope ["points", "distances", "scale", "k"] ["points", "distances", "scale"] (defScope st_positions) := ⟨rfl, rfl, rfl, by decide +kernel, rfl, by decide +kernel, by decide +kernel⟩
abbrev st_loop_through : Stmt := top 26
theorem sc_loop_through : FnScope ["edges", "back", "node", "count", "_", "steps", "place", "edge"] ["edges", "back", "node", "count"] (defScope st_loop_through) := ⟨rfl, rfl, rfl, by decide +kernel, rfl, by decide +kernel, by decide +kernel⟩
abbrev st_solve : Stmt := top 28
theorem sc_solve : FnScope ["points", "spans", "edges", "scale", "distances", "_", "back", "changed"] ["points", "spans"] (defScope st_solve) := ⟨rfl, rfl, rfl, by decide +kernel, rfl, by decide +kernel, by decide +kernel⟩
abbrev st_law : Stmt := top 50
theorem sc_law : FnScope ["script", "jar", "is_large", "many", "root", "unit", "places", "_", "letter", "points", "k", "rows", "due", "at", "more", "system", "spans", "wrong"] ["script"] (defScope st_law) := ⟨rfl, rfl, rfl, by decide +kernel, rfl, by decide +kernel, by decide +kernel⟩
structure Ev0 (K : PySem.W.Frag) (mg : Str → Option Value) where
  a__law_jar : Addr
  d__law_jar : FuncData
  f__law_jar : Fun K "_law_jar" "_law_jar" st__law_jar a__law_jar d__law_jar
  g__law_jar : mg "_law_jar" = some (.ref a__law_jar)
  bd__law_jar : Binds K d__law_jar ["script", "most"] []
  a__law_take : Addr
  d__law_take : FuncData
  f__law_take : Fun K "_law_take" "_law_take" st__law_take a__law_take d__law_take
  g__law_take : mg "_law_take" = some (.ref a__law_take)
  bd__law_take : Binds K d__law_take ["jar", "many"] []
  a__law_unit : Addr
  d__law_unit : FuncData
  f__law_unit : Fun K "_law_unit" "_law_unit" st__law_unit a__law_unit d__law_unit
  g__law_unit : mg "_law_unit" = some (.ref a__law_unit)
  bd__law_unit : Binds K d__law_unit ["jar"] []
  a__law_hung : Addr
  d__law_hung : FuncData
  f__law_hung : Fun K "_law_hung" "_law_hung" st__law_hung a__law_hung d__law_hung
  g__law_hung : mg "_law_hung" = some (.ref a__law_hung)
  bd__law_hung : Binds K d__law_hung ["jar", "places", "root"] []
  a__law_loose : Addr
  d__law_loose : FuncData
  f__law_loose : Fun K "_law_loose" "_law_loose" st__law_loose a__law_loose d__law_loose
  g__law_loose : mg "_law_loose" = some (.ref a__law_loose)
  bd__law_loose : Binds K d__law_loose ["jar", "places"] []
  a__law_rows : Addr
  d__law_rows : FuncData
  f__law_rows : Fun K "_law_rows" "_law_rows" st__law_rows a__law_rows d__law_rows
  g__law_rows : mg "_law_rows" = some (.ref a__law_rows)
  bd__law_rows : Binds K d__law_rows ["jar", "places", "root", "is_large"] []
  a__law_gcd : Addr
  d__law_gcd : FuncData
  f__law_gcd : Fun K "_law_gcd" "_law_gcd" st__law_gcd a__law_gcd d__law_gcd
  g__law_gcd : mg "_law_gcd" = some (.ref a__law_gcd)
  bd__law_gcd : Binds K d__law_gcd ["a", "b"] []
  a__law_lowest : Addr
  d__law_lowest : FuncData
  f__law_lowest : Fun K "_law_lowest" "_law_lowest" st__law_lowest a__law_lowest d__law_lowest
  g__law_lowest : mg "_law_lowest" = some (.ref a__law_lowest)
  bd__law_lowest : Binds K d__law_lowest ["p", "q"] []
  a__law_spans : Addr
  d__law_spans : FuncData
  f__law_spans : Fun K "_law_spans" "_law_spans" st__law_spans a__law_spans d__law_spans
  g__law_spans : mg "_law_spans" = some (.ref a__law_spans)
  bd__law_spans : Binds K d__law_spans ["rows", "points", "unit"] []
  a__law_is_whole : Addr
  d__law_is_whole : FuncData
  f__law_is_whole : Fun K "_law_is_whole" "_law_is_whole" st__law_is_whole a__law_is_whole d__law_is_whole
  g__law_is_whole : mg "_law_is_whole" = some (.ref a__law_is_whole)
  bd__law_is_whole : Binds K d__law_is_whole ["value"] []
  a__law_same : Addr
  d__law_same : FuncData
  f__law_same : Fun K "_law_same" "_law_same" st__law_same a__law_same d__law_same
  g__law_same : mg "_law_same" = some (.ref a__law_same)
  bd__law_same : Binds K d__law_same ["told", "due"] []
  a__law_is_round : Addr
  d__law_is_round : FuncData
  f__law_is_round : Fun K "_law_is_round" "_law_is_round" st__law_is_round a__law_is_round d__law_is_round
  g__law_is_round : mg "_law_is_round" = some (.ref a__law_is_round)
  bd__law_is_round : Binds K d__law_is_round ["rows", "paper"] []
  a_first_duplicate : Addr
  d_first_duplicate : FuncData
  f_first_duplicate : Fun K "first_duplicate" "first_duplicate" st_first_duplicate a_first_duplicate d_first_duplicate
  g_first_duplicate : mg "first_duplicate" = some (.ref a_first_duplicate)
  bd_first_duplicate : Binds K d_first_duplicate ["names"] []
  a_check_system : Addr
  d_check_system : FuncData
  f_check_system : Fun K "check_system" "check_system" st_check_system a_check_system d_check_system
  g_check_system : mg "check_system" = some (.ref a_check_system)
  bd_check_system : Binds K d_check_system ["points", "spans"] []
  a_has_form : Addr
  d_has_form : FuncData
  f_has_form : Fun K "has_form" "has_form" st_has_form a_has_form d_has_form
  g_has_form : mg "has_form" = some (.ref a_has_form)
  bd_has_form : Binds K d_has_form ["paper", "word", "size"] []
  a_is_whole : Addr
  d_is_whole : FuncData
  f_is_whole : Fun K "is_whole" "is_whole" st_is_whole a_is_whole d_is_whole
  g_is_whole : mg "is_whole" = some (.ref a_is_whole)
  bd_is_whole : Binds K d_is_whole ["value"] []
  a_is_fraction : Addr
  d_is_fraction : FuncData
  f_is_fraction : Fun K "is_fraction" "is_fraction" st_is_fraction a_is_fraction d_is_fraction
  g_is_fraction : mg "is_fraction" = some (.ref a_is_fraction)
  bd_is_fraction : Binds K d_is_fraction ["value"] []
  a_read_positions : Addr
  d_read_positions : FuncData
  f_read_positions : Fun K "read_positions" "read_positions" st_read_positions a_read_positions d_read_positions
  g_read_positions : mg "read_positions" = some (.ref a_read_positions)
  bd_read_positions : Binds K d_read_positions ["points", "rows"] []
  a_fraction : Addr
  d_fraction : FuncData
  f_fraction : Fun K "fraction" "fraction" st_fraction a_fraction d_fraction
  g_fraction : mg "fraction" = some (.ref a_fraction)
  bd_fraction : Binds K d_fraction ["p", "q"] []
  a_minus : Addr
  d_minus : FuncData
  f_minus : Fun K "minus" "minus" st_minus a_minus d_minus
  g_minus : mg "minus" = some (.ref a_minus)
  bd_minus : Binds K d_minus ["a", "b"] []
  a_compare : Addr
  d_compare : FuncData
  f_compare : Fun K "compare" "compare" st_compare a_compare d_compare
  g_compare : mg "compare" = some (.ref a_compare)
  bd_compare : Binds K d_compare ["a", "b"] []
  a_are_rows_of_set : Addr
  d_are_rows_of_set : FuncData
  f_are_rows_of_set : Fun K "are_rows_of_set" "are_rows_of_set" st_are_rows_of_set a_are_rows_of_set d_are_rows_of_set
  g_are_rows_of_set : mg "are_rows_of_set" = some (.ref a_are_rows_of_set)
  bd_are_rows_of_set : Binds K d_are_rows_of_set ["points", "spans", "rows"] []
  a_is_set : Addr
  d_is_set : FuncData
  f_is_set : Fun K "is_set" "is_set" st_is_set a_is_set d_is_set
  g_is_set : mg "is_set" = some (.ref a_is_set)
  bd_is_set : Binds K d_is_set ["points", "spans", "paper"] []
  a_step_ends : Addr
  d_step_ends : FuncData
  f_step_ends : Fun K "step_ends" "step_ends" st_step_ends a_step_ends d_step_ends
  g_step_ends : mg "step_ends" = some (.ref a_step_ends)
  bd_step_ends : Binds K d_step_ends ["spans", "step"] []
  a_plus : Addr
  d_plus : FuncData
  f_plus : Fun K "plus" "plus" st_plus a_plus d_plus
  g_plus : mg "plus" = some (.ref a_plus)
  bd_plus : Binds K d_plus ["a", "b"] []
  a_is_step : Addr
  d_is_step : FuncData
  f_is_step : Fun K "is_step" "is_step" st_is_step a_is_step d_is_step
  g_is_step : mg "is_step" = some (.ref a_is_step)
  bd_is_step : Binds K d_is_step ["spans", "step"] []
  a_walk_length : Addr
  d_walk_length : FuncData
  f_walk_length : Fun K "walk_length" "walk_length" st_walk_length a_walk_length d_walk_length
  g_walk_length : mg "walk_length" = some (.ref a_walk_length)
  bd_walk_length : Binds K d_walk_length ["spans", "a", "b", "steps"] []
  a_is_loop : Addr
  d_is_loop : FuncData
  f_is_loop : Fun K "is_loop" "is_loop" st_is_loop a_is_loop d_is_loop
  g_is_loop : mg "is_loop" = some (.ref a_is_loop)
  bd_is_loop : Binds K d_is_loop ["points", "spans", "paper"] []
  a_common : Addr
  d_common : FuncData
  f_common : Fun K "common" "common" st_common a_common d_common
  g_common : mg "common" = some (.ref a_common)
  bd_common : Binds K d_common ["values"] []
  a_edges_of : Addr
  d_edges_of : FuncData
  f_edges_of : Fun K "edges_of" "edges_of" st_edges_of a_edges_of d_edges_of
  g_edges_of : mg "edges_of" = some (.ref a_edges_of)
  bd_edges_of : Binds K d_edges_of ["points", "spans"] []
  a_relax : Addr
  d_relax : FuncData
  f_relax : Fun K "relax" "relax" st_relax a_relax d_relax
  g_relax : mg "relax" = some (.ref a_relax)
  bd_relax : Binds K d_relax ["distances", "back", "edges"] []
  a_settle : Addr
  d_settle : FuncData
  f_settle : Fun K "settle" "settle" st_settle a_settle d_settle
  g_settle : mg "settle" = some (.ref a_settle)
  bd_settle : Binds K d_settle ["distances", "back", "edges"] []
  a_positions : Addr
  d_positions : FuncData
  f_positions : Fun K "positions" "positions" st_positions a_positions d_positions
  g_positions : mg "positions" = some (.ref a_positions)
  bd_positions : Binds K d_positions ["points", "distances", "scale"] []
  a_loop_through : Addr
  d_loop_through : FuncData
  f_loop_through : Fun K "loop_through" "loop_through" st_loop_through a_loop_through d_loop_through
  g_loop_through : mg "loop_through" = some (.ref a_loop_through)
  bd_loop_through : Binds K d_loop_through ["edges", "back", "node", "count"] []
  a_solve : Addr
  d_solve : FuncData
  f_solve : Fun K "solve" "solve" st_solve a_solve d_solve
  g_solve : mg "solve" = some (.ref a_solve)
  bd_solve : Binds K d_solve ["points", "spans"] []
  a_law : Addr
  d_law : FuncData
  f_law : Fun K "law" "law" st_law a_law d_law
  bd_law : Binds K d_law ["script"] []
  n_len : mg "len" = none
  n_min : mg "min" = none
  n_range : mg "range" = none
  n_int : mg "int" = none
  n_abs : mg "abs" = none
  n_tuple : mg "tuple" = none
  n_isinstance : mg "isinstance" = none
  n_bool : mg "bool" = none
  n_list : mg "list" = none
  n_str : mg "str" = none
  b_gcd : mg "gcd" = some (.builtin "math.gcd")
  b_lcm : mg "lcm" = some (.builtin "math.lcm")
  c_MOST_POINTS : IsDat K mg "MOST_POINTS" Lb.k_MOST_POINTS
  c_MOST_SPANS : IsDat K mg "MOST_SPANS" Lb.k_MOST_SPANS
  c_ZERO : IsDat K mg "ZERO" Lb.k_ZERO
  c_MOST_STEPS : IsDat K mg "MOST_STEPS" Lb.k_MOST_STEPS
section
variable {P : Program} {w : World} {K : PySem.W.Frag} {mg : Str → Option Value} {base : Heap}
theorem ok__law_jar (E : Ev0 K mg) : FnOk P w K mg base (L2.CX P w) 1 E.a__law_jar E.d__law_jar ["script", "most"] (spD K mg 2 Jar.F_jar) :=
  by
    unfold Jar.F_jar
    exact def_ok (N := ["script", "most", "found", "seed", "k", "cell", "step"]) (k := 0) (m := Jar.m_jar) E.f__law_jar sc__law_jar fun cdv A outer s H Ex hr X eX tk px => by
      unfold Jar.m_jar Jar.b_jar
      exact (DB.cons (DS.set 2 sc__law_jar.nd (DE.lst DA.nil))
    (DB.cons (DS.set 3 sc__law_jar.nd DE.int)
    (DB.cons (DS.for px rfl (DI.rng1 E.n_range (DV.cons (DE.callB (call_min2 rfl) cd_min2 E.n_min (DV.cons (DE.callB call_len cd_len E.n_len (DV.cons (DE.name 0) DV.nil)) (DV.cons DE.int DV.nil))) DV.nil)) (DG.nm 4 sc__law_jar.nd) (DB.cons (DS.set 5 sc__law_jar.nd (DE.callB call_abs cd_abs E.n_abs (DV.cons (DE.callTy call_int1 cd_int E.n_int (DV.cons (DE.getN 0 (hu_of hr) (DE.name 4)) DV.nil)) DV.nil)))
      (DB.cons (DS.set 3 sc__law_jar.nd (DE.bin op_mod opd_mod (DE.callTy call_int1 cd_int E.n_int (DV.cons (DE.bin op_add3 opd_add (DE.bin op_add3 opd_add (DE.bin op_mul2 opd_mul (DE.name 3) DE.int) (DE.bin op_mul2 opd_mul (DE.name 5) DE.int)) (DE.name 4)) DV.nil)) DE.int))
      (DB.one (DS.ite (DT.cmp op_lt2 opd_lt (DE.name 5) (DE.bin op_pow opd_pow DE.int DE.int) (nomark _)) (DB.cons (DS.app 2 (DE.bin op_mod opd_mod (DE.callTy call_int1 cd_int E.n_int (DV.cons (DE.bin op_add3 opd_add (DE.bin op_add3 opd_add (DE.bin op_mul2 opd_mul (DE.name 5) DE.int) (DE.bin op_mul2 opd_mul (DE.name 4) DE.int)) DE.int) DV.nil)) DE.int))
        (DB.one (DS.app 2 (DE.bin op_mod opd_mod (DE.callTy call_int1 cd_int E.n_int (DV.cons (DE.bin op_add3 opd_add (DE.bin op_add3 opd_add (DE.bin op_add3 opd_add (DE.bin op_mul2 opd_mul (DE.bin op_mul2 opd_mul (DE.name 5) (DE.name 5)) DE.int) (DE.bin op_mul2 opd_mul (DE.name 5) DE.int)) (DE.bin op_mul2 opd_mul (DE.name 4) DE.int)) DE.int) DV.nil)) DE.int)))) (DB.one (DS.for px rfl (DI.rng1 E.n_range (DV.cons (DE.name 1) DV.nil)) (DG.nm 6 sc__law_jar.nd) (DB.one (DS.ite (DT.cmp op_gt2 opd_gt (DE.name 5) DE.int (nomark _)) (DB.cons (DS.app 2 (DE.bin op_mod opd_mod (DE.callTy call_int1 cd_int E.n_int (DV.cons (DE.name 5) DV.nil)) DE.int))
            (DB.one (DS.set 5 sc__law_jar.nd (DE.bin op_fdivW opd_fdiv (DE.name 5) DE.int)))) DB.nil)))))))))
    (DB.cons (DS.for px rfl (DI.rng1 E.n_range (DV.cons (DE.name 1) DV.nil)) (DG.nm 4 sc__law_jar.nd) (DB.cons (DS.set 3 sc__law_jar.nd (DE.bin op_mod opd_mod (DE.callTy call_int1 cd_int E.n_int (DV.cons (DE.bin op_add3 opd_add (DE.bin op_add3 opd_add (DE.bin op_add3 opd_add (DE.bin op_mul2 opd_mul (DE.name 3) (DE.name 3)) (DE.bin op_mul2 opd_mul (DE.name 3) DE.int)) (DE.bin op_mul2 opd_mul (DE.name 4) DE.int)) DE.int) DV.nil)) DE.int))
      (DB.one (DS.app 2 (DE.move 3)))))
    (DB.one (DS.ret (DE.dct (DP.cons DE.str (DE.slice (DE.name 2) DO.none (DO.some (DE.name 1))) (DP.cons DE.str DE.int DP.nil)))))))))
theorem ok__law_take (E : Ev0 K mg) : FnOk P w K mg base (L2.CX P w) 1 E.a__law_take E.d__law_take ["jar", "many"] (spD K mg 2 Jar.F_take) :=
  by
    unfold Jar.F_take
    exact def_ok (N := ["jar", "many", "number"]) (k := 0) (m := Jar.m_take) E.f__law_take sc__law_take fun cdv A outer s H Ex hr X eX tk px => by
      unfold Jar.m_take
      exact (DB.cons (DS.set 2 sc__law_take.nd (DE.get (hu_of hr) (DE.getN 0 (hu_of hr) DE.str) (DE.bin op_mod opd_mod (DE.callTy call_int1 cd_int E.n_int (DV.cons (DE.getN 0 (hu_of hr) DE.str) DV.nil)) (DE.callB call_len cd_len E.n_len (DV.cons (DE.getN 0 (hu_of hr) DE.str) DV.nil)))))
    (DB.cons (DS.dput 0 (hu_of hr) (DE.bin op_add3 opd_add (DE.getN 0 (hu_of hr) DE.str) DE.int) DE.str)
    (DB.one (DS.ret (DE.bin op_mod opd_mod (DE.callTy call_int1 cd_int E.n_int (DV.cons (DE.name 2) DV.nil)) (DE.name 1))))))
theorem ok__law_unit (E : Ev0 K mg) : FnOk P w K mg base (L2.CX P w) 2 E.a__law_unit E.d__law_unit ["jar"] (spD K mg 1 F__law_unit) :=
  by
    unfold F__law_unit
    exact def_ok (N := ["jar", "over_one"]) (k := 1) (m := m__law_unit) E.f__law_unit sc__law_unit fun cdv A outer s H Ex hr X eX tk px => by
      unfold m__law_unit
      exact (DB.cons (DS.set 1 sc__law_unit.nd (DE.get (hu_of hr) (DE.lst (DA.cons DE.int (DA.cons DE.int (DA.cons DE.int (DA.cons (DE.bin op_add4 opd_add4 (DE.bin op_pow opd_pow DE.int DE.int) DE.int) DA.nil))))) (DE.call (ok__law_take E) (hr.mono (by omega)) E.g__law_take E.f__law_take.kp E.bd__law_take tk (DL.lent 0 true (DL.own DE.int DL.nil)))))
    (DB.one (DS.ret (DE.tup (DA.cons (DE.move 1) (DA.cons (DE.get (hu_of hr) (DE.lst (DA.cons DE.int (DA.cons DE.int (DA.cons DE.int (DA.cons (DE.bin op_add4 opd_add4 (DE.bin op_pow opd_pow DE.int DE.int) DE.int) DA.nil))))) (DE.call (ok__law_take E) (hr.mono (by omega)) E.g__law_take E.f__law_take.kp E.bd__law_take tk (DL.lent 0 true (DL.own DE.int DL.nil)))) DA.nil))))))
theorem ok__law_hung (E : Ev0 K mg) : FnOk P w K mg base (L2.CX P w) 2 E.a__law_hung E.d__law_hung ["jar", "places", "root"] (spD K mg 3 F__law_hung) :=
  by
    unfold F__law_hung
    exact def_ok (N := ["jar", "places", "root", "many", "rows", "t", "k", "j", "gap", "room"]) (k := 1) (m := m__law_hung) E.f__law_hung sc__law_hung fun cdv A outer s H Ex hr X eX tk px => by
      unfold m__law_hung
      exact (DB.cons (DS.set 3 sc__law_hung.nd (DE.callB call_len cd_len E.n_len (DV.cons (DE.name 1) DV.nil)))
    (DB.cons (DS.set 4 sc__law_hung.nd (DE.lst DA.nil))
    (DB.cons (DS.for px rfl (DI.rng2 E.n_range (DV.cons DE.int (DV.cons (DE.name 3) DV.nil))) (DG.nm 5 sc__law_hung.nd) (DB.cons (DS.set 6 sc__law_hung.nd (DE.bin op_mod opd_mod (DE.callTy call_int1 cd_int E.n_int (DV.cons (DE.bin op_add4 opd_add4 (DE.name 2) (DE.name 5)) DV.nil)) (DE.name 3)))
      (DB.cons (DS.set 7 sc__law_hung.nd (DE.bin op_mod opd_mod (DE.callTy call_int1 cd_int E.n_int (DV.cons (DE.bin op_add4 opd_add4 (DE.name 2) (DE.call (ok__law_take E) (hr.mono (by omega)) E.g__law_take E.f__law_take.kp E.bd__law_take tk (DL.lent 0 true (DL.lent 5 false DL.nil)))) DV.nil)) (DE.name 3)))
      (DB.cons (DS.set 8 sc__law_hung.nd (DE.bin op_sub opd_sub (DE.getN 1 (hu_of hr) (DE.name 6)) (DE.getN 1 (hu_of hr) (DE.name 7))))
      (DB.cons (DS.set 9 sc__law_hung.nd (DE.call (ok__law_take E) (hr.mono (by omega)) E.g__law_take E.f__law_take.kp E.bd__law_take tk (DL.lent 0 true (DL.own DE.int DL.nil))))
      (DB.one (DS.ite (DT.cmp (op_eq2 hr.units) opd_eq (DE.call (ok__law_take E) (hr.mono (by omega)) E.g__law_take E.f__law_take.kp E.bd__law_take tk (DL.lent 0 true (DL.own DE.int DL.nil))) DE.int (nomark _)) (DB.one (DS.app 4 (DE.tup (DA.cons (DE.get (hu_of hr) (DE.lst (DA.cons DE.str (DA.cons DE.str (DA.cons DE.str DA.nil)))) (DE.call (ok__law_take E) (hr.mono (by omega)) E.g__law_take E.f__law_take.kp E.bd__law_take tk (DL.lent 0 true (DL.own DE.int DL.nil)))) (DA.cons (DE.move 7) (DA.cons (DE.move 6) (DA.cons (DE.bin op_sub opd_sub (DE.name 8) (DE.name 9)) (DA.cons (DE.move 8) DA.nil)))))))) (DB.one (DS.app 4 (DE.tup (DA.cons (DE.get (hu_of hr) (DE.lst (DA.cons DE.str (DA.cons DE.str (DA.cons DE.str DA.nil)))) (DE.call (ok__law_take E) (hr.mono (by omega)) E.g__law_take E.f__law_take.kp E.bd__law_take tk (DL.lent 0 true (DL.own DE.int DL.nil)))) (DA.cons (DE.move 6) (DA.cons (DE.move 7) (DA.cons (DE.bin op_sub opd_sub DE.int (DE.name 8)) (DA.cons (DE.bin op_sub opd_sub (DE.name 9) (DE.name 8)) DA.nil)))))))))))))))
    (DB.one (DS.ret (DE.move 4))))))
theorem ok__law_loose (E : Ev0 K mg) : FnOk P w K mg base (L2.CX P w) 2 E.a__law_loose E.d__law_loose ["jar", "places"] (spD K mg 2 F__law_loose) :=
  by
    unfold F__law_loose
    exact def_ok (N := ["jar", "places", "a", "b", "gap"]) (k := 1) (m := m__law_loose) E.f__law_loose sc__law_loose fun cdv A outer s H Ex hr X eX tk px => by
      unfold m__law_loose
      exact (DB.cons (DS.set 2 sc__law_loose.nd (DE.call (ok__law_take E) (hr.mono (by omega)) E.g__law_take E.f__law_take.kp E.bd__law_take tk (DL.lent 0 true (DL.own (DE.callB call_len cd_len E.n_len (DV.cons (DE.name 1) DV.nil)) DL.nil))))
    (DB.cons (DS.set 3 sc__law_loose.nd (DE.call (ok__law_take E) (hr.mono (by omega)) E.g__law_take E.f__law_take.kp E.bd__law_take tk (DL.lent 0 true (DL.own (DE.callB call_len cd_len E.n_len (DV.cons (DE.name 1) DV.nil)) DL.nil))))
    (DB.cons (DS.set 4 sc__law_loose.nd (DE.bin op_sub opd_sub (DE.getN 1 (hu_of hr) (DE.name 3)) (DE.getN 1 (hu_of hr) (DE.name 2))))
    (DB.one (DS.ret (DE.tup (DA.cons (DE.get (hu_of hr) (DE.lst (DA.cons DE.str (DA.cons DE.str DA.nil))) (DE.call (ok__law_take E) (hr.mono (by omega)) E.g__law_take E.f__law_take.kp E.bd__law_take tk (DL.lent 0 true (DL.own DE.int DL.nil)))) (DA.cons (DE.move 2) (DA.cons (DE.move 3) (DA.cons (DE.bin op_sub opd_sub (DE.name 4) (DE.call (ok__law_take E) (hr.mono (by omega)) E.g__law_take E.f__law_take.kp E.bd__law_take tk (DL.lent 0 true (DL.own DE.int DL.nil)))) (DA.cons (DE.bin op_add4 opd_add4 (DE.name 4) (DE.call (ok__law_take E) (hr.mono (by omega)) E.g__law_take E.f__law_take.kp E.bd__law_take tk (DL.lent 0 true (DL.own DE.int DL.nil)))) DA.nil)))))))))))
theorem ok__law_rows (E : Ev0 K mg) : FnOk P w K mg base (L2.CX P w) 3 E.a__law_rows E.d__law_rows ["jar", "places", "root", "is_large"] (spD K mg 4 F__law_rows) :=
  by
    unfold F__law_rows
    exact def_ok (N := ["jar", "places", "root", "is_large", "rows", "extra", "_", "name", "a", "b", "lo", "hi", "cut"]) (k := 2) (m := m__law_rows) E.f__law_rows sc__law_rows fun cdv A outer s H Ex hr X eX tk px => by
      unfold m__law_rows
      exact (DB.cons (DS.set 4 sc__law_rows.nd (DE.call (ok__law_hung E) (hr.mono (by omega)) E.g__law_hung E.f__law_hung.kp E.bd__law_hung tk (DL.lent 0 true (DL.lent 1 false (DL.lent 2 false DL.nil)))))
    (DB.cons (DS.set 5 sc__law_rows.nd (DE.call (ok__law_take E) (hr.mono (by omega)) E.g__law_take E.f__law_take.kp E.bd__law_take tk (DL.lent 0 true (DL.own DE.int DL.nil))))
    (DB.cons (DS.ite (DT.tru (DE.name 3)) (DB.one (DS.set 5 sc__law_rows.nd (DE.bin op_sub opd_sub DE.int (DE.callB call_len cd_len E.n_len (DV.cons (DE.name 4) DV.nil))))) DB.nil)
    (DB.cons (DS.for px rfl (DI.rng1 E.n_range (DV.cons (DE.name 5) DV.nil)) (DG.nm 6 sc__law_rows.nd) (DB.one (DS.app 4 (DE.call (ok__law_loose E) (hr.mono (by omega)) E.g__law_loose E.f__law_loose.kp E.bd__law_loose tk (DL.lent 0 true (DL.lent 1 false DL.nil))))))
    (DB.cons (DS.ite (DW.dt (DW.and (DT.not (DT.tru (DE.name 3))) (DW.and1 (DT.cmp op_gt2 opd_gt (DE.callB call_len cd_len E.n_len (DV.cons (DE.name 4) DV.nil)) DE.int (nomark _))))) (DB.one (DS.for px rfl (DI.rng1 E.n_range (DV.cons (DE.call (ok__law_take E) (hr.mono (by omega)) E.g__law_take E.f__law_take.kp E.bd__law_take tk (DL.lent 0 true (DL.own DE.int DL.nil))) DV.nil)) (DG.nm 6 sc__law_rows.nd) (DB.cons (DS.asg (DE.getN 4 (hu_of hr) (DE.call (ok__law_take E) (hr.mono (by omega)) E.g__law_take E.f__law_take.kp E.bd__law_take tk (DL.lent 0 true (DL.own (DE.callB call_len cd_len E.n_len (DV.cons (DE.name 4) DV.nil)) DL.nil)))) (DG.tup rfl (DGs.cons (DG.nm 7 sc__law_rows.nd) (DGs.cons (DG.nm 8 sc__law_rows.nd) (DGs.cons (DG.nm 9 sc__law_rows.nd) (DGs.cons (DG.nm 10 sc__law_rows.nd) (DGs.cons (DG.nm 11 sc__law_rows.nd) DGs.nil)))))))
        (DB.one (DS.app 4 (DE.tup (DA.cons (DE.move 7) (DA.cons (DE.move 9) (DA.cons (DE.move 8) (DA.cons (DE.bin op_sub opd_sub DE.int (DE.name 11)) (DA.cons (DE.bin op_sub opd_sub DE.int (DE.name 10)) DA.nil))))))))))) DB.nil)
    (DB.cons (DS.set 12 sc__law_rows.nd (DE.call (ok__law_take E) (hr.mono (by omega)) E.g__law_take E.f__law_take.kp E.bd__law_take tk (DL.lent 0 true (DL.own (DE.bin op_add4 opd_add4 (DE.callB call_len cd_len E.n_len (DV.cons (DE.name 4) DV.nil)) DE.int) DL.nil))))
    (DB.cons (DS.set 4 sc__law_rows.nd (DE.bin op_add4 opd_add4 (DE.slice (DE.name 4) (DO.some (DE.name 12)) DO.none) (DE.slice (DE.name 4) DO.none (DO.some (DE.name 12)))))
    (DB.cons (DS.ite (DT.cmp (op_eq2 hr.units) opd_eq (DE.call (ok__law_take E) (hr.mono (by omega)) E.g__law_take E.f__law_take.kp E.bd__law_take tk (DL.lent 0 true (DL.own DE.int DL.nil))) DE.int (nomark _)) (DB.one (DS.set 4 sc__law_rows.nd (DE.revL (DE.name 4)))) DB.nil)
    (DB.one (DS.ret (DE.move 4)))))))))))
theorem ok__law_gcd (E : Ev0 K mg) : FnOk P w K mg base (L2.CX P w) 1 E.a__law_gcd E.d__law_gcd ["a", "b"] (spD K mg 2 Lb.F__law_gcd) :=
  by
    unfold Lb.F__law_gcd
    exact def_ok (N := ["a", "b", "_"]) (k := 0) (m := Lb.m__law_gcd) E.f__law_gcd sc__law_gcd fun cdv A outer s H Ex hr X eX tk px => by
      unfold Lb.m__law_gcd
      exact (DB.cons (DS.set 0 sc__law_gcd.nd (DE.callB call_abs cd_abs E.n_abs (DV.cons (DE.name 0) DV.nil)))
    (DB.cons (DS.set 1 sc__law_gcd.nd (DE.callB call_abs cd_abs E.n_abs (DV.cons (DE.name 1) DV.nil)))
    (DB.cons (DS.for px rfl (DI.rng1 E.n_range (DV.cons DE.int DV.nil)) (DG.nm 2 sc__law_gcd.nd) (DB.cons (DS.ite (DT.cmp (op_eq2 hr.units) opd_eq (DE.name 1) DE.int (nomark _)) (DB.one DS.brk) DB.nil)
      (DB.one (DS.par 0 1 rfl sc__law_gcd.nd (DA.cons (DE.move 1) (DA.cons (DE.bin op_mod opd_mod (DE.callTy call_int1 cd_int E.n_int (DV.cons (DE.name 0) DV.nil)) (DE.name 1)) DA.nil))))))
    (DB.one (DS.ret (DE.move 0))))))
theorem ok__law_lowest (E : Ev0 K mg) : FnOk P w K mg base (L2.CX P w) 2 E.a__law_lowest E.d__law_lowest ["p", "q"] (spD K mg 2 Lb.F__law_lowest) :=
  by
    unfold Lb.F__law_lowest
    exact def_ok (N := ["p", "q", "shared"]) (k := 1) (m := Lb.m__law_lowest) E.f__law_lowest sc__law_lowest fun cdv A outer s H Ex hr X eX tk px => by
      unfold Lb.m__law_lowest
      exact (DB.cons (DS.set 2 sc__law_lowest.nd (DE.call (ok__law_gcd E) (hr.mono (by omega)) E.g__law_gcd E.f__law_gcd.kp E.bd__law_gcd tk (DL.lent 0 false (DL.lent 1 false DL.nil))))
    (DB.one (DS.ret (DE.tup (DA.cons (DE.bin op_fdivW opd_fdiv (DE.name 0) (DE.name 2)) (DA.cons (DE.bin op_fdivW opd_fdiv (DE.name 1) (DE.name 2)) DA.nil))))))
theorem ok__law_spans (E : Ev0 K mg) : FnOk P w K mg base (L2.CX P w) 3 E.a__law_spans E.d__law_spans ["rows", "points", "unit"] (spD K mg 3 Lb.F__law_spans) :=
  by
    unfold Lb.F__law_spans
    exact def_ok (N := ["rows", "points", "unit", "found", "name", "a", "b", "lo", "hi", "low", "high"]) (k := 2) (m := Lb.m__law_spans) E.f__law_spans sc__law_spans fun cdv A outer s H Ex hr X eX tk px => by
      unfold Lb.m__law_spans
      exact (DB.cons (DS.set 3 sc__law_spans.nd (DE.lst DA.nil))
    (DB.cons (DS.for px rfl (DI.seq (DE.name 0)) (DG.tup rfl (DGs.cons (DG.nm 4 sc__law_spans.nd) (DGs.cons (DG.nm 5 sc__law_spans.nd) (DGs.cons (DG.nm 6 sc__law_spans.nd) (DGs.cons (DG.nm 7 sc__law_spans.nd) (DGs.cons (DG.nm 8 sc__law_spans.nd) DGs.nil)))))) (DB.cons (DS.set 9 sc__law_spans.nd (DE.call (ok__law_lowest E) (hr.mono (by omega)) E.g__law_lowest E.f__law_lowest.kp E.bd__law_lowest tk (DL.own (DE.bin op_mul2 opd_mul (DE.name 7) (DE.getN 2 (hu_of hr) DE.int)) (DL.own (DE.getN 2 (hu_of hr) DE.int) DL.nil))))
      (DB.cons (DS.set 10 sc__law_spans.nd (DE.call (ok__law_lowest E) (hr.mono (by omega)) E.g__law_lowest E.f__law_lowest.kp E.bd__law_lowest tk (DL.own (DE.bin op_mul2 opd_mul (DE.name 8) (DE.getN 2 (hu_of hr) DE.int)) (DL.own (DE.getN 2 (hu_of hr) DE.int) DL.nil))))
      (DB.one (DS.app 3 (DE.tup (DA.cons (DE.move 4) (DA.cons (DE.getN 1 (hu_of hr) (DE.name 5)) (DA.cons (DE.getN 1 (hu_of hr) (DE.name 6)) (DA.cons (DE.move 9) (DA.cons (DE.move 10) DA.nil)))))))))))
    (DB.one (DS.ret (DE.callTy call_tuple_of cd_tuple E.n_tuple (DV.cons (DE.name 3) DV.nil))))))
theorem ok__law_is_whole (E : Ev0 K mg) : FnOk P w K mg base (L2.CX P w) 1 E.a__law_is_whole E.d__law_is_whole ["value"] (spD K mg 1 Lb.F__law_is_whole) :=
  by
    unfold Lb.F__law_is_whole
    exact def_ok (N := ["value"]) (k := 0) (m := Lb.m__law_is_whole) E.f__law_is_whole sc__law_is_whole fun cdv A outer s H Ex hr X eX tk px => by
      unfold Lb.m__law_is_whole
      exact (DB.one (DS.ret (DE.and (DE.isi E.n_isinstance E.n_int (DE.name 0)) (DE.and1 (DE.not (DE.isi E.n_isinstance E.n_bool (DE.name 0)))))))
theorem ok__law_same (E : Ev0 K mg) : ∀ n : Nat, FnOk P w K mg base (L2.CX P w) (n + 2) E.a__law_same E.d__law_same ["told", "due"] (spD K mg 2 (Lb.F__law_same n))
  | 0 => by
    unfold Lb.F__law_same
    exact (def_ok (N := ["told", "due", "k"]) (k := 0) E.f__law_same sc__law_same fun cdv A outer s H Ex hr X eX tk px => ⟨fun pins s σ H N I h => by
    obtain ⟨ρ, Z, S, F, s, h⟩ := h
    exact h.elim⟩).mono (by omega)
  | n + 1 => by
    unfold Lb.F__law_same
    exact (def_ok (N := ["told", "due", "k"]) (k := n + 2) (m := Lb.m__law_same (Lb.F__law_same n)) E.f__law_same sc__law_same fun cdv A outer s H Ex hr X eX tk px => by
    have ih := ok__law_same E n
    unfold Lb.m__law_same
    exact (DB.cons (DS.ite (DT.isN (DE.name 1)) (DB.one (DS.ret (DE.isN (DE.name 0)))) DB.nil)
    (DB.cons (DS.ite (DT.tru (DE.isi E.n_isinstance E.n_bool (DE.name 1))) (DB.one (DS.ret (DE.and (DE.isi E.n_isinstance E.n_bool (DE.name 0)) (DE.and1 (DE.cmp (op_eq2 hr.units) opd_eq (DE.name 0) (DE.name 1) (nomark _)))))) DB.nil)
    (DB.cons (DS.ite (DW.dt (DW.or (DT.tru (DE.isi E.n_isinstance E.n_tuple (DE.name 1))) (DW.or1 (DT.tru (DE.isi E.n_isinstance E.n_list (DE.name 1)))))) (DB.cons (DS.ite (DW.dt (DW.or (DT.cmp (op_ne2 hr.units) opd_ne (DE.isi E.n_isinstance E.n_tuple (DE.name 0)) (DE.isi E.n_isinstance E.n_tuple (DE.name 1)) (nomark _)) (DW.or1 (DT.cmp (op_ne2 hr.units) opd_ne (DE.isi E.n_isinstance E.n_list (DE.name 0)) (DE.isi E.n_isinstance E.n_list (DE.name 1)) (nomark _))))) (DB.one (DS.ret DE.bool)) DB.nil)
      (DB.cons (DS.ite (DT.cmp (op_ne2 hr.units) opd_ne (DE.callB call_len cd_len E.n_len (DV.cons (DE.name 0) DV.nil)) (DE.callB call_len cd_len E.n_len (DV.cons (DE.name 1) DV.nil)) (nomark _)) (DB.one (DS.ret DE.bool)) DB.nil)
      (DB.cons (DS.for px rfl (DI.rng1 E.n_range (DV.cons (DE.callB call_len cd_len E.n_len (DV.cons (DE.name 1) DV.nil)) DV.nil)) (DG.nm 2 sc__law_same.nd) (DB.one (DS.ite (DT.not (DT.tru (DE.call ih (hr.mono (by omega)) E.g__law_same E.f__law_same.kp E.bd__law_same tk (DL.own (DE.getN 0 (hu_of hr) (DE.name 2)) (DL.own (DE.getN 1 (hu_of hr) (DE.name 2)) DL.nil))))) (DB.one (DS.ret DE.bool)) DB.nil)))
      (DB.one (DS.ret DE.bool))))) DB.nil)
    (DB.cons (DS.ite (DT.tru (DE.isi E.n_isinstance E.n_str (DE.name 1))) (DB.one (DS.ret (DE.and (DE.isi E.n_isinstance E.n_str (DE.name 0)) (DE.and1 (DE.cmp (op_eq2 hr.units) opd_eq (DE.name 0) (DE.name 1) (nomark _)))))) DB.nil)
    (DB.one (DS.ret (DE.and (DE.call (ok__law_is_whole E) (hr.mono (by omega)) E.g__law_is_whole E.f__law_is_whole.kp E.bd__law_is_whole tk (DL.lent 0 false DL.nil)) (DE.and1 (DE.cmp (op_eq2 hr.units) opd_eq (DE.name 0) (DE.name 1) (nomark _)))))))))))
theorem ok__law_is_round (E : Ev0 K mg) : FnOk P w K mg base (L2.CX P w) 11 E.a__law_is_round E.d__law_is_round ["rows", "paper"] (spD K mg 2 F__law_is_round) :=
  by
    unfold F__law_is_round
    exact def_ok (N := ["rows", "paper", "steps", "length", "first", "here", "step", "start", "end", "more"]) (k := 10) (m := m__law_is_round) E.f__law_is_round sc__law_is_round fun cdv A outer s H Ex hr X eX tk px => by
      unfold m__law_is_round
      exact (DB.cons (DS.ite (DW.dt (DW.or (DT.not (DT.tru (DE.isi E.n_isinstance E.n_tuple (DE.name 1)))) (DW.or (DT.cmp (op_ne2 hr.units) opd_ne (DE.callB call_len cd_len E.n_len (DV.cons (DE.name 1) DV.nil)) DE.int (nomark _)) (DW.or1 (DT.not (DT.tru (DE.call (ok__law_same E 8) (hr.mono (by omega)) E.g__law_same E.f__law_same.kp E.bd__law_same tk (DL.own (DE.getN 1 (hu_of hr) DE.int) (DL.own DE.str DL.nil))))))))) (DB.one (DS.ret DE.bool)) DB.nil)
    (DB.cons (DS.set 2 sc__law_is_round.nd (DE.getN 1 (hu_of hr) DE.int))
    (DB.cons (DS.ite (DW.dt (DW.or (DT.not (DT.tru (DE.isi E.n_isinstance E.n_tuple (DE.name 2)))) (DW.or (DT.cmp op_lt2 opd_lt (DE.callB call_len cd_len E.n_len (DV.cons (DE.name 2) DV.nil)) DE.int (nomark _)) (DW.or1 (DT.cmp op_gt2 opd_gt (DE.callB call_len cd_len E.n_len (DV.cons (DE.name 2) DV.nil)) DE.int (nomark _)))))) (DB.one (DS.ret DE.bool)) DB.nil)
    (DB.cons (DS.set 3 sc__law_is_round.nd DE.int)
    (DB.cons (DS.set 4 sc__law_is_round.nd (DE.un un_neg und_neg DE.int))
    (DB.cons (DS.set 5 sc__law_is_round.nd (DE.un un_neg und_neg DE.int))
    (DB.cons (DS.for px rfl (DI.seq (DE.name 2)) (DG.nm 6 sc__law_is_round.nd) (DB.cons (DS.ite (DW.dt (DW.or (DT.not (DT.tru (DE.isi E.n_isinstance E.n_tuple (DE.name 6)))) (DW.or (DT.cmp (op_ne2 hr.units) opd_ne (DE.callB call_len cd_len E.n_len (DV.cons (DE.name 6) DV.nil)) DE.int (nomark _)) (DW.or (DT.not (DT.tru (DE.call (ok__law_is_whole E) (hr.mono (by omega)) E.g__law_is_whole E.f__law_is_whole.kp E.bd__law_is_whole tk (DL.own (DE.getN 6 (hu_of hr) DE.int) DL.nil)))) (DW.or1 (DT.not (DT.tru (DE.call (ok__law_is_whole E) (hr.mono (by omega)) E.g__law_is_whole E.f__law_is_whole.kp E.bd__law_is_whole tk (DL.own (DE.getN 6 (hu_of hr) DE.int) DL.nil))))))))) (DB.one (DS.ret DE.bool)) DB.nil)
      (DB.cons (DS.ite (DW.dt (DW.or (DT.cmp op_lt2 opd_lt (DE.getN 6 (hu_of hr) DE.int) DE.int (nomark _)) (DW.or (DT.cmp op_ge2 opd_ge (DE.getN 6 (hu_of hr) DE.int) (DE.callB call_len cd_len E.n_len (DV.cons (DE.name 0) DV.nil)) (nomark _)) (DW.or1 (DW.dt (DW.and (DT.cmp (op_ne2 hr.units) opd_ne (DE.getN 6 (hu_of hr) DE.int) DE.int (nomark _)) (DW.and1 (DT.cmp (op_ne2 hr.units) opd_ne (DE.getN 6 (hu_of hr) DE.int) (DE.un un_neg und_neg DE.int) (nomark _))))))))) (DB.one (DS.ret DE.bool)) DB.nil)
      (DB.cons (DS.par3 7 8 9 rfl sc__law_is_round.nd (DA.cons (DE.get (hu_of hr) (DE.getN 0 (hu_of hr) (DE.getN 6 (hu_of hr) DE.int)) DE.int) (DA.cons (DE.get (hu_of hr) (DE.getN 0 (hu_of hr) (DE.getN 6 (hu_of hr) DE.int)) DE.int) (DA.cons (DE.get (hu_of hr) (DE.getN 0 (hu_of hr) (DE.getN 6 (hu_of hr) DE.int)) DE.int) DA.nil))))
      (DB.cons (DS.ite (DT.cmp (op_eq2 hr.units) opd_eq (DE.getN 6 (hu_of hr) DE.int) (DE.un un_neg und_neg DE.int) (nomark _)) (DB.one (DS.par3 7 8 9 rfl sc__law_is_round.nd (DA.cons (DE.get (hu_of hr) (DE.getN 0 (hu_of hr) (DE.getN 6 (hu_of hr) DE.int)) DE.int) (DA.cons (DE.get (hu_of hr) (DE.getN 0 (hu_of hr) (DE.getN 6 (hu_of hr) DE.int)) DE.int) (DA.cons (DE.bin op_sub opd_sub DE.int (DE.get (hu_of hr) (DE.getN 0 (hu_of hr) (DE.getN 6 (hu_of hr) DE.int)) DE.int)) DA.nil))))) DB.nil)
      (DB.cons (DS.ite (DT.cmp op_lt2 opd_lt (DE.name 4) DE.int (nomark _)) (DB.one (DS.set 4 sc__law_is_round.nd (DE.move 7))) (DB.one (DS.ite (DT.cmp (op_ne2 hr.units) opd_ne (DE.name 7) (DE.name 5) (nomark _)) (DB.one (DS.ret DE.bool)) DB.nil)))
      (DB.cons (DS.set 5 sc__law_is_round.nd (DE.move 8))
      (DB.one (DS.set 3 sc__law_is_round.nd (DE.bin op_add4 opd_add4 (DE.name 3) (DE.name 9)))))))))))
    (DB.one (DS.ret (DE.and (DE.cmp (op_eq2 hr.units) opd_eq (DE.name 5) (DE.name 4) (nomark _)) (DE.and1 (DE.cmp op_lt2 opd_lt (DE.name 3) DE.int (nomark _)))))))))))))
theorem ok_first_duplicate (E : Ev0 K mg) : FnOk P w K mg base (L2.CX P w) 1 E.a_first_duplicate E.d_first_duplicate ["names"] (spD K mg 1 Lb.F_first_duplicate) :=
  by
    unfold Lb.F_first_duplicate
    exact def_ok (N := ["names", "seen", "name"]) (k := 0) (m := Lb.m_first_duplicate) E.f_first_duplicate sc_first_duplicate fun cdv A outer s H Ex hr X eX tk px => by
      unfold Lb.m_first_duplicate
      exact (DB.cons (DS.set 1 sc_first_duplicate.nd (DE.dctNew (b := false)))
    (DB.cons (DS.for px rfl (DI.seq (DE.name 0)) (DG.nm 2 sc_first_duplicate.nd) (DB.cons (DS.ite (DT.cmp (op_in5 (room65 hr)) opd_in5 (DE.name 2) (DE.name 1) (by rfl)) (DB.one (DS.ret (DE.move 2))) DB.nil)
      (DB.one (DS.dput 1 (hu_of hr) DE.bool (DE.name 2)))))
    (DB.one (DS.ret DE.non))))
theorem ok_check_system (E : Ev0 K mg) : FnOk P w K mg base (L2.CX P w) 2 E.a_check_system E.d_check_system ["points", "spans"] (spD K mg 2 Lb.F_check_system) :=
  by
    unfold Lb.F_check_system
    exact def_ok (N := ["points", "spans", "twice", "span", "place"]) (k := 1) (m := Lb.m_check_system) E.f_check_system sc_check_system fun cdv A outer s H Ex hr X eX tk px => by
      unfold Lb.m_check_system
      exact (DB.cons (DS.ite (DT.cmp op_gt2 opd_gt (DE.callB call_len cd_len E.n_len (DV.cons (DE.name 0) DV.nil)) (DE.gcon E.c_MOST_POINTS) (nomark _)) (DB.one DS.never) DB.nil)
    (DB.cons (DS.ite (DT.cmp op_gt2 opd_gt (DE.callB call_len cd_len E.n_len (DV.cons (DE.name 1) DV.nil)) (DE.gcon E.c_MOST_SPANS) (nomark _)) (DB.one DS.never) DB.nil)
    (DB.cons (DS.set 2 sc_check_system.nd (DE.call (ok_first_duplicate E) (hr.mono (by omega)) E.g_first_duplicate E.f_first_duplicate.kp E.bd_first_duplicate tk (DL.lent 0 false DL.nil)))
    (DB.cons (DS.ite (DT.notN (DE.name 2)) (DB.one DS.never) DB.nil)
    (DB.one (DS.for px rfl (DI.seq (DE.name 1)) (DG.nm 3 sc_check_system.nd) (DB.one (DS.for px rfl (DI.seq (DE.tup (DA.cons (DE.getN 3 (hu_of hr) DE.int) (DA.cons (DE.getN 3 (hu_of hr) DE.int) DA.nil)))) (DG.nm 4 sc_check_system.nd) (DB.one (DS.ite (DT.cmp (op_notIn5 (room65 hr)) opd_notIn5 (DE.name 4) (DE.name 0) (by rfl)) (DB.one DS.never) DB.nil))))))))))
theorem ok_has_form (E : Ev0 K mg) : FnOk P w K mg base (L2.CX P w) 1 E.a_has_form E.d_has_form ["paper", "word", "size"] (spD K mg 3 Lb.F_has_form) :=
  by
    unfold Lb.F_has_form
    exact def_ok (N := ["paper", "word", "size"]) (k := 0) (m := Lb.m_has_form) E.f_has_form sc_has_form fun cdv A outer s H Ex hr X eX tk px => by
      unfold Lb.m_has_form
      exact (DB.cons (DS.ite (DW.dt (DW.or (DT.not (DT.tru (DE.isi E.n_isinstance E.n_tuple (DE.name 0)))) (DW.or1 (DT.cmp (op_ne2 hr.units) opd_ne (DE.callB call_len cd_len E.n_len (DV.cons (DE.name 0) DV.nil)) (DE.name 2) (nomark _))))) (DB.one (DS.ret DE.bool)) DB.nil)
    (DB.one (DS.ret (DE.and (DE.isi E.n_isinstance E.n_str (DE.getN 0 (hu_of hr) DE.int)) (DE.and1 (DE.cmp (op_eq2 hr.units) opd_eq (DE.getN 0 (hu_of hr) DE.int) (DE.name 1) (nomark _)))))))
theorem ok_is_whole (E : Ev0 K mg) : FnOk P w K mg base (L2.CX P w) 1 E.a_is_whole E.d_is_whole ["value"] (spD K mg 1 Lb.F_is_whole) :=
  by
    unfold Lb.F_is_whole
    exact def_ok (N := ["value"]) (k := 0) (m := Lb.m_is_whole) E.f_is_whole sc_is_whole fun cdv A outer s H Ex hr X eX tk px => by
      unfold Lb.m_is_whole
      exact (DB.one (DS.ret (DE.and (DE.isi E.n_isinstance E.n_int (DE.name 0)) (DE.and1 (DE.not (DE.isi E.n_isinstance E.n_bool (DE.name 0)))))))
theorem ok_is_fraction (E : Ev0 K mg) : FnOk P w K mg base (L2.CX P w) 2 E.a_is_fraction E.d_is_fraction ["value"] (spD K mg 1 Lb.F_is_fraction) :=
  by
    unfold Lb.F_is_fraction
    exact def_ok (N := ["value"]) (k := 1) (m := Lb.m_is_fraction) E.f_is_fraction sc_is_fraction fun cdv A outer s H Ex hr X eX tk px => by
      unfold Lb.m_is_fraction
      exact (DB.cons (DS.ite (DW.dt (DW.or (DT.not (DT.tru (DE.isi E.n_isinstance E.n_tuple (DE.name 0)))) (DW.or1 (DT.cmp (op_ne2 hr.units) opd_ne (DE.callB call_len cd_len E.n_len (DV.cons (DE.name 0) DV.nil)) DE.int (nomark _))))) (DB.one (DS.ret DE.bool)) DB.nil)
    (DB.cons (DS.ite (DW.dt (DW.or (DT.not (DT.tru (DE.call (ok_is_whole E) (hr.mono (by omega)) E.g_is_whole E.f_is_whole.kp E.bd_is_whole tk (DL.own (DE.getN 0 (hu_of hr) DE.int) DL.nil)))) (DW.or1 (DT.not (DT.tru (DE.call (ok_is_whole E) (hr.mono (by omega)) E.g_is_whole E.f_is_whole.kp E.bd_is_whole tk (DL.own (DE.getN 0 (hu_of hr) DE.int) DL.nil))))))) (DB.one (DS.ret DE.bool)) DB.nil)
    (DB.one (DS.ret (DE.and (DE.cmp op_gt2 opd_gt (DE.getN 0 (hu_of hr) DE.int) DE.int (nomark _)) (DE.and1 (DE.cmp (op_eq2 hr.units) opd_eq (DE.callM cr_gcd cd_gcd E.b_gcd (DV.cons (DE.getN 0 (hu_of hr) DE.int) (DV.cons (DE.getN 0 (hu_of hr) DE.int) DV.nil))) DE.int (nomark _))))))))
theorem ok_read_positions (E : Ev0 K mg) : FnOk P w K mg base (L2.CX P w) 3 E.a_read_positions E.d_read_positions ["points", "rows"] (spD K mg 2 Lb.F_read_positions) :=
  by
    unfold Lb.F_read_positions
    exact def_ok (N := ["points", "rows", "found", "k", "row"]) (k := 2) (m := Lb.m_read_positions) E.f_read_positions sc_read_positions fun cdv A outer s H Ex hr X eX tk px => by
      unfold Lb.m_read_positions
      exact (DB.cons (DS.ite (DW.dt (DW.or (DT.not (DT.tru (DE.isi E.n_isinstance E.n_tuple (DE.name 1)))) (DW.or1 (DT.cmp (op_ne2 hr.units) opd_ne (DE.callB call_len cd_len E.n_len (DV.cons (DE.name 1) DV.nil)) (DE.callB call_len cd_len E.n_len (DV.cons (DE.name 0) DV.nil)) (nomark _))))) (DB.one (DS.ret DE.non)) DB.nil)
    (DB.cons (DS.set 2 sc_read_positions.nd (DE.dctNew (b := false)))
    (DB.cons (DS.for px rfl (DI.rng1 E.n_range (DV.cons (DE.callB call_len cd_len E.n_len (DV.cons (DE.name 0) DV.nil)) DV.nil)) (DG.nm 3 sc_read_positions.nd) (DB.cons (DS.set 4 sc_read_positions.nd (DE.getN 1 (hu_of hr) (DE.name 3)))
      (DB.cons (DS.ite (DW.dt (DW.or (DT.not (DT.tru (DE.isi E.n_isinstance E.n_tuple (DE.name 4)))) (DW.or1 (DT.cmp (op_ne2 hr.units) opd_ne (DE.callB call_len cd_len E.n_len (DV.cons (DE.name 4) DV.nil)) DE.int (nomark _))))) (DB.one (DS.ret DE.non)) DB.nil)
      (DB.cons (DS.ite (DW.dt (DW.or (DT.not (DT.tru (DE.isi E.n_isinstance E.n_str (DE.getN 4 (hu_of hr) DE.int)))) (DW.or (DT.cmp (op_ne2 hr.units) opd_ne (DE.getN 4 (hu_of hr) DE.int) (DE.getN 0 (hu_of hr) (DE.name 3)) (nomark _)) (DW.or1 (DT.not (DT.tru (DE.call (ok_is_fraction E) (hr.mono (by omega)) E.g_is_fraction E.f_is_fraction.kp E.bd_is_fraction tk (DL.own (DE.getN 4 (hu_of hr) DE.int) DL.nil)))))))) (DB.one (DS.ret DE.non)) DB.nil)
      (DB.one (DS.dput 2 (hu_of hr) (DE.getN 4 (hu_of hr) DE.int) (DE.getN 0 (hu_of hr) (DE.name 3))))))))
    (DB.one (DS.ret (DE.move 2))))))
theorem ok_fraction (E : Ev0 K mg) : FnOk P w K mg base (L2.CX P w) 1 E.a_fraction E.d_fraction ["p", "q"] (spD K mg 2 Lb.F_fraction) :=
  by
    unfold Lb.F_fraction
    exact def_ok (N := ["p", "q", "shared"]) (k := 0) (m := Lb.m_fraction) E.f_fraction sc_fraction fun cdv A outer s H Ex hr X eX tk px => by
      unfold Lb.m_fraction
      exact (DB.cons (DS.ite (DT.cmp (op_eq2 hr.units) opd_eq (DE.name 1) DE.int (nomark _)) (DB.one DS.never) DB.nil)
    (DB.cons (DS.ite (DT.cmp op_lt2 opd_lt (DE.name 1) DE.int (nomark _)) (DB.cons (DS.set 0 sc_fraction.nd (DE.un un_neg und_neg (DE.name 0)))
      (DB.one (DS.set 1 sc_fraction.nd (DE.un un_neg und_neg (DE.name 1))))) DB.nil)
    (DB.cons (DS.set 2 sc_fraction.nd (DE.callM cr_gcd cd_gcd E.b_gcd (DV.cons (DE.name 0) (DV.cons (DE.name 1) DV.nil))))
    (DB.one (DS.ret (DE.tup (DA.cons (DE.bin op_fdivW opd_fdiv (DE.name 0) (DE.name 2)) (DA.cons (DE.bin op_fdivW opd_fdiv (DE.name 1) (DE.name 2)) DA.nil))))))))
theorem ok_minus (E : Ev0 K mg) : FnOk P w K mg base (L2.CX P w) 2 E.a_minus E.d_minus ["a", "b"] (spD K mg 2 Lb.F_minus) :=
  by
    unfold Lb.F_minus
    exact def_ok (N := ["a", "b"]) (k := 1) (m := Lb.m_minus) E.f_minus sc_minus fun cdv A outer s H Ex hr X eX tk px => by
      unfold Lb.m_minus
      exact (DB.one (DS.ret (DE.call (ok_fraction E) (hr.mono (by omega)) E.g_fraction E.f_fraction.kp E.bd_fraction tk (DL.own (DE.bin op_sub opd_sub (DE.bin op_mul2 opd_mul (DE.getN 0 (hu_of hr) DE.int) (DE.getN 1 (hu_of hr) DE.int)) (DE.bin op_mul2 opd_mul (DE.getN 1 (hu_of hr) DE.int) (DE.getN 0 (hu_of hr) DE.int))) (DL.own (DE.bin op_mul2 opd_mul (DE.getN 0 (hu_of hr) DE.int) (DE.getN 1 (hu_of hr) DE.int)) DL.nil)))))
theorem ok_compare (E : Ev0 K mg) : FnOk P w K mg base (L2.CX P w) 1 E.a_compare E.d_compare ["a", "b"] (spD K mg 2 Lb.F_compare) :=
  by
    unfold Lb.F_compare
    exact def_ok (N := ["a", "b", "left", "right"]) (k := 0) (m := Lb.m_compare) E.f_compare sc_compare fun cdv A outer s H Ex hr X eX tk px => by
      unfold Lb.m_compare
      exact (DB.cons (DS.set 2 sc_compare.nd (DE.bin op_mul2 opd_mul (DE.getN 0 (hu_of hr) DE.int) (DE.getN 1 (hu_of hr) DE.int)))
    (DB.cons (DS.set 3 sc_compare.nd (DE.bin op_mul2 opd_mul (DE.getN 1 (hu_of hr) DE.int) (DE.getN 0 (hu_of hr) DE.int)))
    (DB.cons (DS.ite (DT.cmp op_lt2 opd_lt (DE.name 2) (DE.name 3) (nomark _)) (DB.one (DS.ret (DE.un un_neg und_neg DE.int))) DB.nil)
    (DB.cons (DS.ite (DT.cmp op_gt2 opd_gt (DE.name 2) (DE.name 3) (nomark _)) (DB.one (DS.ret DE.int)) DB.nil)
    (DB.one (DS.ret DE.int))))))
theorem ok_are_rows_of_set (E : Ev0 K mg) : FnOk P w K mg base (L2.CX P w) 4 E.a_are_rows_of_set E.d_are_rows_of_set ["points", "spans", "rows"] (spD K mg 3 Lb.F_are_rows_of_set) :=
  by
    unfold Lb.F_are_rows_of_set
    exact def_ok (N := ["points", "spans", "rows", "found", "_", "a", "b", "lo", "hi", "gap"]) (k := 3) (m := Lb.m_are_rows_of_set) E.f_are_rows_of_set sc_are_rows_of_set fun cdv A outer s H Ex hr X eX tk px => by
      unfold Lb.m_are_rows_of_set
      exact (DB.cons (DS.set 3 sc_are_rows_of_set.nd (DE.call (ok_read_positions E) (hr.mono (by omega)) E.g_read_positions E.f_read_positions.kp E.bd_read_positions tk (DL.lent 0 false (DL.lent 2 false DL.nil))))
    (DB.cons (DS.ite (DT.isN (DE.name 3)) (DB.one (DS.ret DE.bool)) DB.nil)
    (DB.cons (DS.for px rfl (DI.seq (DE.name 1)) (DG.tup rfl (DGs.cons (DG.nm 4 sc_are_rows_of_set.nd) (DGs.cons (DG.nm 5 sc_are_rows_of_set.nd) (DGs.cons (DG.nm 6 sc_are_rows_of_set.nd) (DGs.cons (DG.nm 7 sc_are_rows_of_set.nd) (DGs.cons (DG.nm 8 sc_are_rows_of_set.nd) DGs.nil)))))) (DB.cons (DS.set 9 sc_are_rows_of_set.nd (DE.call (ok_minus E) (hr.mono (by omega)) E.g_minus E.f_minus.kp E.bd_minus tk (DL.own (DE.getN 3 (hu_of hr) (DE.name 6)) (DL.own (DE.getN 3 (hu_of hr) (DE.name 5)) DL.nil))))
      (DB.one (DS.ite (DW.dt (DW.or (DT.cmp op_lt2 opd_lt (DE.call (ok_compare E) (hr.mono (by omega)) E.g_compare E.f_compare.kp E.bd_compare tk (DL.lent 9 false (DL.lent 7 false DL.nil))) DE.int (nomark _)) (DW.or1 (DT.cmp op_gt2 opd_gt (DE.call (ok_compare E) (hr.mono (by omega)) E.g_compare E.f_compare.kp E.bd_compare tk (DL.lent 9 false (DL.lent 8 false DL.nil))) DE.int (nomark _))))) (DB.one (DS.ret DE.bool)) DB.nil))))
    (DB.one (DS.ret DE.bool)))))
theorem ok_is_set (E : Ev0 K mg) : FnOk P w K mg base (L2.CX P w) 5 E.a_is_set E.d_is_set ["points", "spans", "paper"] (spD K mg 3 Lb.F_is_set) :=
  by
    unfold Lb.F_is_set
    exact def_ok (N := ["points", "spans", "paper"]) (k := 4) (m := Lb.m_is_set) E.f_is_set sc_is_set fun cdv A outer s H Ex hr X eX tk px => by
      unfold Lb.m_is_set
      exact (DB.cons (DS.expr (DE.call (ok_check_system E) (hr.mono (by omega)) E.g_check_system E.f_check_system.kp E.bd_check_system tk (DL.lent 0 false (DL.lent 1 false DL.nil))))
    (DB.one (DS.ret (DE.and (DE.call (ok_has_form E) (hr.mono (by omega)) E.g_has_form E.f_has_form.kp E.bd_has_form tk (DL.lent 2 false (DL.own DE.str (DL.own DE.int DL.nil)))) (DE.and1 (DE.call (ok_are_rows_of_set E) (hr.mono (by omega)) E.g_are_rows_of_set E.f_are_rows_of_set.kp E.bd_are_rows_of_set tk (DL.lent 0 false (DL.lent 1 false (DL.own (DE.getN 2 (hu_of hr) DE.int) DL.nil)))))))))
theorem ok_step_ends (E : Ev0 K mg) : FnOk P w K mg base (L2.CX P w) 3 E.a_step_ends E.d_step_ends ["spans", "step"] (spD K mg 2 Lb.F_step_ends) :=
  by
    unfold Lb.F_step_ends
    exact def_ok (N := ["spans", "step", "_", "a", "b", "lo", "hi"]) (k := 2) (m := Lb.m_step_ends) E.f_step_ends sc_step_ends fun cdv A outer s H Ex hr X eX tk px => by
      unfold Lb.m_step_ends
      exact (DB.cons (DS.asg (DE.getN 0 (hu_of hr) (DE.getN 1 (hu_of hr) DE.int)) (DG.tup rfl (DGs.cons (DG.nm 2 sc_step_ends.nd) (DGs.cons (DG.nm 3 sc_step_ends.nd) (DGs.cons (DG.nm 4 sc_step_ends.nd) (DGs.cons (DG.nm 5 sc_step_ends.nd) (DGs.cons (DG.nm 6 sc_step_ends.nd) DGs.nil)))))))
    (DB.cons (DS.ite (DT.cmp (op_eq2 hr.units) opd_eq (DE.getN 1 (hu_of hr) DE.int) DE.int (nomark _)) (DB.one (DS.ret (DE.tup (DA.cons (DE.move 3) (DA.cons (DE.move 4) (DA.cons (DE.move 6) DA.nil)))))) DB.nil)
    (DB.one (DS.ret (DE.tup (DA.cons (DE.move 4) (DA.cons (DE.move 3) (DA.cons (DE.call (ok_minus E) (hr.mono (by omega)) E.g_minus E.f_minus.kp E.bd_minus tk (DL.own (DE.gcon E.c_ZERO) (DL.lent 5 false DL.nil))) DA.nil))))))))
theorem ok_plus (E : Ev0 K mg) : FnOk P w K mg base (L2.CX P w) 2 E.a_plus E.d_plus ["a", "b"] (spD K mg 2 Lb.F_plus) :=
  by
    unfold Lb.F_plus
    exact def_ok (N := ["a", "b"]) (k := 1) (m := Lb.m_plus) E.f_plus sc_plus fun cdv A outer s H Ex hr X eX tk px => by
      unfold Lb.m_plus
      exact (DB.one (DS.ret (DE.call (ok_fraction E) (hr.mono (by omega)) E.g_fraction E.f_fraction.kp E.bd_fraction tk (DL.own (DE.bin op_add4 opd_add4 (DE.bin op_mul2 opd_mul (DE.getN 0 (hu_of hr) DE.int) (DE.getN 1 (hu_of hr) DE.int)) (DE.bin op_mul2 opd_mul (DE.getN 1 (hu_of hr) DE.int) (DE.getN 0 (hu_of hr) DE.int))) (DL.own (DE.bin op_mul2 opd_mul (DE.getN 0 (hu_of hr) DE.int) (DE.getN 1 (hu_of hr) DE.int)) DL.nil)))))
theorem ok_is_step (E : Ev0 K mg) : FnOk P w K mg base (L2.CX P w) 2 E.a_is_step E.d_is_step ["spans", "step"] (spD K mg 2 Lb.F_is_step) :=
  by
    unfold Lb.F_is_step
    exact def_ok (N := ["spans", "step"]) (k := 1) (m := Lb.m_is_step) E.f_is_step sc_is_step fun cdv A outer s H Ex hr X eX tk px => by
      unfold Lb.m_is_step
      exact (DB.cons (DS.ite (DW.dt (DW.or (DT.not (DT.tru (DE.isi E.n_isinstance E.n_tuple (DE.name 1)))) (DW.or1 (DT.cmp (op_ne2 hr.units) opd_ne (DE.callB call_len cd_len E.n_len (DV.cons (DE.name 1) DV.nil)) DE.int (nomark _))))) (DB.one (DS.ret DE.bool)) DB.nil)
    (DB.cons (DS.ite (DW.dt (DW.or (DT.not (DT.tru (DE.call (ok_is_whole E) (hr.mono (by omega)) E.g_is_whole E.f_is_whole.kp E.bd_is_whole tk (DL.own (DE.getN 1 (hu_of hr) DE.int) DL.nil)))) (DW.or1 (DT.not (DT.tru (DE.call (ok_is_whole E) (hr.mono (by omega)) E.g_is_whole E.f_is_whole.kp E.bd_is_whole tk (DL.own (DE.getN 1 (hu_of hr) DE.int) DL.nil))))))) (DB.one (DS.ret DE.bool)) DB.nil)
    (DB.one (DS.ret (DE.and (DE.chain op_le2 op_lt2 opd_le opd_lt DE.int (DE.getN 1 (hu_of hr) DE.int) (DE.callB call_len cd_len E.n_len (DV.cons (DE.name 0) DV.nil))) (DE.and1 (DE.cmp (op_in5 (room65 hr)) opd_in5 (DE.getN 1 (hu_of hr) DE.int) (DE.tup (DA.cons DE.int (DA.cons (DE.un un_neg und_neg DE.int) DA.nil))) (by rfl))))))))
theorem ok_walk_length (E : Ev0 K mg) : FnOk P w K mg base (L2.CX P w) 4 E.a_walk_length E.d_walk_length ["spans", "a", "b", "steps"] (spD K mg 4 Lb.F_walk_length) :=
  by
    unfold Lb.F_walk_length
    exact def_ok (N := ["spans", "a", "b", "steps", "place", "length", "step", "start", "end", "more"]) (k := 3) (m := Lb.m_walk_length) E.f_walk_length sc_walk_length fun cdv A outer s H Ex hr X eX tk px => by
      unfold Lb.m_walk_length
      exact (DB.cons (DS.ite (DW.dt (DW.or (DT.not (DT.tru (DE.isi E.n_isinstance E.n_tuple (DE.name 3)))) (DW.or1 (DT.cmp op_gt2 opd_gt (DE.callB call_len cd_len E.n_len (DV.cons (DE.name 3) DV.nil)) (DE.gcon E.c_MOST_STEPS) (nomark _))))) (DB.one (DS.ret DE.non)) DB.nil)
    (DB.cons (DS.set 4 sc_walk_length.nd (DE.move 1))
    (DB.cons (DS.set 5 sc_walk_length.nd (DE.gcon E.c_ZERO))
    (DB.cons (DS.for px rfl (DI.seq (DE.name 3)) (DG.nm 6 sc_walk_length.nd) (DB.cons (DS.ite (DT.not (DT.tru (DE.call (ok_is_step E) (hr.mono (by omega)) E.g_is_step E.f_is_step.kp E.bd_is_step tk (DL.lent 0 false (DL.lent 6 false DL.nil))))) (DB.one (DS.ret DE.non)) DB.nil)
      (DB.cons (DS.asg (DE.call (ok_step_ends E) (hr.mono (by omega)) E.g_step_ends E.f_step_ends.kp E.bd_step_ends tk (DL.lent 0 false (DL.lent 6 false DL.nil))) (DG.tup rfl (DGs.cons (DG.nm 7 sc_walk_length.nd) (DGs.cons (DG.nm 8 sc_walk_length.nd) (DGs.cons (DG.nm 9 sc_walk_length.nd) DGs.nil)))))
      (DB.cons (DS.ite (DT.cmp (op_ne2 hr.units) opd_ne (DE.name 7) (DE.name 4) (nomark _)) (DB.one (DS.ret DE.non)) DB.nil)
      (DB.cons (DS.set 4 sc_walk_length.nd (DE.move 8))
      (DB.one (DS.set 5 sc_walk_length.nd (DE.call (ok_plus E) (hr.mono (by omega)) E.g_plus E.f_plus.kp E.bd_plus tk (DL.lent 5 false (DL.lent 9 false DL.nil))))))))))
    (DB.cons (DS.ite (DT.cmp (op_ne2 hr.units) opd_ne (DE.name 4) (DE.name 2) (nomark _)) (DB.one (DS.ret DE.non)) DB.nil)
    (DB.one (DS.ret (DE.move 5))))))))
theorem ok_is_loop (E : Ev0 K mg) : FnOk P w K mg base (L2.CX P w) 5 E.a_is_loop E.d_is_loop ["points", "spans", "paper"] (spD K mg 3 Lb.F_is_loop) :=
  by
    unfold Lb.F_is_loop
    exact def_ok (N := ["points", "spans", "paper", "steps", "start", "length"]) (k := 4) (m := Lb.m_is_loop) E.f_is_loop sc_is_loop fun cdv A outer s H Ex hr X eX tk px => by
      unfold Lb.m_is_loop
      exact (DB.cons (DS.expr (DE.call (ok_check_system E) (hr.mono (by omega)) E.g_check_system E.f_check_system.kp E.bd_check_system tk (DL.lent 0 false (DL.lent 1 false DL.nil))))
    (DB.cons (DS.ite (DT.not (DT.tru (DE.call (ok_has_form E) (hr.mono (by omega)) E.g_has_form E.f_has_form.kp E.bd_has_form tk (DL.lent 2 false (DL.own DE.str (DL.own DE.int DL.nil)))))) (DB.one (DS.ret DE.bool)) DB.nil)
    (DB.cons (DS.set 3 sc_is_loop.nd (DE.getN 2 (hu_of hr) DE.int))
    (DB.cons (DS.ite (DW.dt (DW.or (DT.not (DT.tru (DE.isi E.n_isinstance E.n_tuple (DE.name 3)))) (DW.or (DT.cmp (op_eq2 hr.units) opd_eq (DE.callB call_len cd_len E.n_len (DV.cons (DE.name 3) DV.nil)) DE.int (nomark _)) (DW.or1 (DT.not (DT.tru (DE.call (ok_is_step E) (hr.mono (by omega)) E.g_is_step E.f_is_step.kp E.bd_is_step tk (DL.lent 1 false (DL.own (DE.getN 3 (hu_of hr) DE.int) DL.nil))))))))) (DB.one (DS.ret DE.bool)) DB.nil)
    (DB.cons (DS.set 4 sc_is_loop.nd (DE.get (hu_of hr) (DE.call (ok_step_ends E) (hr.mono (by omega)) E.g_step_ends E.f_step_ends.kp E.bd_step_ends tk (DL.lent 1 false (DL.own (DE.getN 3 (hu_of hr) DE.int) DL.nil))) DE.int))
    (DB.cons (DS.set 5 sc_is_loop.nd (DE.call (ok_walk_length E) (hr.mono (by omega)) E.g_walk_length E.f_walk_length.kp E.bd_walk_length tk (DL.lent 1 false (DL.lent 4 false (DL.lent 4 false (DL.lent 3 false DL.nil))))))
    (DB.one (DS.ret (DE.and (DE.notN (DE.name 5)) (DE.and1 (DE.cmp op_lt2 opd_lt (DE.call (ok_compare E) (hr.mono (by omega)) E.g_compare E.f_compare.kp E.bd_compare tk (DL.lent 5 false (DL.own (DE.gcon E.c_ZERO) DL.nil))) DE.int (nomark _))))))))))))
theorem ok_common (E : Ev0 K mg) : FnOk P w K mg base (L2.CX P w) 1 E.a_common E.d_common ["values"] (spD K mg 1 Lb.F_common) :=
  by
    unfold Lb.F_common
    exact def_ok (N := ["values", "result", "value"]) (k := 0) (m := Lb.m_common) E.f_common sc_common fun cdv A outer s H Ex hr X eX tk px => by
      unfold Lb.m_common
      exact (DB.cons (DS.set 1 sc_common.nd DE.int)
    (DB.cons (DS.for px rfl (DI.seq (DE.name 0)) (DG.nm 2 sc_common.nd) (DB.one (DS.set 1 sc_common.nd (DE.callM cr_lcm cd_lcm E.b_lcm (DV.cons (DE.name 1) (DV.cons (DE.getN 2 (hu_of hr) DE.int) DV.nil))))))
    (DB.one (DS.ret (DE.move 1)))))
theorem ok_edges_of (E : Ev0 K mg) : FnOk P w K mg base (L2.CX P w) 2 E.a_edges_of E.d_edges_of ["points", "spans"] (spD K mg 2 Lb.F_edges_of) :=
  by
    unfold Lb.F_edges_of
    exact def_ok (N := ["points", "spans", "scale", "span", "index", "k", "edges", "_", "a", "b", "lo", "hi", "low", "high"]) (k := 1) (m := Lb.m_edges_of) E.f_edges_of sc_edges_of fun cdv A outer s H Ex hr X eX tk px => by
      unfold Lb.m_edges_of
      exact (DB.cons (DS.set 2 sc_edges_of.nd (DE.call (ok_common E) (hr.mono (by omega)) E.g_common E.f_common.kp E.bd_common tk (DL.own (DE.bin op_add4 opd_add4 (DE.lc (own := [("span", 3)]) rfl sc_edges_of.nd (DI.seq (DE.name 1)) (blkOk_by (by rfl)) (fun _ _ _ _ _ => (DG.nm 3 sc_edges_of.nd)) (fun _ _ _ _ _ => DTs.nil) (fun _ _ _ _ _ => (DE.getN 3 (hu_of hr) DE.int))) (DE.lc (own := [("span", 3)]) rfl sc_edges_of.nd (DI.seq (DE.name 1)) (blkOk_by (by rfl)) (fun _ _ _ _ _ => (DG.nm 3 sc_edges_of.nd)) (fun _ _ _ _ _ => DTs.nil) (fun _ _ _ _ _ => (DE.getN 3 (hu_of hr) DE.int)))) DL.nil)))
    (DB.cons (DS.setDc 4 (own := [("k", 5)]) rfl sc_edges_of.nd rfl rfl (DI.rng1 E.n_range (DV.cons (DE.callB call_len cd_len E.n_len (DV.cons (DE.name 0) DV.nil)) DV.nil)) (blkOk_by (by rfl)) (fun _ _ _ _ _ => (DG.nm 5 sc_edges_of.nd)) (fun _ _ _ _ _ => DTs.nil) (fun _ _ _ _ _ => (DE.getN 0 (hu_of hr) (DE.name 5))) (fun _ _ _ _ _ => (DE.move 5)))
    (DB.cons (DS.set 6 sc_edges_of.nd (DE.lst DA.nil))
    (DB.cons (DS.for px rfl (DI.rng1 E.n_range (DV.cons (DE.callB call_len cd_len E.n_len (DV.cons (DE.name 1) DV.nil)) DV.nil)) (DG.nm 5 sc_edges_of.nd) (DB.cons (DS.asg (DE.getN 1 (hu_of hr) (DE.name 5)) (DG.tup rfl (DGs.cons (DG.nm 7 sc_edges_of.nd) (DGs.cons (DG.nm 8 sc_edges_of.nd) (DGs.cons (DG.nm 9 sc_edges_of.nd) (DGs.cons (DG.nm 10 sc_edges_of.nd) (DGs.cons (DG.nm 11 sc_edges_of.nd) DGs.nil)))))))
      (DB.cons (DS.set 12 sc_edges_of.nd (DE.bin op_mul2 opd_mul (DE.getN 10 (hu_of hr) DE.int) (DE.bin op_fdivW opd_fdiv (DE.name 2) (DE.getN 10 (hu_of hr) DE.int))))
      (DB.cons (DS.set 13 sc_edges_of.nd (DE.bin op_mul2 opd_mul (DE.getN 11 (hu_of hr) DE.int) (DE.bin op_fdivW opd_fdiv (DE.name 2) (DE.getN 11 (hu_of hr) DE.int))))
      (DB.cons (DS.app 6 (DE.tup (DA.cons (DE.getN 4 (hu_of hr) (DE.name 8)) (DA.cons (DE.getN 4 (hu_of hr) (DE.name 9)) (DA.cons (DE.move 13) (DA.cons (DE.tup (DA.cons (DE.move 5) (DA.cons DE.int DA.nil))) DA.nil))))))
      (DB.one (DS.app 6 (DE.tup (DA.cons (DE.getN 4 (hu_of hr) (DE.name 9)) (DA.cons (DE.getN 4 (hu_of hr) (DE.name 8)) (DA.cons (DE.un un_neg und_neg (DE.name 12)) (DA.cons (DE.tup (DA.cons (DE.move 5) (DA.cons (DE.un un_neg und_neg DE.int) DA.nil))) DA.nil))))))))))))
    (DB.one (DS.ret (DE.tup (DA.cons (DE.move 6) (DA.cons (DE.move 2) DA.nil)))))))))
theorem ok_relax (E : Ev0 K mg) : FnOk P w K mg base (L2.CX P w) 1 E.a_relax E.d_relax ["distances", "back", "edges"] (spD K mg 3 Lb.F_relax) :=
  by
    unfold Lb.F_relax
    exact def_ok (N := ["distances", "back", "edges", "changed", "k", "start", "end", "length", "_", "found"]) (k := 0) (m := Lb.m_relax) E.f_relax sc_relax fun cdv A outer s H Ex hr X eX tk px => by
      unfold Lb.m_relax
      exact (DB.cons (DS.set 3 sc_relax.nd (DE.un un_neg und_neg DE.int))
    (DB.cons (DS.for px rfl (DI.rng1 E.n_range (DV.cons (DE.callB call_len cd_len E.n_len (DV.cons (DE.name 2) DV.nil)) DV.nil)) (DG.nm 4 sc_relax.nd) (DB.cons (DS.asg (DE.getN 2 (hu_of hr) (DE.name 4)) (DG.tup rfl (DGs.cons (DG.nm 5 sc_relax.nd) (DGs.cons (DG.nm 6 sc_relax.nd) (DGs.cons (DG.nm 7 sc_relax.nd) (DGs.cons (DG.nm 8 sc_relax.nd) DGs.nil))))))
      (DB.cons (DS.ite (DT.isN (DE.getN 0 (hu_of hr) (DE.name 5))) (DB.one DS.cont) DB.nil)
      (DB.cons (DS.set 9 sc_relax.nd (DE.bin op_add4 opd_add4 (DE.getN 0 (hu_of hr) (DE.name 5)) (DE.name 7)))
      (DB.one (DS.ite (DW.dt (DW.or (DT.isN (DE.getN 0 (hu_of hr) (DE.name 6))) (DW.or1 (DT.cmp op_lt2 opd_lt (DE.name 9) (DE.getN 0 (hu_of hr) (DE.name 6)) (nomark _))))) (DB.cons (DS.lput 0 (DE.move 9) (DE.name 6))
        (DB.cons (DS.lput 1 (DE.move 4) (DE.name 6))
        (DB.one (DS.set 3 sc_relax.nd (DE.move 6))))) DB.nil))))))
    (DB.one (DS.ret (DE.move 3)))))
theorem ok_settle (E : Ev0 K mg) : FnOk P w K mg base (L2.CX P w) 2 E.a_settle E.d_settle ["distances", "back", "edges"] (spD K mg 3 Lb.F_settle) :=
  by
    unfold Lb.F_settle
    exact def_ok (N := ["distances", "back", "edges", "changed", "_"]) (k := 1) (m := Lb.m_settle) E.f_settle sc_settle fun cdv A outer s H Ex hr X eX tk px => by
      unfold Lb.m_settle
      exact (DB.cons (DS.set 3 sc_settle.nd (DE.un un_neg und_neg DE.int))
    (DB.cons (DS.for px rfl (DI.rng1 E.n_range (DV.cons (DE.callB call_len cd_len E.n_len (DV.cons (DE.name 0) DV.nil)) DV.nil)) (DG.nm 4 sc_settle.nd) (DB.cons (DS.set 3 sc_settle.nd (DE.call (ok_relax E) (hr.mono (by omega)) E.g_relax E.f_relax.kp E.bd_relax tk (DL.lent 0 true (DL.lent 1 true (DL.lent 2 false DL.nil)))))
      (DB.one (DS.ite (DT.cmp op_lt2 opd_lt (DE.name 3) DE.int (nomark _)) (DB.one DS.brk) DB.nil))))
    (DB.one (DS.ret (DE.move 3)))))
theorem ok_positions (E : Ev0 K mg) : FnOk P w K mg base (L2.CX P w) 2 E.a_positions E.d_positions ["points", "distances", "scale"] (spD K mg 3 Lb.F_positions) :=
  by
    unfold Lb.F_positions
    exact def_ok (N := ["points", "distances", "scale", "k"]) (k := 1) (m := Lb.m_positions) E.f_positions sc_positions fun cdv A outer s H Ex hr X eX tk px => by
      unfold Lb.m_positions
      exact (DB.one (DS.ret (DE.callTy call_tuple_of cd_tuple E.n_tuple (DV.cons (DE.lc (own := [("k", 3)]) rfl sc_positions.nd (DI.rng1 E.n_range (DV.cons (DE.callB call_len cd_len E.n_len (DV.cons (DE.name 0) DV.nil)) DV.nil)) (blkOk_by (by rfl)) (fun _ _ _ _ _ => (DG.nm 3 sc_positions.nd)) (fun _ _ _ _ _ => DTs.nil) (fun _ _ _ _ _ => (DE.tup (DA.cons (DE.getN 0 (hu_of hr) (DE.name 3)) (DA.cons (DE.call (ok_fraction E) (hr.mono (by omega)) E.g_fraction E.f_fraction.kp E.bd_fraction MV.takes0 (DL.own (DE.getN 1 (hu_of hr) (DE.name 3)) (DL.lent 2 false DL.nil))) DA.nil))))) DV.nil))))
theorem ok_loop_through (E : Ev0 K mg) : FnOk P w K mg base (L2.CX P w) 1 E.a_loop_through E.d_loop_through ["edges", "back", "node", "count"] (spD K mg 4 Lb.F_loop_through) :=
  by
    unfold Lb.F_loop_through
    exact def_ok (N := ["edges", "back", "node", "count", "_", "steps", "place", "edge"]) (k := 0) (m := Lb.m_loop_through) E.f_loop_through sc_loop_through fun cdv A outer s H Ex hr X eX tk px => by
      unfold Lb.m_loop_through
      exact (DB.cons (DS.for px rfl (DI.rng1 E.n_range (DV.cons (DE.name 3) DV.nil)) (DG.nm 4 sc_loop_through.nd) (DB.one (DS.set 2 sc_loop_through.nd (DE.get (hu_of hr) (DE.getN 0 (hu_of hr) (DE.getN 1 (hu_of hr) (DE.name 2))) DE.int))))
    (DB.cons (DS.set 5 sc_loop_through.nd (DE.lst DA.nil))
    (DB.cons (DS.set 6 sc_loop_through.nd (DE.move 2))
    (DB.cons (DS.for px rfl (DI.rng1 E.n_range (DV.cons (DE.name 3) DV.nil)) (DG.nm 4 sc_loop_through.nd) (DB.cons (DS.set 7 sc_loop_through.nd (DE.getN 0 (hu_of hr) (DE.getN 1 (hu_of hr) (DE.name 6))))
      (DB.cons (DS.app 5 (DE.getN 7 (hu_of hr) DE.int))
      (DB.cons (DS.set 6 sc_loop_through.nd (DE.getN 7 (hu_of hr) DE.int))
      (DB.one (DS.ite (DT.cmp (op_eq2 hr.units) opd_eq (DE.name 6) (DE.name 2) (nomark _)) (DB.one DS.brk) DB.nil))))))
    (DB.one (DS.ret (DE.callTy call_tuple_of cd_tuple E.n_tuple (DV.cons (DE.revL (DE.name 5)) DV.nil))))))))
theorem ok_solve (E : Ev0 K mg) : FnOk P w K mg base (L2.CX P w) 3 E.a_solve E.d_solve ["points", "spans"] (spD K mg 2 Lb.F_solve) :=
  by
    unfold Lb.F_solve
    exact def_ok (N := ["points", "spans", "edges", "scale", "distances", "_", "back", "changed"]) (k := 2) (m := Lb.m_solve) E.f_solve sc_solve fun cdv A outer s H Ex hr X eX tk px => by
      unfold Lb.m_solve
      exact (DB.cons (DS.expr (DE.call (ok_check_system E) (hr.mono (by omega)) E.g_check_system E.f_check_system.kp E.bd_check_system tk (DL.lent 0 false (DL.lent 1 false DL.nil))))
    (DB.cons (DS.asg (DE.call (ok_edges_of E) (hr.mono (by omega)) E.g_edges_of E.f_edges_of.kp E.bd_edges_of tk (DL.lent 0 false (DL.lent 1 false DL.nil))) (DG.tup rfl (DGs.cons (DG.nm 2 sc_solve.nd) (DGs.cons (DG.nm 3 sc_solve.nd) DGs.nil))))
    (DB.cons (DS.setLc 4 (own := [("_", 5)]) rfl sc_solve.nd rfl rfl (DI.seq (DE.name 0)) (blkOk_by (by rfl)) (fun _ _ _ _ _ => (DG.nm 5 sc_solve.nd)) (fun _ _ _ _ _ => DTs.nil) (fun _ _ _ _ _ => DE.int))
    (DB.cons (DS.setLc 6 (own := [("_", 5)]) rfl sc_solve.nd rfl rfl (DI.seq (DE.name 0)) (blkOk_by (by rfl)) (fun _ _ _ _ _ => (DG.nm 5 sc_solve.nd)) (fun _ _ _ _ _ => DTs.nil) (fun _ _ _ _ _ => (DE.un un_neg und_neg DE.int)))
    (DB.cons (DS.set 7 sc_solve.nd (DE.call (ok_settle E) (hr.mono (by omega)) E.g_settle E.f_settle.kp E.bd_settle tk (DL.lent 4 true (DL.lent 6 true (DL.lent 2 false DL.nil)))))
    (DB.cons (DS.ite (DT.cmp op_ge2 opd_ge (DE.name 7) DE.int (nomark _)) (DB.one (DS.ret (DE.tup (DA.cons DE.str (DA.cons (DE.call (ok_loop_through E) (hr.mono (by omega)) E.g_loop_through E.f_loop_through.kp E.bd_loop_through tk (DL.lent 2 false (DL.lent 6 false (DL.lent 7 false (DL.own (DE.callB call_len cd_len E.n_len (DV.cons (DE.name 0) DV.nil)) DL.nil))))) DA.nil))))) DB.nil)
    (DB.one (DS.ret (DE.tup (DA.cons DE.str (DA.cons (DE.call (ok_positions E) (hr.mono (by omega)) E.g_positions E.f_positions.kp E.bd_positions tk (DL.lent 0 false (DL.lent 4 false (DL.lent 3 false DL.nil)))) DA.nil)))))))))))
theorem ok_law (E : Ev0 K mg) : FnOk P w K mg base (L2.CX P w) 12 E.a_law E.d_law ["script"] (spD K mg 1 F_law) :=
  by
    unfold F_law
    exact def_ok (N := ["script", "jar", "is_large", "many", "root", "unit", "places", "_", "letter", "points", "k", "rows", "due", "at", "more", "system", "spans", "wrong"]) (k := 11) (m := m_law) E.f_law sc_law fun cdv A outer s H Ex hr X eX tk px => by
      unfold m_law
      exact (DB.cons (DS.set 1 sc_law.nd (DE.call (ok__law_jar E) (hr.mono (by omega)) E.g__law_jar E.f__law_jar.kp E.bd__law_jar tk (DL.lent 0 false (DL.own DE.int DL.nil))))
    (DB.cons (DS.set 2 sc_law.nd (DE.cmp (op_eq2 hr.units) opd_eq (DE.call (ok__law_take E) (hr.mono (by omega)) E.g__law_take E.f__law_take.kp E.bd__law_take tk (DL.lent 1 true (DL.own DE.int DL.nil))) DE.int (nomark _)))
    (DB.cons (DS.set 3 sc_law.nd (DE.bin op_add4 opd_add4 DE.int (DE.call (ok__law_take E) (hr.mono (by omega)) E.g__law_take E.f__law_take.kp E.bd__law_take tk (DL.lent 1 true (DL.own DE.int DL.nil)))))
    (DB.cons (DS.ite (DT.tru (DE.name 2)) (DB.one (DS.set 3 sc_law.nd (DE.bin op_add4 opd_add4 DE.int (DE.call (ok__law_take E) (hr.mono (by omega)) E.g__law_take E.f__law_take.kp E.bd__law_take tk (DL.lent 1 true (DL.own DE.int DL.nil)))))) DB.nil)
    (DB.cons (DS.set 4 sc_law.nd (DE.call (ok__law_take E) (hr.mono (by omega)) E.g__law_take E.f__law_take.kp E.bd__law_take tk (DL.lent 1 true (DL.lent 3 false DL.nil))))
    (DB.cons (DS.set 5 sc_law.nd (DE.call (ok__law_unit E) (hr.mono (by omega)) E.g__law_unit E.f__law_unit.kp E.bd__law_unit tk (DL.lent 1 true DL.nil)))
    (DB.cons (DS.set 6 sc_law.nd (DE.lc (own := [("_", 7)]) rfl sc_law.nd (DI.rng1 E.n_range (DV.cons (DE.name 3) DV.nil)) (blkOk_by (by rfl)) (fun _ _ _ _ _ => (DG.nm 7 sc_law.nd)) (fun _ _ _ _ _ => DTs.nil) (fun _ _ _ _ _ => (DE.bin op_sub opd_sub DE.int (DE.call (ok__law_take E) (hr.mono (by omega)) E.g__law_take E.f__law_take.kp E.bd__law_take MV.takes0 (DL.lent 1 true (DL.own DE.int DL.nil)))))))
    (DB.cons (DS.lput 6 DE.int (DE.name 4))
    (DB.cons (DS.set 8 sc_law.nd (DE.get (hu_of hr) (DE.lst (DA.cons DE.str (DA.cons DE.str (DA.cons DE.str DA.nil)))) (DE.call (ok__law_take E) (hr.mono (by omega)) E.g__law_take E.f__law_take.kp E.bd__law_take tk (DL.lent 1 true (DL.own DE.int DL.nil)))))
    (DB.cons (DS.set 9 sc_law.nd (DE.callTy call_tuple_of cd_tuple E.n_tuple (DV.cons (DE.lc (own := [("k", 10)]) rfl sc_law.nd (DI.rng1 E.n_range (DV.cons (DE.name 3) DV.nil)) (blkOk_by (by rfl)) (fun _ _ _ _ _ => (DG.nm 10 sc_law.nd)) (fun _ _ _ _ _ => DTs.nil) (fun _ _ _ _ _ => (DE.bin op_add4 opd_add4 (DE.name 8) (DE.callTy cr_str2 cd_str E.n_str (DV.cons (DE.name 10) DV.nil))))) DV.nil)))
    (DB.cons (DS.set 11 sc_law.nd (DE.call (ok__law_rows E) (hr.mono (by omega)) E.g__law_rows E.f__law_rows.kp E.bd__law_rows tk (DL.lent 1 true (DL.lent 6 false (DL.lent 4 false (DL.lent 2 false DL.nil))))))
    (DB.cons (DS.set 12 sc_law.nd (DE.tup (DA.cons DE.str (DA.cons (DE.callTy call_tuple_of cd_tuple E.n_tuple (DV.cons (DE.lc (own := [("k", 10)]) rfl sc_law.nd (DI.rng1 E.n_range (DV.cons (DE.name 3) DV.nil)) (blkOk_by (by rfl)) (fun _ _ _ _ _ => (DG.nm 10 sc_law.nd)) (fun _ _ _ _ _ => DTs.nil) (fun _ _ _ _ _ => (DE.tup (DA.cons (DE.getN 9 (hu_of hr) (DE.name 10)) (DA.cons (DE.call (ok__law_lowest E) (hr.mono (by omega)) E.g__law_lowest E.f__law_lowest.kp E.bd__law_lowest MV.takes0 (DL.own (DE.bin op_mul2 opd_mul (DE.getN 6 (hu_of hr) (DE.name 10)) (DE.getN 5 (hu_of hr) DE.int)) (DL.own (DE.getN 5 (hu_of hr) DE.int) DL.nil))) DA.nil))))) DV.nil)) DA.nil))))
    (DB.cons (DS.set 13 sc_law.nd (DE.call (ok__law_take E) (hr.mono (by omega)) E.g__law_take E.f__law_take.kp E.bd__law_take tk (DL.lent 1 true (DL.own (DE.bin op_add4 opd_add4 (DE.callB call_len cd_len E.n_len (DV.cons (DE.name 11) DV.nil)) DE.int) DL.nil))))
    (DB.cons (DS.set 14 sc_law.nd (DE.bin op_add4 opd_add4 (DE.bin op_add4 opd_add4 (DE.slice (DE.name 11) DO.none (DO.some (DE.name 13))) (DE.lst (DA.cons (DE.call (ok__law_loose E) (hr.mono (by omega)) E.g__law_loose E.f__law_loose.kp E.bd__law_loose tk (DL.lent 1 true (DL.lent 6 false DL.nil))) DA.nil))) (DE.slice (DE.name 11) (DO.some (DE.name 13)) DO.none)))
    (DB.cons (DS.for px rfl (DI.seq (DE.lst (DA.cons (DE.frz 11) (DA.cons (DE.frv (DE.revL (DE.name 11))) (DA.cons (DE.frz 14) DA.nil))))) (DG.nm 15 sc_law.nd) (DB.one (DS.ite (DT.not (DT.tru (DE.call (ok__law_same E 8) (hr.mono (by omega)) E.g__law_same E.f__law_same.kp E.bd__law_same tk (DL.own (DE.call (ok_solve E) (hr.mono (by omega)) E.g_solve E.f_solve.kp E.bd_solve tk (DL.lent 9 false (DL.own (DE.call (ok__law_spans E) (hr.mono (by omega)) E.g__law_spans E.f__law_spans.kp E.bd__law_spans tk (DL.lent 15 false (DL.lent 9 false (DL.lent 5 false DL.nil)))) DL.nil))) (DL.lent 12 false DL.nil))))) (DB.one (DS.ret DE.bool)) DB.nil)))
    (DB.cons (DS.set 16 sc_law.nd (DE.call (ok__law_spans E) (hr.mono (by omega)) E.g__law_spans E.f__law_spans.kp E.bd__law_spans tk (DL.lent 14 false (DL.lent 9 false (DL.lent 5 false DL.nil)))))
    (DB.cons (DS.ite (DW.dt (DW.or (DT.cmp op_notBl opd_notB (DE.call (ok_is_set E) (hr.mono (by omega)) E.g_is_set E.f_is_set.kp E.bd_is_set tk (DL.lent 9 false (DL.lent 16 false (DL.lent 12 false DL.nil)))) DE.bool (nomark _)) (DW.or1 (DT.cmp op_notBl opd_notB (DE.call (ok_is_loop E) (hr.mono (by omega)) E.g_is_loop E.f_is_loop.kp E.bd_is_loop tk (DL.lent 9 false (DL.lent 16 false (DL.lent 12 false DL.nil)))) DE.bool (nomark _))))) (DB.one (DS.ret DE.bool)) DB.nil)
    (DB.cons (DS.ite (DT.tru (DE.name 2)) (DB.one (DS.ret DE.bool)) DB.nil)
    (DB.cons (DS.set 10 sc_law.nd (DE.call (ok__law_take E) (hr.mono (by omega)) E.g__law_take E.f__law_take.kp E.bd__law_take tk (DL.lent 1 true (DL.lent 3 false DL.nil))))
    (DB.cons (DS.set 17 sc_law.nd (DE.bin op_add4 opd_add4 (DE.bin op_add4 opd_add4 (DE.slice (DE.name 11) DO.none (DO.some (DE.name 13))) (DE.lst (DA.cons (DE.tup (DA.cons DE.str (DA.cons (DE.move 4) (DA.cons (DE.move 10) (DA.cons (DE.bin op_add4 opd_add4 (DE.getN 6 (hu_of hr) (DE.name 10)) DE.int) (DA.cons (DE.bin op_add4 opd_add4 (DE.bin op_add4 opd_add4 (DE.getN 6 (hu_of hr) (DE.name 10)) DE.int) (DE.call (ok__law_take E) (hr.mono (by omega)) E.g__law_take E.f__law_take.kp E.bd__law_take tk (DL.lent 1 true (DL.own DE.int DL.nil)))) DA.nil)))))) DA.nil))) (DE.slice (DE.name 11) (DO.some (DE.name 13)) DO.none)))
    (DB.cons (DS.set 16 sc_law.nd (DE.call (ok__law_spans E) (hr.mono (by omega)) E.g__law_spans E.f__law_spans.kp E.bd__law_spans tk (DL.lent 17 false (DL.lent 9 false (DL.lent 5 false DL.nil)))))
    (DB.one (DS.ret (DE.and (DE.call (ok__law_is_round E) (hr.mono (by omega)) E.g__law_is_round E.f__law_is_round.kp E.bd__law_is_round tk (DL.lent 17 false (DL.own (DE.call (ok_solve E) (hr.mono (by omega)) E.g_solve E.f_solve.kp E.bd_solve tk (DL.lent 9 false (DL.lent 16 false DL.nil))) DL.nil))) (DE.and1 (DE.cmp op_isBl opd_isB (DE.call (ok_is_set E) (hr.mono (by omega)) E.g_is_set E.f_is_set.kp E.bd_is_set tk (DL.lent 9 false (DL.lent 16 false (DL.lent 12 false DL.nil)))) DE.bool (nomark _)))))))))))))))))))))))))))
end
end K22

set_option Elab.async false
set_option linter.all false
set_option maxRecDepth 100000
set_option maxHeartbeats 8000000
/-! The head. Printed by gen.py. -/
namespace K22
open PySem PySem.Spec PyProof.Rows L2 MV
def dd__law_jar : He.DefD := ⟨("_law_jar", none), "_law_jar", "_law_jar", defArgs st__law_jar, defBody st__law_jar, defScope st__law_jar, [], []⟩
def dd__law_take : He.DefD := ⟨("_law_take", none), "_law_take", "_law_take", defArgs st__law_take, defBody st__law_take, defScope st__law_take, [], []⟩
def dd__law_unit : He.DefD := ⟨("_law_unit", none), "_law_unit", "_law_unit", defArgs st__law_unit, defBody st__law_unit, defScope st__law_unit, [], []⟩
def dd__law_hung : He.DefD := ⟨("_law_hung", none), "_law_hung", "_law_hung", defArgs st__law_hung, defBody st__law_hung, defScope st__law_hung, [], []⟩
def dd__law_loose : He.DefD := ⟨("_law_loose", none), "_law_loose", "_law_loose", defArgs st__law_loose, defBody st__law_loose, defScope st__law_loose, [], []⟩
def dd__law_rows : He.DefD := ⟨("_law_rows", none), "_law_rows", "_law_rows", defArgs st__law_rows, defBody st__law_rows, defScope st__law_rows, [], []⟩
def dd__law_gcd : He.DefD := ⟨("_law_gcd", none), "_law_gcd", "_law_gcd", defArgs st__law_gcd, defBody st__law_gcd, defScope st__law_gcd, [], []⟩
def dd__law_lowest : He.DefD := ⟨("_law_lowest", none), "_law_lowest", "_law_lowest", defArgs st__law_lowest, defBody st__law_lowest, defScope st__law_lowest, [], []⟩
def dd__law_spans : He.DefD := ⟨("_law_spans", none), "_law_spans", "_law_spans", defArgs st__law_spans, defBody st__law_spans, defScope st__law_spans, [], []⟩
def dd__law_is_whole : He.DefD := ⟨("_law_is_whole", none), "_law_is_whole", "_law_is_whole", defArgs st__law_is_whole, defBody st__law_is_whole, defScope st__law_is_whole, [], []⟩
def dd__law_same : He.DefD := ⟨("_law_same", none), "_law_same", "_law_same", defArgs st__law_same, defBody st__law_same, defScope st__law_same, [], []⟩
def dd__law_is_round : He.DefD := ⟨("_law_is_round", none), "_law_is_round", "_law_is_round", defArgs st__law_is_round, defBody st__law_is_round, defScope st__law_is_round, [], []⟩
def dd_first_duplicate : He.DefD := ⟨("first_duplicate", none), "first_duplicate", "first_duplicate", defArgs st_first_duplicate, defBody st_first_duplicate, defScope st_first_duplicate, [], []⟩
def dd_check_system : He.DefD := ⟨("check_system", none), "check_system", "check_system", defArgs st_check_system, defBody st_check_system, defScope st_check_system, [], []⟩
def dd_has_form : He.DefD := ⟨("has_form", none), "has_form", "has_form", defArgs st_has_form, defBody st_has_form, defScope st_has_form, [], []⟩
def dd_is_whole : He.DefD := ⟨("is_whole", none), "is_whole", "is_whole", defArgs st_is_whole, defBody st_is_whole, defScope st_is_whole, [], []⟩
def dd_is_fraction : He.DefD := ⟨("is_fraction", none), "is_fraction", "is_fraction", defArgs st_is_fraction, defBody st_is_fraction, defScope st_is_fraction, [], []⟩
def dd_read_positions : He.DefD := ⟨("read_positions", none), "read_positions", "read_positions", defArgs st_read_positions, defBody st_read_positions, defScope st_read_positions, [], []⟩
def dd_fraction : He.DefD := ⟨("fraction", none), "fraction", "fraction", defArgs st_fraction, defBody st_fraction, defScope st_fraction, [], []⟩
def dd_minus : He.DefD := ⟨("minus", none), "minus", "minus", defArgs st_minus, defBody st_minus, defScope st_minus, [], []⟩
def dd_compare : He.DefD := ⟨("compare", none), "compare", "compare", defArgs st_compare, defBody st_compare, defScope st_compare, [], []⟩
def dd_are_rows_of_set : He.DefD := ⟨("are_rows_of_set", none), "are_rows_of_set", "are_rows_of_set", defArgs st_are_rows_of_set, defBody st_are_rows_of_set, defScope st_are_rows_of_set, [], []⟩
def dd_is_set : He.DefD := ⟨("is_set", none), "is_set", "is_set", defArgs st_is_set, defBody st_is_set, defScope st_is_set, [], []⟩
def dd_step_ends : He.DefD := ⟨("step_ends", none), "step_ends", "step_ends", defArgs st_step_ends, defBody st_step_ends, defScope st_step_ends, [], []⟩
def dd_plus : He.DefD := ⟨("plus", none), "plus", "plus", defArgs st_plus, defBody st_plus, defScope st_plus, [], []⟩
def dd_is_step : He.DefD := ⟨("is_step", none), "is_step", "is_step", defArgs st_is_step, defBody st_is_step, defScope st_is_step, [], []⟩
def dd_walk_length : He.DefD := ⟨("walk_length", none), "walk_length", "walk_length", defArgs st_walk_length, defBody st_walk_length, defScope st_walk_length, [], []⟩
def dd_is_loop : He.DefD := ⟨("is_loop", none), "is_loop", "is_loop", defArgs st_is_loop, defBody st_is_loop, defScope st_is_loop, [], []⟩
def dd_common : He.DefD := ⟨("common", none), "common", "common", defArgs st_common, defBody st_common, defScope st_common, [], []⟩
def dd_edges_of : He.DefD := ⟨("edges_of", none), "edges_of", "edges_of", defArgs st_edges_of, defBody st_edges_of, defScope st_edges_of, [], []⟩
def dd_relax : He.DefD := ⟨("relax", none), "relax", "relax", defArgs st_relax, defBody st_relax, defScope st_relax, [], []⟩
def dd_settle : He.DefD := ⟨("settle", none), "settle", "settle", defArgs st_settle, defBody st_settle, defScope st_settle, [], []⟩
def dd_positions : He.DefD := ⟨("positions", none), "positions", "positions", defArgs st_positions, defBody st_positions, defScope st_positions, [], []⟩
def dd_loop_through : He.DefD := ⟨("loop_through", none), "loop_through", "loop_through", defArgs st_loop_through, defBody st_loop_through, defScope st_loop_through, [], []⟩
def dd_solve : He.DefD := ⟨("solve", none), "solve", "solve", defArgs st_solve, defBody st_solve, defScope st_solve, [], []⟩
def dd_law : He.DefD := ⟨("law", none), "law", "law", defArgs st_law, defBody st_law, defScope st_law, [], []⟩
def fnl : List He.DefD := [dd__law_jar, dd__law_take, dd__law_unit, dd__law_hung, dd__law_loose, dd__law_rows, dd__law_gcd, dd__law_lowest, dd__law_spans, dd__law_is_whole, dd__law_same, dd__law_is_round, dd_first_duplicate, dd_check_system, dd_has_form, dd_is_whole, dd_is_fraction, dd_read_positions, dd_fraction, dd_minus, dd_compare, dd_are_rows_of_set, dd_is_set, dd_step_ends, dd_plus, dd_is_step, dd_walk_length, dd_is_loop, dd_common, dd_edges_of, dd_relax, dd_settle, dd_positions, dd_loop_through, dd_solve, dd_law]
def fal : List He.Fa := [.glo "_law_jar", .glo "_law_take", .glo "_law_unit", .glo "_law_hung", .glo "_law_loose", .glo "_law_rows", .glo "_law_gcd", .glo "_law_lowest", .glo "_law_spans", .glo "_law_is_whole", .glo "_law_same", .glo "_law_is_round", .glo "first_duplicate", .glo "check_system", .glo "has_form", .glo "is_whole", .glo "is_fraction", .glo "read_positions", .glo "fraction", .glo "minus", .glo "compare", .glo "are_rows_of_set", .glo "is_set", .glo "step_ends", .glo "plus", .glo "is_step", .glo "walk_length", .glo "is_loop", .glo "common", .glo "edges_of", .glo "relax", .glo "settle", .glo "positions", .glo "loop_through", .glo "solve", .glo "law", .free "len", .free "min", .free "range", .free "int", .free "abs", .free "tuple", .free "isinstance", .free "bool", .free "list", .free "str"]
def ck (K : PySem.W.Frag) : Bool := fal.all (fun f => f.ok K) && gBlt K "gcd" "math.gcd" && gBlt K "lcm" "math.lcm" && gDat K "MOST_POINTS" Lb.k_MOST_POINTS && gDat K "MOST_SPANS" Lb.k_MOST_SPANS && gDat K "ZERO" Lb.k_ZERO && gDat K "MOST_STEPS" Lb.k_MOST_STEPS
abbrev R0 : PySem.W.OpenRow := PySem.W.OpenLaw.row PySem.Challenge.rw_millbench_k22_hung_points
abbrev hk : PySem.W.Hook := hookM 6 ck fnl
def ob (s : PySem.W.SharedT) : He.AlD := obsMG 6 ck fnl (HandSHeadRun.getT s)
theorem ob_eq (s : PySem.W.SharedT) : ob s = hk.obs s.abs := obsMG_eq (HandSHeadRun.getT_eq s)
def ln0 : List Str := ["__name__", "MillError", "ZeroDenominator", "TooLarge", "Duplicate", "UnknownPoint", "first_duplicate", "ZERO", "is_whole", "is_fraction", "fraction", "plus", "minus", "compare", "common", "MOST_POINTS", "MOST_SPANS", "MOST_STEPS", "check_system", "edges_of", "relax", "settle", "loop_through", "positions", "solve", "is_step", "step_ends", "walk_length", "read_positions", "are_rows_of_set"]
def ln1 : List Str := ["has_form", "is_set", "is_loop", "_law_jar", "_law_take", "_law_is_whole", "_law_same", "_law_gcd", "_law_lowest", "_law_unit", "_law_hung", "_law_loose", "_law_rows", "_law_spans", "_law_is_round"]
def lns : List Str := ln0 ++ ln1
theorem run (w : World) : HandSHeadRun.RunEqI R0 (PySem.W.view R0.prog [0, 50]) hk ob 20000 lns w := by
  unfold HandSHeadRun.RunEqI
  kernel_rfl
theorem facts {K : PySem.W.Frag} {h : Heap} {mg : Str → Option Value} {f : Addr} (X : K.In h) (G : h.Ns mainGlobals mg) (hfa : mg ("law" : Str) = some (.ref f)) (c : SaysM ck fnl K) : ∃ E : Ev0 K mg, E.a_law = f ∧ ∀ (s : Shared) (u : Value), BindsTo s E.d_law ⟨[u], []⟩ [("script", u)] := by
  have c0 := c.chk
  unfold ck at c0
  obtain ⟨c0, q_MOST_STEPS⟩ := Bool.and_eq_true_iff.mp c0
  obtain ⟨c0, q_ZERO⟩ := Bool.and_eq_true_iff.mp c0
  obtain ⟨c0, q_MOST_SPANS⟩ := Bool.and_eq_true_iff.mp c0
  obtain ⟨c0, q_MOST_POINTS⟩ := Bool.and_eq_true_iff.mp c0
  obtain ⟨c0, q_lcm⟩ := Bool.and_eq_true_iff.mp c0
  obtain ⟨c0, q_gcd⟩ := Bool.and_eq_true_iff.mp c0
  obtain ⟨fd__law_jar, FF__law_jar⟩ := c.def_ 0 (d := dd__law_jar) rfl
  obtain ⟨fd__law_take, FF__law_take⟩ := c.def_ 1 (d := dd__law_take) rfl
  obtain ⟨fd__law_unit, FF__law_unit⟩ := c.def_ 2 (d := dd__law_unit) rfl
  obtain ⟨fd__law_hung, FF__law_hung⟩ := c.def_ 3 (d := dd__law_hung) rfl
  obtain ⟨fd__law_loose, FF__law_loose⟩ := c.def_ 4 (d := dd__law_loose) rfl
  obtain ⟨fd__law_rows, FF__law_rows⟩ := c.def_ 5 (d := dd__law_rows) rfl
  obtain ⟨fd__law_gcd, FF__law_gcd⟩ := c.def_ 6 (d := dd__law_gcd) rfl
  obtain ⟨fd__law_lowest, FF__law_lowest⟩ := c.def_ 7 (d := dd__law_lowest) rfl
  obtain ⟨fd__law_spans, FF__law_spans⟩ := c.def_ 8 (d := dd__law_spans) rfl
  obtain ⟨fd__law_is_whole, FF__law_is_whole⟩ := c.def_ 9 (d := dd__law_is_whole) rfl
  obtain ⟨fd__law_same, FF__law_same⟩ := c.def_ 10 (d := dd__law_same) rfl
  obtain ⟨fd__law_is_round, FF__law_is_round⟩ := c.def_ 11 (d := dd__law_is_round) rfl
  obtain ⟨fd_first_duplicate, FF_first_duplicate⟩ := c.def_ 12 (d := dd_first_duplicate) rfl
  obtain ⟨fd_check_system, FF_check_system⟩ := c.def_ 13 (d := dd_check_system) rfl
  obtain ⟨fd_has_form, FF_has_form⟩ := c.def_ 14 (d := dd_has_form) rfl
  obtain ⟨fd_is_whole, FF_is_whole⟩ := c.def_ 15 (d := dd_is_whole) rfl
  obtain ⟨fd_is_fraction, FF_is_fraction⟩ := c.def_ 16 (d := dd_is_fraction) rfl
  obtain ⟨fd_read_positions, FF_read_positions⟩ := c.def_ 17 (d := dd_read_positions) rfl
  obtain ⟨fd_fraction, FF_fraction⟩ := c.def_ 18 (d := dd_fraction) rfl
  obtain ⟨fd_minus, FF_minus⟩ := c.def_ 19 (d := dd_minus) rfl
  obtain ⟨fd_compare, FF_compare⟩ := c.def_ 20 (d := dd_compare) rfl
  obtain ⟨fd_are_rows_of_set, FF_are_rows_of_set⟩ := c.def_ 21 (d := dd_are_rows_of_set) rfl
  obtain ⟨fd_is_set, FF_is_set⟩ := c.def_ 22 (d := dd_is_set) rfl
  obtain ⟨fd_step_ends, FF_step_ends⟩ := c.def_ 23 (d := dd_step_ends) rfl
  obtain ⟨fd_plus, FF_plus⟩ := c.def_ 24 (d := dd_plus) rfl
  obtain ⟨fd_is_step, FF_is_step⟩ := c.def_ 25 (d := dd_is_step) rfl
  obtain ⟨fd_walk_length, FF_walk_length⟩ := c.def_ 26 (d := dd_walk_length) rfl
  obtain ⟨fd_is_loop, FF_is_loop⟩ := c.def_ 27 (d := dd_is_loop) rfl
  obtain ⟨fd_common, FF_common⟩ := c.def_ 28 (d := dd_common) rfl
  obtain ⟨fd_edges_of, FF_edges_of⟩ := c.def_ 29 (d := dd_edges_of) rfl
  obtain ⟨fd_relax, FF_relax⟩ := c.def_ 30 (d := dd_relax) rfl
  obtain ⟨fd_settle, FF_settle⟩ := c.def_ 31 (d := dd_settle) rfl
  obtain ⟨fd_positions, FF_positions⟩ := c.def_ 32 (d := dd_positions) rfl
  obtain ⟨fd_loop_through, FF_loop_through⟩ := c.def_ 33 (d := dd_loop_through) rfl
  obtain ⟨fd_solve, FF_solve⟩ := c.def_ 34 (d := dd_solve) rfl
  obtain ⟨fd_law, FF_law⟩ := c.def_ 35 (d := dd_law) rfl
  have e := hfa.symm.trans (He.glo_ok X G (all_at c0 35 (a := .glo "law") rfl))
  cases e
  have U__law_jar : Fun K "_law_jar" "_law_jar" st__law_jar (He.fAd K dd__law_jar.at_) fd__law_jar := funOf FF__law_jar
  have U__law_take : Fun K "_law_take" "_law_take" st__law_take (He.fAd K dd__law_take.at_) fd__law_take := funOf FF__law_take
  have U__law_unit : Fun K "_law_unit" "_law_unit" st__law_unit (He.fAd K dd__law_unit.at_) fd__law_unit := funOf FF__law_unit
  have U__law_hung : Fun K "_law_hung" "_law_hung" st__law_hung (He.fAd K dd__law_hung.at_) fd__law_hung := funOf FF__law_hung
  have U__law_loose : Fun K "_law_loose" "_law_loose" st__law_loose (He.fAd K dd__law_loose.at_) fd__law_loose := funOf FF__law_loose
  have U__law_rows : Fun K "_law_rows" "_law_rows" st__law_rows (He.fAd K dd__law_rows.at_) fd__law_rows := funOf FF__law_rows
  have U__law_gcd : Fun K "_law_gcd" "_law_gcd" st__law_gcd (He.fAd K dd__law_gcd.at_) fd__law_gcd := funOf FF__law_gcd
  have U__law_lowest : Fun K "_law_lowest" "_law_lowest" st__law_lowest (He.fAd K dd__law_lowest.at_) fd__law_lowest := funOf FF__law_lowest
  have U__law_spans : Fun K "_law_spans" "_law_spans" st__law_spans (He.fAd K dd__law_spans.at_) fd__law_spans := funOf FF__law_spans
  have U__law_is_whole : Fun K "_law_is_whole" "_law_is_whole" st__law_is_whole (He.fAd K dd__law_is_whole.at_) fd__law_is_whole := funOf FF__law_is_whole
  have U__law_same : Fun K "_law_same" "_law_same" st__law_same (He.fAd K dd__law_same.at_) fd__law_same := funOf FF__law_same
  have U__law_is_round : Fun K "_law_is_round" "_law_is_round" st__law_is_round (He.fAd K dd__law_is_round.at_) fd__law_is_round := funOf FF__law_is_round
  have U_first_duplicate : Fun K "first_duplicate" "first_duplicate" st_first_duplicate (He.fAd K dd_first_duplicate.at_) fd_first_duplicate := funOf FF_first_duplicate
  have U_check_system : Fun K "check_system" "check_system" st_check_system (He.fAd K dd_check_system.at_) fd_check_system := funOf FF_check_system
  have U_has_form : Fun K "has_form" "has_form" st_has_form (He.fAd K dd_has_form.at_) fd_has_form := funOf FF_has_form
  have U_is_whole : Fun K "is_whole" "is_whole" st_is_whole (He.fAd K dd_is_whole.at_) fd_is_whole := funOf FF_is_whole
  have U_is_fraction : Fun K "is_fraction" "is_fraction" st_is_fraction (He.fAd K dd_is_fraction.at_) fd_is_fraction := funOf FF_is_fraction
  have U_read_positions : Fun K "read_positions" "read_positions" st_read_positions (He.fAd K dd_read_positions.at_) fd_read_positions := funOf FF_read_positions
  have U_fraction : Fun K "fraction" "fraction" st_fraction (He.fAd K dd_fraction.at_) fd_fraction := funOf FF_fraction
  have U_minus : Fun K "minus" "minus" st_minus (He.fAd K dd_minus.at_) fd_minus := funOf FF_minus
  have U_compare : Fun K "compare" "compare" st_compare (He.fAd K dd_compare.at_) fd_compare := funOf FF_compare
  have U_are_rows_of_set : Fun K "are_rows_of_set" "are_rows_of_set" st_are_rows_of_set (He.fAd K dd_are_rows_of_set.at_) fd_are_rows_of_set := funOf FF_are_rows_of_set
  have U_is_set : Fun K "is_set" "is_set" st_is_set (He.fAd K dd_is_set.at_) fd_is_set := funOf FF_is_set
  have U_step_ends : Fun K "step_ends" "step_ends" st_step_ends (He.fAd K dd_step_ends.at_) fd_step_ends := funOf FF_step_ends
  have U_plus : Fun K "plus" "plus" st_plus (He.fAd K dd_plus.at_) fd_plus := funOf FF_plus
  have U_is_step : Fun K "is_step" "is_step" st_is_step (He.fAd K dd_is_step.at_) fd_is_step := funOf FF_is_step
  have U_walk_length : Fun K "walk_length" "walk_length" st_walk_length (He.fAd K dd_walk_length.at_) fd_walk_length := funOf FF_walk_length
  have U_is_loop : Fun K "is_loop" "is_loop" st_is_loop (He.fAd K dd_is_loop.at_) fd_is_loop := funOf FF_is_loop
  have U_common : Fun K "common" "common" st_common (He.fAd K dd_common.at_) fd_common := funOf FF_common
  have U_edges_of : Fun K "edges_of" "edges_of" st_edges_of (He.fAd K dd_edges_of.at_) fd_edges_of := funOf FF_edges_of
  have U_relax : Fun K "relax" "relax" st_relax (He.fAd K dd_relax.at_) fd_relax := funOf FF_relax
  have U_settle : Fun K "settle" "settle" st_settle (He.fAd K dd_settle.at_) fd_settle := funOf FF_settle
  have U_positions : Fun K "positions" "positions" st_positions (He.fAd K dd_positions.at_) fd_positions := funOf FF_positions
  have U_loop_through : Fun K "loop_through" "loop_through" st_loop_through (He.fAd K dd_loop_through.at_) fd_loop_through := funOf FF_loop_through
  have U_solve : Fun K "solve" "solve" st_solve (He.fAd K dd_solve.at_) fd_solve := funOf FF_solve
  have U_law : Fun K "law" "law" st_law (He.fAd K dd_law.at_) fd_law := funOf FF_law
  exact ⟨{
    a__law_jar := _, d__law_jar := fd__law_jar, f__law_jar := U__law_jar, g__law_jar := He.glo_ok X G (all_at c0 0 (a := .glo "_law_jar") rfl), bd__law_jar := U__law_jar.binds (fun _ _ _ _ _ _ us hl => match us, hl with | [_, _], _ => rfl),
    a__law_take := _, d__law_take := fd__law_take, f__law_take := U__law_take, g__law_take := He.glo_ok X G (all_at c0 1 (a := .glo "_law_take") rfl), bd__law_take := U__law_take.binds (fun _ _ _ _ _ _ us hl => match us, hl with | [_, _], _ => rfl),
    a__law_unit := _, d__law_unit := fd__law_unit, f__law_unit := U__law_unit, g__law_unit := He.glo_ok X G (all_at c0 2 (a := .glo "_law_unit") rfl), bd__law_unit := U__law_unit.binds (fun _ _ _ _ _ _ us hl => match us, hl with | [_], _ => rfl),
    a__law_hung := _, d__law_hung := fd__law_hung, f__law_hung := U__law_hung, g__law_hung := He.glo_ok X G (all_at c0 3 (a := .glo "_law_hung") rfl), bd__law_hung := U__law_hung.binds (fun _ _ _ _ _ _ us hl => match us, hl with | [_, _, _], _ => rfl),
    a__law_loose := _, d__law_loose := fd__law_loose, f__law_loose := U__law_loose, g__law_loose := He.glo_ok X G (all_at c0 4 (a := .glo "_law_loose") rfl), bd__law_loose := U__law_loose.binds (fun _ _ _ _ _ _ us hl => match us, hl with | [_, _], _ => rfl),
    a__law_rows := _, d__law_rows := fd__law_rows, f__law_rows := U__law_rows, g__law_rows := He.glo_ok X G (all_at c0 5 (a := .glo "_law_rows") rfl), bd__law_rows := U__law_rows.binds (fun _ _ _ _ _ _ us hl => match us, hl with | [_, _, _, _], _ => rfl),
    a__law_gcd := _, d__law_gcd := fd__law_gcd, f__law_gcd := U__law_gcd, g__law_gcd := He.glo_ok X G (all_at c0 6 (a := .glo "_law_gcd") rfl), bd__law_gcd := U__law_gcd.binds (fun _ _ _ _ _ _ us hl => match us, hl with | [_, _], _ => rfl),
    a__law_lowest := _, d__law_lowest := fd__law_lowest, f__law_lowest := U__law_lowest, g__law_lowest := He.glo_ok X G (all_at c0 7 (a := .glo "_law_lowest") rfl), bd__law_lowest := U__law_lowest.binds (fun _ _ _ _ _ _ us hl => match us, hl with | [_, _], _ => rfl),
    a__law_spans := _, d__law_spans := fd__law_spans, f__law_spans := U__law_spans, g__law_spans := He.glo_ok X G (all_at c0 8 (a := .glo "_law_spans") rfl), bd__law_spans := U__law_spans.binds (fun _ _ _ _ _ _ us hl => match us, hl with | [_, _, _], _ => rfl),
    a__law_is_whole := _, d__law_is_whole := fd__law_is_whole, f__law_is_whole := U__law_is_whole, g__law_is_whole := He.glo_ok X G (all_at c0 9 (a := .glo "_law_is_whole") rfl), bd__law_is_whole := U__law_is_whole.binds (fun _ _ _ _ _ _ us hl => match us, hl with | [_], _ => rfl),
    a__law_same := _, d__law_same := fd__law_same, f__law_same := U__law_same, g__law_same := He.glo_ok X G (all_at c0 10 (a := .glo "_law_same") rfl), bd__law_same := U__law_same.binds (fun _ _ _ _ _ _ us hl => match us, hl with | [_, _], _ => rfl),
    a__law_is_round := _, d__law_is_round := fd__law_is_round, f__law_is_round := U__law_is_round, g__law_is_round := He.glo_ok X G (all_at c0 11 (a := .glo "_law_is_round") rfl), bd__law_is_round := U__law_is_round.binds (fun _ _ _ _ _ _ us hl => match us, hl with | [_, _], _ => rfl),
    a_first_duplicate := _, d_first_duplicate := fd_first_duplicate, f_first_duplicate := U_first_duplicate, g_first_duplicate := He.glo_ok X G (all_at c0 12 (a := .glo "first_duplicate") rfl), bd_first_duplicate := U_first_duplicate.binds (fun _ _ _ _ _ _ us hl => match us, hl with | [_], _ => rfl),
    a_check_system := _, d_check_system := fd_check_system, f_check_system := U_check_system, g_check_system := He.glo_ok X G (all_at c0 13 (a := .glo "check_system") rfl), bd_check_system := U_check_system.binds (fun _ _ _ _ _ _ us hl => match us, hl with | [_, _], _ => rfl),
    a_has_form := _, d_has_form := fd_has_form, f_has_form := U_has_form, g_has_form := He.glo_ok X G (all_at c0 14 (a := .glo "has_form") rfl), bd_has_form := U_has_form.binds (fun _ _ _ _ _ _ us hl => match us, hl with | [_, _, _], _ => rfl),
    a_is_whole := _, d_is_whole := fd_is_whole, f_is_whole := U_is_whole, g_is_whole := He.glo_ok X G (all_at c0 15 (a := .glo "is_whole") rfl), bd_is_whole := U_is_whole.binds (fun _ _ _ _ _ _ us hl => match us, hl with | [_], _ => rfl),
    a_is_fraction := _, d_is_fraction := fd_is_fraction, f_is_fraction := U_is_fraction, g_is_fraction := He.glo_ok X G (all_at c0 16 (a := .glo "is_fraction") rfl), bd_is_fraction := U_is_fraction.binds (fun _ _ _ _ _ _ us hl => match us, hl with | [_], _ => rfl),
    a_read_positions := _, d_read_positions := fd_read_positions, f_read_positions := U_read_positions, g_read_positions := He.glo_ok X G (all_at c0 17 (a := .glo "read_positions") rfl), bd_read_positions := U_read_positions.binds (fun _ _ _ _ _ _ us hl => match us, hl with | [_, _], _ => rfl),
    a_fraction := _, d_fraction := fd_fraction, f_fraction := U_fraction, g_fraction := He.glo_ok X G (all_at c0 18 (a := .glo "fraction") rfl), bd_fraction := U_fraction.binds (fun _ _ _ _ _ _ us hl => match us, hl with | [_, _], _ => rfl),
    a_minus := _, d_minus := fd_minus, f_minus := U_minus, g_minus := He.glo_ok X G (all_at c0 19 (a := .glo "minus") rfl), bd_minus := U_minus.binds (fun _ _ _ _ _ _ us hl => match us, hl with | [_, _], _ => rfl),
    a_compare := _, d_compare := fd_compare, f_compare := U_compare, g_compare := He.glo_ok X G (all_at c0 20 (a := .glo "compare") rfl), bd_compare := U_compare.binds (fun _ _ _ _ _ _ us hl => match us, hl with | [_, _], _ => rfl),
    a_are_rows_of_set := _, d_are_rows_of_set := fd_are_rows_of_set, f_are_rows_of_set := U_are_rows_of_set, g_are_rows_of_set := He.glo_ok X G (all_at c0 21 (a := .glo "are_rows_of_set") rfl), bd_are_rows_of_set := U_are_rows_of_set.binds (fun _ _ _ _ _ _ us hl => match us, hl with | [_, _, _], _ => rfl),
    a_is_set := _, d_is_set := fd_is_set, f_is_set := U_is_set, g_is_set := He.glo_ok X G (all_at c0 22 (a := .glo "is_set") rfl), bd_is_set := U_is_set.binds (fun _ _ _ _ _ _ us hl => match us, hl with | [_, _, _], _ => rfl),
    a_step_ends := _, d_step_ends := fd_step_ends, f_step_ends := U_step_ends, g_step_ends := He.glo_ok X G (all_at c0 23 (a := .glo "step_ends") rfl), bd_step_ends := U_step_ends.binds (fun _ _ _ _ _ _ us hl => match us, hl with | [_, _], _ => rfl),
    a_plus := _, d_plus := fd_plus, f_plus := U_plus, g_plus := He.glo_ok X G (all_at c0 24 (a := .glo "plus") rfl), bd_plus := U_plus.binds (fun _ _ _ _ _ _ us hl => match us, hl with | [_, _], _ => rfl),
    a_is_step := _, d_is_step := fd_is_step, f_is_step := U_is_step, g_is_step := He.glo_ok X G (all_at c0 25 (a := .glo "is_step") rfl), bd_is_step := U_is_step.binds (fun _ _ _ _ _ _ us hl => match us, hl with | [_, _], _ => rfl),
    a_walk_length := _, d_walk_length := fd_walk_length, f_walk_length := U_walk_length, g_walk_length := He.glo_ok X G (all_at c0 26 (a := .glo "walk_length") rfl), bd_walk_length := U_walk_length.binds (fun _ _ _ _ _ _ us hl => match us, hl with | [_, _, _, _], _ => rfl),
    a_is_loop := _, d_is_loop := fd_is_loop, f_is_loop := U_is_loop, g_is_loop := He.glo_ok X G (all_at c0 27 (a := .glo "is_loop") rfl), bd_is_loop := U_is_loop.binds (fun _ _ _ _ _ _ us hl => match us, hl with | [_, _, _], _ => rfl),
    a_common := _, d_common := fd_common, f_common := U_common, g_common := He.glo_ok X G (all_at c0 28 (a := .glo "common") rfl), bd_common := U_common.binds (fun _ _ _ _ _ _ us hl => match us, hl with | [_], _ => rfl),
    a_edges_of := _, d_edges_of := fd_edges_of, f_edges_of := U_edges_of, g_edges_of := He.glo_ok X G (all_at c0 29 (a := .glo "edges_of") rfl), bd_edges_of := U_edges_of.binds (fun _ _ _ _ _ _ us hl => match us, hl with | [_, _], _ => rfl),
    a_relax := _, d_relax := fd_relax, f_relax := U_relax, g_relax := He.glo_ok X G (all_at c0 30 (a := .glo "relax") rfl), bd_relax := U_relax.binds (fun _ _ _ _ _ _ us hl => match us, hl with | [_, _, _], _ => rfl),
    a_settle := _, d_settle := fd_settle, f_settle := U_settle, g_settle := He.glo_ok X G (all_at c0 31 (a := .glo "settle") rfl), bd_settle := U_settle.binds (fun _ _ _ _ _ _ us hl => match us, hl with | [_, _, _], _ => rfl),
    a_positions := _, d_positions := fd_positions, f_positions := U_positions, g_positions := He.glo_ok X G (all_at c0 32 (a := .glo "positions") rfl), bd_positions := U_positions.binds (fun _ _ _ _ _ _ us hl => match us, hl with | [_, _, _], _ => rfl),
    a_loop_through := _, d_loop_through := fd_loop_through, f_loop_through := U_loop_through, g_loop_through := He.glo_ok X G (all_at c0 33 (a := .glo "loop_through") rfl), bd_loop_through := U_loop_through.binds (fun _ _ _ _ _ _ us hl => match us, hl with | [_, _, _, _], _ => rfl),
    a_solve := _, d_solve := fd_solve, f_solve := U_solve, g_solve := He.glo_ok X G (all_at c0 34 (a := .glo "solve") rfl), bd_solve := U_solve.binds (fun _ _ _ _ _ _ us hl => match us, hl with | [_, _], _ => rfl),
    a_law := _, d_law := fd_law, f_law := U_law, bd_law := U_law.binds (fun _ _ _ _ _ _ us hl => match us, hl with | [_], _ => rfl),
    n_len := He.free_ok X G (all_at c0 36 (a := .free "len") rfl),
    n_min := He.free_ok X G (all_at c0 37 (a := .free "min") rfl),
    n_range := He.free_ok X G (all_at c0 38 (a := .free "range") rfl),
    n_int := He.free_ok X G (all_at c0 39 (a := .free "int") rfl),
    n_abs := He.free_ok X G (all_at c0 40 (a := .free "abs") rfl),
    n_tuple := He.free_ok X G (all_at c0 41 (a := .free "tuple") rfl),
    n_isinstance := He.free_ok X G (all_at c0 42 (a := .free "isinstance") rfl),
    n_bool := He.free_ok X G (all_at c0 43 (a := .free "bool") rfl),
    n_list := He.free_ok X G (all_at c0 44 (a := .free "list") rfl),
    n_str := He.free_ok X G (all_at c0 45 (a := .free "str") rfl),
    b_gcd := gBlt_ok X G q_gcd,
    b_lcm := gBlt_ok X G q_lcm,
    c_MOST_POINTS := gDat_ok X G q_MOST_POINTS,
    c_MOST_SPANS := gDat_ok X G q_MOST_SPANS,
    c_ZERO := gDat_ok X G q_ZERO,
    c_MOST_STEPS := gDat_ok X G q_MOST_STEPS }, rfl, fun s u => FunD.bindsA (ps := ["script"]) FF_law (fun _ _ _ _ _ _ us hl => match us, hl with | [_], _ => rfl) s [u] rfl⟩
end K22

set_option Elab.async false
set_option linter.all false
set_option maxRecDepth 100000
set_option maxHeartbeats 8000000
open PySem PySem.W PySem.Calls PyProof.Rows
theorem PySem.Challenge.cw_millbench_k22_hung_points_holds : PySem.Challenge.rw_millbench_k22_hung_points.Holds := by
  w_on; o_law
  refine HandSHeadRun.head_imp (r := K22.R0) (q := view K22.R0.prog [0, 50]) (H := K22.hk) (ob := K22.ob) (M := 20000) (loose := K22.lns) (d := HandSHeadRun.topDef K22.R0.prog 50) (kwd := []) K22.ob_eq
    K22.run (by kernel_rfl) (by kernel_rfl) (by kernel_rfl) (by rfl) (by first | assumption | decide +kernel) (by decide +kernel) ⟨rfl, rfl, rfl, rfl, rfl, by decide +kernel⟩ ?hw ?hc
  case hw => w_witness2
  case hc =>
    refine L2.walk_mv (l := PySem.Challenge.rw_millbench_k22_hung_points) (n := 63) (k := 12) rfl (by decide) (by kernel_rfl) ⟨rfl, by decide, by decide⟩ ?_
    intro w mg fa h Y G hmg0
    obtain ⟨K, KX, c⟩ := Y
    have hmg : mg ("law" : PySem.Str) = some (.ref fa) := by
      have e : (HandSHeadRun.topDef K22.R0.prog 50).name = ("law" : PySem.Str) := by kernel_rfl
      rw [← e]
      exact hmg0
    obtain ⟨E, e, hb⟩ := K22.facts KX G hmg c
    subst e
    exact ⟨K, E.d_law, K22.F_law, KX, hb, fun ns hl => K22.plain ns hl, fun base _ _ => K22.ok_law E⟩

