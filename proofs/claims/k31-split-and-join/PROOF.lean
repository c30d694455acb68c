import PyProof.Rows.All
import Wide.All
import OpenK.AllK
import Wide.FinOn
import HandS.ForMost
import HandS.Exc
import HandS.ExcOwn
import HandS.TryOnly
import HandS.TryMany
import HandS.WordsExc
import HandS.Wide
import HandS.Style
import HandS.SortRule
import HandS.IsInst
import HandS.TupAny
import HandS.OwnIter
import HandS.IterVal
import KE.KExcSuper
import KE.KSuper
import HandS.ExcSuper
import HandS.ExcIs
import PySem.Challenge.RW_roomsfit_k31_split_and_join
section
set_option Elab.async false
set_option linter.all false
set_option maxRecDepth 100000
namespace VL
open PySem L2

/-! ### data by value -/
inductive D where
  | non
  | bl (b : Bool)
  | int (i : Int)
  | str (x : Str)
  | cls (c : Str)
  | ty (n : String)
  | tup (xs : List D)
  | lst (o : Bool) (xs : List D)
  | ext (xs : List D)
  | dct (o : Bool) (ks : List Key) (xs : List D)
  | obj (o : Bool) (c : Str) (ns : List Str) (xs : List D)
  | exn (c : Str) (ns : List Str) (xs : List D)

/-- an exception by value -/
structure Ex where
  c : Str
  ns : List Str
  ds : List D

/-- the layer's constants: the written part, the classes' places, the exception that an except suite holds -/
structure Ly where
  K : PySem.W.Frag
  CT : Str → Addr
  sx : Option (Addr × Value × Option Addr)

abbrev Fp := Addr → Nat
def f0 : Fp := fun _ => 0
def f1 (a : Addr) : Fp := fun b => if b = a then 1 else 0
def fadd (f g : Fp) : Fp := fun a => f a + g a
abbrev AP := Addr → Prop

def stab : HO → Prop
  | .tup _ => True
  | .xd _ => True
  | .frz _ _ => True
  | _ => False

/-- a list that is read and never written -/
def FrzL (L : Ly) (F : AP) (H : Hp) (a : Addr) (vs : List V) : Prop := H a = some (.lst vs) ∧ F a
/-- a list of the world's own: the script, a list of the module -/
def ExtL (L : Ly) (H : Hp) (a : Addr) (vs : List V) : Prop := (∃ o, H a = some (.frz o (.lst vs))) ∨ ∀ H', SqL L.K H' a vs

mutual
/-- v stands for d; the owned places of d are counted by f -/
def Rep (L : Ly) (F : AP) (H : Hp) : D → V → Fp → Prop
  | .non, v, f => v = .non ∧ f = f0
  | .bl b, v, f => v = .bl b ∧ f = f0
  | .int i, v, f => v = .int i ∧ f = f0
  | .str x, v, f => v = .str x ∧ f = f0
  | .cls c, v, f => v = .ref (L.CT c) ∧ f = f0
  | .ty n, v, f => v = .ty n ∧ f = f0
  | .tup ds, v, f => ∃ a vs, v = .ref a ∧ H a = some (.tup vs) ∧ Reps L F H ds vs f
  | .lst true ds, v, f => ∃ a vs g, v = .ref a ∧ H a = some (.lst vs) ∧ f = fadd (f1 a) g ∧ Reps L F H ds vs g
  | .lst false ds, v, f => ∃ a vs, v = .ref a ∧ FrzL L F H a vs ∧ Reps L F H ds vs f
  | .ext ds, v, f => ∃ a vs, v = .ref a ∧ ExtL L H a vs ∧ Reps L F H ds vs f
  | .dct true ks ds, v, f => ∃ a vs g, v = .ref a ∧ H a = some (.dK (ks.zip vs)) ∧ ks.length = ds.length ∧ f = fadd (f1 a) g ∧ Reps L F H ds vs g
  | .dct false ks ds, v, f => ∃ a vs, v = .ref a ∧ H a = some (.dK (ks.zip vs)) ∧ F a ∧ ks.length = ds.length ∧ Reps L F H ds vs f
  | .obj true c ns ds, v, f => ∃ a dx vs g, v = .ref a ∧ H a = some (.ins (L.CT c) dx (ns.zip vs)) ∧ ns.length = ds.length ∧ f = fadd (f1 a) g ∧ Reps L F H ds vs g
  | .obj false c ns ds, v, f => ∃ a dx vs, v = .ref a ∧ H a = some (.ins (L.CT c) dx (ns.zip vs)) ∧ F a ∧ ns.length = ds.length ∧ Reps L F H ds vs f
  | .exn c ns ds, v, f => ∃ a d0, L.sx = some (a, .ref (L.CT c), d0) ∧ v = .ref a ∧ ((∃ dd vs, d0 = some dd ∧ H dd = some (.xd (ns.zip vs)) ∧ ns.length = ds.length ∧ Reps L F H ds vs f) ∨ (d0 = none ∧ ns = [] ∧ ds = [] ∧ f = f0))
def Reps (L : Ly) (F : AP) (H : Hp) : List D → List V → Fp → Prop
  | [], vs, f => vs = [] ∧ f = f0
  | d :: ds, vs, f => ∃ v ws g h, vs = v :: ws ∧ f = fadd g h ∧ Rep L F H d v g ∧ Reps L F H ds ws h
end
mutual
/-- nothing owned within -/
def D.fro : D → Bool
  | .tup ds => froL ds
  | .lst o ds => !o && froL ds
  | .ext ds => froL ds
  | .dct o _ ds => !o && froL ds
  | .obj o _ _ ds => !o && froL ds
  | .exn _ _ ds => froL ds
  | _ => true
def froL : List D → Bool
  | [] => true
  | d :: ds => d.fro && froL ds
end
mutual
/-- nothing locked within: every list and object is owned -/
def D.own : D → Bool
  | .tup ds => ownL ds
  | .lst o ds => o && ownL ds
  | .ext ds => ownL ds
  | .dct o _ ds => o && ownL ds
  | .obj o _ _ ds => o && ownL ds
  | .exn _ _ _ => false
  | _ => true
def ownL : List D → Bool
  | [] => true
  | d :: ds => d.own && ownL ds
end
mutual
/-- locked for good -/
def D.frz : D → D
  | .tup ds => .tup (frzL ds)
  | .lst _ ds => .lst false (frzL ds)
  | .ext ds => .ext (frzL ds)
  | .dct _ ks ds => .dct false ks (frzL ds)
  | .obj _ c ns ds => .obj false c ns (frzL ds)
  | .exn c ns ds => .exn c ns (frzL ds)
  | d => d
def frzL : List D → List D
  | [] => []
  | d :: ds => d.frz :: frzL ds
end

theorem fadd_f0 (f : Fp) : fadd f f0 = f := funext fun a => Nat.add_zero _
theorem f0_fadd (f : Fp) : fadd f0 f = f := funext fun a => Nat.zero_add _
theorem fadd_comm (f g : Fp) : fadd f g = fadd g f := funext fun a => Nat.add_comm _ _
theorem fadd_assoc (f g h : Fp) : fadd (fadd f g) h = fadd f (fadd g h) := funext fun a => Nat.add_assoc _ _ _
theorem fadd_at (f g : Fp) (a : Addr) : fadd f g a = f a + g a := rfl
theorem f1_self (a : Addr) : f1 a a = 1 := if_pos rfl
theorem f1_ne {a b : Addr} (h : b ≠ a) : f1 a b = 0 := if_neg h
theorem f0_at (a : Addr) : f0 a = 0 := rfl
theorem f0_not {a : Addr} : ¬ 1 ≤ f0 a := Nat.not_succ_le_zero 0

section
variable {L : Ly} {F F' : AP} {H H' : Hp}
theorem FrzL.keep {a : Addr} {vs : List V} (h : FrzL L F H a vs) (hF : ∀ a, F a → F' a) (k : ∀ a o, H a = some o → F a ∨ stab o → H' a = some o) : FrzL L F' H' a vs := ⟨k _ _ h.1 (.inl h.2), hF _ h.2⟩
theorem ExtL.keep {a : Addr} {vs : List V} (h : ExtL L H a vs) (k : ∀ a o, H a = some o → stab o → H' a = some o) : ExtL L H' a vs := h.imp (fun ⟨o, h⟩ => ⟨o, k _ _ h trivial⟩) id
theorem ExtL.sq {a : Addr} {vs : List V} (h : ExtL L H a vs) : SqL L.K H a vs := h.elim (fun ⟨o, h⟩ => .inl (.inr ⟨o, h⟩)) fun h => h H

mutual
theorem Rep.mono (hF : ∀ a, F a → F' a) (hS : ∀ a o, H a = some o → F a ∨ stab o → H' a = some o) : ∀ (d : D) {v : V} {f : Fp}, Rep L F H d v f → (∀ a o, 1 ≤ f a → H a = some o → H' a = some o) → Rep L F' H' d v f
  | .non, _, _, h, _ => h
  | .bl _, _, _, h, _ => h
  | .int _, _, _, h, _ => h
  | .str _, _, _, h, _ => h
  | .cls _, _, _, h, _ => h
  | .ty _, _, _, h, _ => h
  | .tup ds, _, _, ⟨a, vs, e, q, r⟩, k => ⟨a, vs, e, hS _ _ q (.inr trivial), Reps.mono hF hS ds r k⟩
  | .lst true ds, _, _, ⟨a, vs, g, e, q, ef, r⟩, k => ⟨a, vs, g, e, k a _ (by rw [ef, fadd_at, f1_self]; exact Nat.le_add_right _ _) q, ef, Reps.mono hF hS ds r fun b o x y => k b o (by rw [ef, fadd_at]; exact Nat.le_trans x (Nat.le_add_left _ _)) y⟩
  | .lst false ds, _, _, ⟨a, vs, e, q, r⟩, k => ⟨a, vs, e, q.keep hF hS, Reps.mono hF hS ds r k⟩
  | .ext ds, _, _, ⟨a, vs, e, q, r⟩, k => ⟨a, vs, e, q.keep (fun b o x y => hS b o x (.inr y)), Reps.mono hF hS ds r k⟩
  | .dct true ks ds, _, _, ⟨a, vs, g, e, q, hl, ef, r⟩, k => ⟨a, vs, g, e, k a _ (by rw [ef, fadd_at, f1_self]; exact Nat.le_add_right _ _) q, hl, ef, Reps.mono hF hS ds r fun b o x y => k b o (by rw [ef, fadd_at]; exact Nat.le_trans x (Nat.le_add_left _ _)) y⟩
  | .dct false ks ds, _, _, ⟨a, vs, e, q, hf, hl, r⟩, k => ⟨a, vs, e, hS _ _ q (.inl hf), hF _ hf, hl, Reps.mono hF hS ds r k⟩
  | .obj true c ns ds, _, _, ⟨a, dx, vs, g, e, q, hl, ef, r⟩, k => ⟨a, dx, vs, g, e, k a _ (by rw [ef, fadd_at, f1_self]; exact Nat.le_add_right _ _) q, hl, ef, Reps.mono hF hS ds r fun b o x y => k b o (by rw [ef, fadd_at]; exact Nat.le_trans x (Nat.le_add_left _ _)) y⟩
  | .obj false c ns ds, _, _, ⟨a, dx, vs, e, q, hf, hl, r⟩, k => ⟨a, dx, vs, e, hS _ _ q (.inl hf), hF _ hf, hl, Reps.mono hF hS ds r k⟩
  | .exn c ns ds, _, _, ⟨a, d0, e1, e2, h⟩, k => ⟨a, d0, e1, e2, by
      rcases h with ⟨dd, vs, ed, q, hl, r⟩ | h
      · exact .inl ⟨dd, vs, ed, hS _ _ q (.inr trivial), hl, Reps.mono hF hS ds r k⟩
      · exact .inr h⟩
theorem Reps.mono (hF : ∀ a, F a → F' a) (hS : ∀ a o, H a = some o → F a ∨ stab o → H' a = some o) : ∀ (ds : List D) {vs : List V} {f : Fp}, Reps L F H ds vs f → (∀ a o, 1 ≤ f a → H a = some o → H' a = some o) → Reps L F' H' ds vs f
  | [], _, _, h, _ => h
  | d :: ds, _, _, ⟨v, ws, g, h, e, ef, r1, r2⟩, k => ⟨v, ws, g, h, e, ef, Rep.mono hF hS d r1 fun b o x y => k b o (by rw [ef, fadd_at]; exact Nat.le_trans x (Nat.le_add_right _ _)) y, Reps.mono hF hS ds r2 fun b o x y => k b o (by rw [ef, fadd_at]; exact Nat.le_trans x (Nat.le_add_left _ _)) y⟩
end
mutual
theorem Rep.fro0 : ∀ (d : D) {v : V} {f : Fp}, d.fro = true → Rep L F H d v f → f = f0
  | .non, _, _, _, h => h.2
  | .bl _, _, _, _, h => h.2
  | .int _, _, _, _, h => h.2
  | .str _, _, _, _, h => h.2
  | .cls _, _, _, _, h => h.2
  | .ty _, _, _, _, h => h.2
  | .tup ds, _, _, q, ⟨_, _, _, _, r⟩ => Reps.fro0 ds q r
  | .lst true ds, _, _, q, _ => by simp [D.fro] at q
  | .lst false ds, _, _, q, ⟨_, _, _, _, r⟩ => Reps.fro0 ds (by simpa [D.fro] using q) r
  | .ext ds, _, _, q, ⟨_, _, _, _, r⟩ => Reps.fro0 ds q r
  | .dct true _ ds, _, _, q, _ => by simp [D.fro] at q
  | .dct false _ ds, _, _, q, ⟨_, _, _, _, _, _, r⟩ => Reps.fro0 ds (by simpa [D.fro] using q) r
  | .obj true _ _ ds, _, _, q, _ => by simp [D.fro] at q
  | .obj false _ _ ds, _, _, q, ⟨_, _, _, _, _, _, _, r⟩ => Reps.fro0 ds (by simpa [D.fro] using q) r
  | .exn _ _ ds, _, _, q, ⟨_, _, _, _, h⟩ => by
      rcases h with ⟨_, _, _, _, _, r⟩ | ⟨_, _, _, h⟩
      · exact Reps.fro0 ds q r
      · exact h
theorem Reps.fro0 : ∀ (ds : List D) {vs : List V} {f : Fp}, froL ds = true → Reps L F H ds vs f → f = f0
  | [], _, _, _, h => h.2
  | d :: ds, _, _, q, ⟨_, _, g, h, _, ef, r1, r2⟩ => by
      have q' : d.fro = true ∧ froL ds = true := by simpa [froL] using q
      rw [ef, Rep.fro0 d q'.1 r1, Reps.fro0 ds q'.2 r2]
      rfl
end
mutual
/-- all of it locked: its places belong to F' from now on -/
theorem Rep.lock (hF : ∀ a, F a → F' a) : ∀ (d : D) {v : V} {f : Fp}, Rep L F H d v f → (∀ a, 1 ≤ f a → F' a) → Rep L F' H d.frz v f0
  | .non, _, _, h, _ => ⟨h.1, rfl⟩
  | .bl _, _, _, h, _ => ⟨h.1, rfl⟩
  | .int _, _, _, h, _ => ⟨h.1, rfl⟩
  | .str _, _, _, h, _ => ⟨h.1, rfl⟩
  | .cls _, _, _, h, _ => ⟨h.1, rfl⟩
  | .ty _, _, _, h, _ => ⟨h.1, rfl⟩
  | .tup ds, _, _, ⟨a, vs, e, q, r⟩, k => ⟨a, vs, e, q, Reps.lock hF ds r k⟩
  | .lst true ds, _, _, ⟨a, vs, g, e, q, ef, r⟩, k => ⟨a, vs, e, ⟨q, k a (by rw [ef, fadd_at, f1_self]; exact Nat.le_add_right _ _)⟩, Reps.lock hF ds r fun b x => k b (by rw [ef, fadd_at]; exact Nat.le_trans x (Nat.le_add_left _ _))⟩
  | .lst false ds, _, _, ⟨a, vs, e, q, r⟩, k => ⟨a, vs, e, q.keep hF (fun _ _ x _ => x), Reps.lock hF ds r k⟩
  | .ext ds, _, _, ⟨a, vs, e, q, r⟩, k => ⟨a, vs, e, q, Reps.lock hF ds r k⟩
  | .dct true ks ds, _, _, ⟨a, vs, g, e, q, hl, ef, r⟩, k => ⟨a, vs, e, q, k a (by rw [ef, fadd_at, f1_self]; exact Nat.le_add_right _ _), by rw [hl]; exact (frzL_length ds).symm, Reps.lock hF ds r fun b x => k b (by rw [ef, fadd_at]; exact Nat.le_trans x (Nat.le_add_left _ _))⟩
  | .dct false ks ds, _, _, ⟨a, vs, e, q, hf, hl, r⟩, k => ⟨a, vs, e, q, hF _ hf, by rw [hl]; exact (frzL_length ds).symm, Reps.lock hF ds r k⟩
  | .obj true c ns ds, _, _, ⟨a, dx, vs, g, e, q, hl, ef, r⟩, k => ⟨a, dx, vs, e, q, k a (by rw [ef, fadd_at, f1_self]; exact Nat.le_add_right _ _), by rw [hl]; exact (frzL_length ds).symm, Reps.lock hF ds r fun b x => k b (by rw [ef, fadd_at]; exact Nat.le_trans x (Nat.le_add_left _ _))⟩
  | .obj false c ns ds, _, _, ⟨a, dx, vs, e, q, hf, hl, r⟩, k => ⟨a, dx, vs, e, q, hF _ hf, by rw [hl]; exact (frzL_length ds).symm, Reps.lock hF ds r k⟩
  | .exn c ns ds, _, _, ⟨a, d0, e1, e2, h⟩, k => ⟨a, d0, e1, e2, by
      rcases h with ⟨dd, vs, ed, q, hl, r⟩ | ⟨h1, h2, h3, h4⟩
      · exact .inl ⟨dd, vs, ed, q, by rw [hl]; exact (frzL_length ds).symm, Reps.lock hF ds r k⟩
      · exact .inr ⟨h1, h2, by rw [h3]; rfl, rfl⟩⟩
theorem Reps.lock (hF : ∀ a, F a → F' a) : ∀ (ds : List D) {vs : List V} {f : Fp}, Reps L F H ds vs f → (∀ a, 1 ≤ f a → F' a) → Reps L F' H (frzL ds) vs f0
  | [], _, _, h, _ => ⟨h.1, rfl⟩
  | d :: ds, _, _, ⟨v, ws, g, h, e, ef, r1, r2⟩, k => ⟨v, ws, f0, f0, e, rfl, Rep.lock hF d r1 fun b x => k b (by rw [ef, fadd_at]; exact Nat.le_trans x (Nat.le_add_right _ _)), Reps.lock hF ds r2 fun b x => k b (by rw [ef, fadd_at]; exact Nat.le_trans x (Nat.le_add_left _ _))⟩
theorem frzL_length : ∀ ds : List D, (frzL ds).length = ds.length
  | [] => rfl
  | _ :: ds => congrArg (· + 1) (frzL_length ds)
end
mutual
/-- what holds no locked place does not ask which places are locked -/
theorem Rep.own : ∀ (d : D) {v : V} {f : Fp}, d.own = true → Rep L F H d v f → Rep L F' H d v f
  | .non, _, _, _, h => h
  | .bl _, _, _, _, h => h
  | .int _, _, _, _, h => h
  | .str _, _, _, _, h => h
  | .cls _, _, _, _, h => h
  | .ty _, _, _, _, h => h
  | .tup ds, _, _, q, ⟨a, vs, e, s, r⟩ => ⟨a, vs, e, s, Reps.own ds q r⟩
  | .lst true ds, _, _, q, ⟨a, vs, g, e, s, ef, r⟩ => ⟨a, vs, g, e, s, ef, Reps.own ds (by simpa [D.own] using q) r⟩
  | .lst false ds, _, _, q, _ => by simp [D.own] at q
  | .ext ds, _, _, q, ⟨a, vs, e, s, r⟩ => ⟨a, vs, e, s, Reps.own ds q r⟩
  | .dct true _ ds, _, _, q, ⟨a, vs, g, e, s, hl, ef, r⟩ => ⟨a, vs, g, e, s, hl, ef, Reps.own ds (by simpa [D.own] using q) r⟩
  | .dct false _ ds, _, _, q, _ => by simp [D.own] at q
  | .obj true _ _ ds, _, _, q, ⟨a, dx, vs, g, e, s, hl, ef, r⟩ => ⟨a, dx, vs, g, e, s, hl, ef, Reps.own ds (by simpa [D.own] using q) r⟩
  | .obj false _ _ ds, _, _, q, _ => by simp [D.own] at q
  | .exn _ _ ds, _, _, q, _ => by simp [D.own] at q
theorem Reps.own : ∀ (ds : List D) {vs : List V} {f : Fp}, ownL ds = true → Reps L F H ds vs f → Reps L F' H ds vs f
  | [], _, _, _, h => h
  | d :: ds, _, _, q, ⟨v, ws, g, h, e, ef, r1, r2⟩ => by
      have q' : d.own = true ∧ ownL ds = true := by simpa [ownL] using q
      exact ⟨v, ws, g, h, e, ef, Rep.own d q'.1 r1, Reps.own ds q'.2 r2⟩
end
end
end VL
end
section
set_option Elab.async false
set_option linter.all false
set_option maxRecDepth 100000
namespace VL
open PySem L2

/-! ### states -/
structure Good (Kp F : AP) (H : Hp) (f : Fp) : Prop where
  lin : ∀ a, f a ≤ 1
  own : ∀ a, 1 ≤ f a → ¬ F a ∧ ¬ Kp a ∧ H a ≠ none
  kp : ∀ a, Kp a → H a ≠ none
  fr : ∀ a, F a → H a ≠ none
/-- what a run may do: Kp the places that it has to leave, F those locked ahead, F' those locked behind -/
structure Stp (Kp F : AP) (H : Hp) (F' : AP) (H' : Hp) : Prop where
  st : ∀ a o, H a = some o → F a ∨ Kp a ∨ stab o → H' a = some o
  fz : ∀ a, F a → F' a
  nf : ∀ a, F' a → F a ∨ ¬ Kp a
theorem Stp.refl {Kp F : AP} {H : Hp} : Stp Kp F H F H := ⟨fun _ _ h _ => h, fun _ h => h, fun _ h => .inl h⟩
theorem Stp.trans {Kp Kp1 F F1 F2 : AP} {H H1 H2 : Hp} (a : Stp Kp F H F1 H1) (b : Stp Kp1 F1 H1 F2 H2) (hk : ∀ x, Kp x → Kp1 x) : Stp Kp F H F2 H2 where
  st := fun x o h c => b.st x o (a.st x o h c) (by
    rcases c with c | c | c
    · exact .inl (a.fz x c)
    · exact .inr (.inl (hk x c))
    · exact .inr (.inr c))
  fz := fun x h => b.fz x (a.fz x h)
  nf := fun x h => by
    rcases b.nf x h with h | h
    · exact a.nf x h
    · exact .inr fun z => h (hk x z)
theorem Stp.same {Kp F : AP} {H H' : Hp} (h : Same H H') : Stp Kp F H F H' := ⟨fun a o e _ => h a o e, fun _ h => h, fun _ h => .inl h⟩
theorem Good.le {Kp F : AP} {H : Hp} {f g : Fp} (G : Good Kp F H f) (h : ∀ a, g a ≤ f a) : Good Kp F H g :=
  ⟨fun a => Nat.le_trans (h a) (G.lin a), fun a x => G.own a (Nat.le_trans x (h a)), G.kp, G.fr⟩
theorem Good.same {Kp F : AP} {H H' : Hp} {f : Fp} (G : Good Kp F H f) (h : Same H H') : Good Kp F H' f := by
  have k : ∀ a, H a ≠ none → H' a ≠ none := fun a x => by
    cases e : H a with
    | none => exact absurd e x
    | some o => rw [h a o e]; exact fun z => nomatch z
  exact ⟨G.lin, fun a x => ⟨(G.own a x).1, (G.own a x).2.1, k a (G.own a x).2.2⟩, fun a x => k a (G.kp a x), fun a x => k a (G.fr a x)⟩
/-- new places are owned -/
def New (H H' : Hp) (g : Fp) : Prop := ∀ a, g a ≤ 1 ∧ (1 ≤ g a → H a = none ∧ H' a ≠ none)
theorem New.zero {H H' : Hp} : New H H' f0 := fun _ => ⟨Nat.zero_le _, fun x => absurd x f0_not⟩
theorem New.one {H : Hp} {p : Addr} {o : HO} (hp : H p = none) : New H (upd H p o) (f1 p) := fun a => by
  by_cases e : a = p
  · subst e
    rw [f1_self]
    exact ⟨Nat.le_refl _, fun _ => ⟨hp, by rw [upd_same]; exact fun z => nomatch z⟩⟩
  · rw [f1_ne e]
    exact ⟨Nat.zero_le _, fun x => absurd x (by decide)⟩
theorem Good.new {Kp F : AP} {H H' : Hp} {f g : Fp} (G : Good Kp F H f) (h : Same H H') (n : New H H' g) : Good Kp F H' (fadd f g) := by
  have G' := G.same h
  refine ⟨fun a => ?_, fun a x => ?_, G'.kp, G'.fr⟩
  · by_cases q : 1 ≤ g a
    · have e := ((n a).2 q).1
      have : f a = 0 := by
        by_cases z : 1 ≤ f a
        · exact absurd e (G.own a z).2.2
        · omega
      have := (n a).1
      rw [fadd_at]; omega
    · have := G.lin a
      rw [fadd_at]; omega
  · by_cases q : 1 ≤ g a
    · have e := (n a).2 q
      exact ⟨fun z => G.fr a z e.1, fun z => G.kp a z e.1, e.2⟩
    · rw [fadd_at] at x
      exact G'.own a (by omega)
/-- what is held beside is kept -/
abbrev plus (Kp : AP) (g : Fp) : AP := fun a => Kp a ∨ 1 ≤ g a
theorem Good.split {Kp F : AP} {H : Hp} {f g : Fp} (G : Good Kp F H (fadd f g)) : Good (plus Kp g) F H f := by
  refine ⟨fun a => ?_, fun a x => ?_, fun a x => ?_, G.fr⟩
  · have := G.lin a; rw [fadd_at] at this; omega
  · have h1 := G.lin a
    rw [fadd_at] at h1
    have h2 := G.own a (by rw [fadd_at]; omega)
    exact ⟨h2.1, fun z => z.elim h2.2.1 fun y => by omega, h2.2.2⟩
  · rcases x with x | x
    · exact G.kp a x
    · exact (G.own a (by rw [fadd_at]; omega)).2.2
theorem Good.join {Kp F F' : AP} {H H' : Hp} {f g f' : Fp} (G : Good Kp F H (fadd f g)) (s : Stp (plus Kp g) F H F' H') (G' : Good (plus Kp g) F' H' f') : Good Kp F' H' (fadd f' g) := by
  refine ⟨fun a => ?_, fun a x => ?_, fun a x => G'.kp a (.inl x), G'.fr⟩
  · have h1 := G.lin a
    have h2 := G'.lin a
    rw [fadd_at] at h1 ⊢
    by_cases q : 1 ≤ f' a
    · have := (G'.own a q).2.1
      have : ¬ 1 ≤ g a := fun z => this (.inr z)
      omega
    · omega
  · rw [fadd_at] at x
    by_cases q : 1 ≤ f' a
    · have h := G'.own a q
      exact ⟨h.1, fun z => h.2.1 (.inl z), h.2.2⟩
    · have qg : 1 ≤ g a := by omega
      have h := G.own a (by rw [fadd_at]; omega)
      refine ⟨fun z => ?_, h.2.1, G'.kp a (.inr qg)⟩
      rcases s.nf a z with z | z
      · exact h.1 z
      · exact z (.inr qg)
theorem Stp.plus {Kp F F' : AP} {H H' : Hp} {g : Fp} (s : Stp (plus Kp g) F H F' H') : Stp Kp F H F' H' :=
  ⟨fun a o h c => s.st a o h (by
    rcases c with c | c | c
    · exact .inl c
    · exact .inr (.inl (.inl c))
    · exact .inr (.inr c)), s.fz, fun a h => (s.nf a h).imp id fun z y => z (.inl y)⟩
section
variable {L : Ly} {Kp F F' : AP} {H H' : Hp} {d : D} {v : V} {f g : Fp} {ds : List D} {vs : List V}
theorem Rep.same (r : Rep L F H d v f) (h : Same H H') : Rep L F H' d v f := r.mono (fun _ x => x) (fun a o e _ => h a o e) d fun a o _ e => h a o e
theorem Reps.same (r : Reps L F H ds vs f) (h : Same H H') : Reps L F H' ds vs f := r.mono (fun _ x => x) (fun a o e _ => h a o e) ds fun a o _ e => h a o e
theorem Rep.step (r : Rep L F H d v g) (s : Stp (plus Kp g) F H F' H') : Rep L F' H' d v g := r.mono s.fz (fun a o e c => s.st a o e (by
  rcases c with c | c
  · exact .inl c
  · exact .inr (.inr c))) d fun a o x e => s.st a o e (.inr (.inl (.inr x)))
theorem Reps.step (r : Reps L F H ds vs g) (s : Stp (plus Kp g) F H F' H') : Reps L F' H' ds vs g := r.mono s.fz (fun a o e c => s.st a o e (by
  rcases c with c | c
  · exact .inl c
  · exact .inr (.inr c))) ds fun a o x e => s.st a o e (.inr (.inl (.inr x)))
/-- a locked datum through any run -/
theorem Rep.step0 (r : Rep L F H d v f0) (s : Stp Kp F H F' H') : Rep L F' H' d v f0 := r.mono s.fz (fun a o e c => s.st a o e (by
  rcases c with c | c
  · exact .inl c
  · exact .inr (.inr c))) d fun a o x e => absurd x f0_not
end

/-! ### the frame by value -/
abbrev Env := List (Option D)
def EnvR (L : Ly) (F : AP) (H : Hp) : Env → St → Fp → Prop
  | [], σ, f => σ = [] ∧ f = f0
  | none :: r, σ, f => ∃ x t, σ = x :: t ∧ EnvR L F H r t f
  | some d :: r, σ, f => ∃ v t g h, σ = some v :: t ∧ f = fadd g h ∧ Rep L F H d v g ∧ EnvR L F H r t h
section
variable {L : Ly} {Kp F F' : AP} {H H' : Hp}
theorem EnvR.mono (hF : ∀ a, F a → F' a) (hS : ∀ a o, H a = some o → F a ∨ stab o → H' a = some o) : ∀ {ρ : Env} {σ : St} {f : Fp}, EnvR L F H ρ σ f → (∀ a o, 1 ≤ f a → H a = some o → H' a = some o) → EnvR L F' H' ρ σ f
  | [], _, _, h, _ => h
  | none :: r, _, _, ⟨x, t, e, h⟩, k => ⟨x, t, e, EnvR.mono hF hS h k⟩
  | some d :: r, _, _, ⟨v, t, g, h, e, ef, q, x⟩, k => ⟨v, t, g, h, e, ef, q.mono hF hS d fun b o x y => k b o (by rw [ef, fadd_at]; exact Nat.le_trans x (Nat.le_add_right _ _)) y, x.mono hF hS fun b o x y => k b o (by rw [ef, fadd_at]; exact Nat.le_trans x (Nat.le_add_left _ _)) y⟩
theorem EnvR.same {ρ : Env} {σ : St} {f : Fp} (r : EnvR L F H ρ σ f) (h : Same H H') : EnvR L F H' ρ σ f := r.mono (fun _ x => x) (fun a o e _ => h a o e) fun a o _ e => h a o e
theorem EnvR.step {ρ : Env} {σ : St} {g : Fp} (r : EnvR L F H ρ σ g) (s : Stp (plus Kp g) F H F' H') : EnvR L F' H' ρ σ g := r.mono s.fz (fun a o e c => s.st a o e (by
  rcases c with c | c
  · exact .inl c
  · exact .inr (.inr c))) fun a o x e => s.st a o e (.inr (.inl (.inr x)))
theorem EnvR.length : ∀ {ρ : Env} {σ : St} {f : Fp}, EnvR L F H ρ σ f → ρ.length = σ.length
  | [], _, _, ⟨e, _⟩ => by rw [e]; rfl
  | none :: r, _, _, ⟨x, t, e, h⟩ => by rw [e]; exact congrArg (· + 1) h.length
  | some d :: r, _, _, ⟨v, t, g, h, e, ef, q, x⟩ => by rw [e]; exact congrArg (· + 1) x.length
def Env.at (ρ : Env) (i : Nat) : Option D := (ρ[i]?).join
/-- the look at a name, and what may stand there instead -/
theorem EnvR.get : ∀ {ρ : Env} {σ : St} {f : Fp} {i : Nat} {d : D}, EnvR L F H ρ σ f → ρ.at i = some d → ∃ v g h, σ[i]? = some (some v) ∧ f = fadd g h ∧ Rep L F H d v g ∧ EnvR L F H (ρ.set i none) σ h ∧
    ∀ {d' : D} {v' : V} {g' : Fp}, Rep L F H d' v' g' → EnvR L F H (ρ.set i (some d')) (σ.set i (some v')) (fadd g' h)
  | [], _, _, i, d, _, e => by simp [Env.at] at e
  | none :: r, _, _, 0, d, _, e => by simp [Env.at] at e
  | none :: r, _, _, i + 1, d, ⟨x, t, e, q⟩, ei => by
      obtain ⟨v, g, h, h1, h2, h3, h4, h5⟩ := EnvR.get (i := i) (d := d) q (by simpa [Env.at] using ei)
      exact ⟨v, g, h, by rw [e]; simpa using h1, h2, h3, ⟨x, t, e, h4⟩, fun {d' v' g'} r' => ⟨x, t.set i (some v'), by rw [e]; rfl, h5 r'⟩⟩
  | some d0 :: r, _, _, 0, d, ⟨v, t, g, h, e, ef, q, x⟩, ei => by
      have e0 : d0 = d := by simpa [Env.at] using ei
      subst e0
      exact ⟨v, g, h, by rw [e]; rfl, ef, q, ⟨some v, t, e, x⟩, fun {d' v' g'} r' => ⟨v', t, g', h, by rw [e]; rfl, rfl, r', x⟩⟩
  | some d0 :: r, _, _, i + 1, d, ⟨v0, t, g0, h0, e, ef, q0, x⟩, ei => by
      obtain ⟨v, g, h, h1, h2, h3, h4, h5⟩ := EnvR.get (i := i) (d := d) x (by simpa [Env.at] using ei)
      refine ⟨v, g, fadd g0 h, by rw [e]; simpa using h1, ?_, h3, ⟨v0, t, g0, h, e, rfl, q0, h4⟩, fun {d' v' g'} r' => ⟨v0, t.set i (some v'), g0, fadd g' h, by rw [e]; rfl, ?_, q0, h5 r'⟩⟩
      · rw [ef, h2, ← fadd_assoc, ← fadd_assoc, fadd_comm g0 g]
      · rw [← fadd_assoc, ← fadd_assoc, fadd_comm g' g0]
/-- an empty place is filled -/
theorem EnvR.fill0 : ∀ {ρ : Env} {σ : L2.St} {f : Fp} {i : Nat} {d : D} {v : V} {g : Fp}, EnvR L F H ρ σ f → ρ.at i = none → i < ρ.length → Rep L F H d v g → EnvR L F H (ρ.set i (some d)) (σ.set i (some v)) (fadd g f)
  | [], _, _, i, _, _, _, _, _, e, _ => absurd e (Nat.not_lt_zero _)
  | none :: r, _, f, 0, d, v, g, ⟨x, t, e, q⟩, _, _, rr => ⟨v, t, g, f, by rw [e]; rfl, rfl, rr, q⟩
  | some _ :: r, _, f, 0, d, v, g, _, h, _, _ => by simp [Env.at] at h
  | none :: r, _, f, i + 1, d, v, g, ⟨x, t, e, q⟩, h, hi, rr => ⟨x, t.set i (some v), by rw [e]; rfl, EnvR.fill0 q (by simpa [Env.at] using h) (by simpa using hi) rr⟩
  | some d0 :: r, _, f, i + 1, d, v, g, ⟨v0, t, g0, h0, e, ef, q0, x⟩, h, hi, rr =>
    ⟨v0, t.set i (some v), g0, fadd g h0, by rw [e]; rfl, by rw [ef, ← fadd_assoc, ← fadd_assoc, fadd_comm g g0], q0, EnvR.fill0 x (by simpa [Env.at] using h) (by simpa using hi) rr⟩
theorem set_id {σ : L2.St} {i : Nat} {v : V} (h : σ[i]? = some (some v)) : σ.set i (some v) = σ := by
  obtain ⟨h1, h2⟩ := List.getElem?_eq_some_iff.mp h
  rw [← h2]
  exact List.set_getElem_self h1
/-- a place whose datum was taken away is filled again, by the value that stands there -/
theorem EnvR.fill {ρ : Env} {σ : L2.St} {f : Fp} {i : Nat} {d : D} {v : V} {g : Fp} (h : EnvR L F H (ρ.set i none) σ f) (hi : σ[i]? = some (some v)) (r : Rep L F H d v g) : EnvR L F H (ρ.set i (some d)) σ (fadd g f) := by
  have hl : i < (ρ.set i none).length := by
    rw [h.length]
    exact (List.getElem?_eq_some_iff.mp hi).1
  have e : Env.at (ρ.set i none) i = none := by
    unfold Env.at
    rw [List.getElem?_set_self (by rw [List.length_set] at hl; exact hl)]
    rfl
  have q := h.fill0 e hl r
  rw [List.set_set, set_id hi] at q
  exact q
/-- a name is stored -/
theorem EnvR.put : ∀ {ρ : Env} {σ : St} {f : Fp} {i : Nat} {d : D} {v : V} {g : Fp}, EnvR L F H ρ σ f → i < ρ.length → Rep L F H d v g → ∃ f', EnvR L F H (ρ.set i (some d)) (σ.set i (some v)) f' ∧ ∀ a, f' a ≤ f a + g a
  | [], _, _, i, _, _, _, _, e, _ => absurd e (Nat.not_lt_zero _)
  | none :: r, _, f, 0, d, v, g, ⟨x, t, e, q⟩, _, rr => ⟨fadd g f, ⟨v, t, g, f, by rw [e]; rfl, rfl, rr, q⟩, fun a => by rw [fadd_at]; omega⟩
  | some _ :: r, _, f, 0, d, v, g, ⟨v0, t, g0, h0, e, ef, q0, x⟩, _, rr => ⟨fadd g h0, ⟨v, t, g, h0, by rw [e]; rfl, rfl, rr, x⟩, fun a => by rw [ef, fadd_at, fadd_at]; omega⟩
  | none :: r, _, f, i + 1, d, v, g, ⟨x, t, e, q⟩, hi, rr => by
      obtain ⟨f', h1, h2⟩ := EnvR.put (i := i) q (by simpa using hi) rr
      exact ⟨f', ⟨x, t.set i (some v), by rw [e]; rfl, h1⟩, h2⟩
  | some d0 :: r, _, f, i + 1, d, v, g, ⟨v0, t, g0, h0, e, ef, q0, x⟩, hi, rr => by
      obtain ⟨f', h1, h2⟩ := EnvR.put (i := i) x (by simpa using hi) rr
      refine ⟨fadd g0 f', ⟨v0, t.set i (some v), g0, f', by rw [e]; rfl, rfl, q0, h1⟩, fun a => ?_⟩
      have := h2 a
      rw [ef, fadd_at, fadd_at]; omega
/-- a place of the frame is forgotten -/
theorem EnvR.drop : ∀ {ρ : Env} {σ : St} {f : Fp} (i : Nat), EnvR L F H ρ σ f → ∃ f', EnvR L F H (ρ.set i none) σ f' ∧ ∀ a, f' a ≤ f a
  | [], _, f, i, h => ⟨f, h, fun _ => Nat.le_refl _⟩
  | none :: r, _, f, 0, h => ⟨f, h, fun _ => Nat.le_refl _⟩
  | some _ :: r, _, f, 0, ⟨v0, t, g0, h0, e, ef, q0, x⟩ => ⟨h0, ⟨some v0, t, e, x⟩, fun a => by rw [ef, fadd_at]; omega⟩
  | none :: r, _, f, i + 1, ⟨x, t, e, q⟩ => by
      obtain ⟨f', h1, h2⟩ := EnvR.drop i q
      exact ⟨f', ⟨x, t, e, h1⟩, h2⟩
  | some d0 :: r, _, f, i + 1, ⟨v0, t, g0, h0, e, ef, q0, x⟩ => by
      obtain ⟨f', h1, h2⟩ := EnvR.drop i x
      refine ⟨fadd g0 f', ⟨v0, t, g0, f', e, rfl, q0, h1⟩, fun a => ?_⟩
      have := h2 a
      rw [ef, fadd_at, fadd_at]; omega
/-- the slot's value where nothing is known may be anything -/
theorem EnvR.any : ∀ {ρ : Env} {σ : St} {f : Fp} {i : Nat} {x : Option V}, EnvR L F H ρ σ f → ρ.at i = none → EnvR L F H ρ (σ.set i x) f
  | [], _, f, i, x, ⟨e, h⟩, _ => ⟨by rw [e]; rfl, h⟩
  | none :: r, _, f, 0, x, ⟨y, t, e, q⟩, _ => ⟨x, t, by rw [e]; rfl, q⟩
  | some _ :: r, _, f, 0, x, _, h => by simp [Env.at] at h
  | none :: r, _, f, i + 1, x, ⟨y, t, e, q⟩, h => ⟨y, t.set i x, by rw [e]; rfl, EnvR.any q (by simpa [Env.at] using h)⟩
  | some d0 :: r, _, f, i + 1, x, ⟨v0, t, g0, h0, e, ef, q0, q⟩, h => ⟨v0, t.set i x, g0, h0, by rw [e]; rfl, ef, q0, EnvR.any q (by simpa [Env.at] using h)⟩
end

/-! ### outcomes -/
inductive R (α : Type) where
  | ok (a : α) (ρ : Env)
  | exc (e : Ex) (ρ : Env)
  | bad
def R.bind {α β : Type} (r : R α) (k : α → Env → R β) : R β := match r with
  | .ok a ρ => k a ρ
  | .exc e ρ => .exc e ρ
  | .bad => .bad
inductive SR where
  | nx (ρ : Env)
  | rt (d : D) (ρ : Env)
  | bk (ρ : Env)
  | ct (ρ : Env)
  | exc (e : Ex) (ρ : Env)
  | bad
/-- behind an expression one goes on with a statement -/
def R.then {α : Type} (r : R α) (k : α → Env → SR) : SR := match r with
  | .ok a ρ => k a ρ
  | .exc e ρ => .exc e ρ
  | .bad => .bad
def SR.then (r : SR) (k : Env → SR) : SR := match r with
  | .nx ρ => k ρ
  | .rt d ρ => .rt d ρ
  | .bk ρ => .bk ρ
  | .ct ρ => .ct ρ
  | .exc e ρ => .exc e ρ
  | .bad => .bad
def ExR (L : Ly) (F : AP) (H : Hp) (e : Ex) (cls : Value) (d0 : Option Addr) : Prop :=
  cls = .ref (L.CT e.c) ∧ ((∃ dd vs, d0 = some dd ∧ H dd = some (.xd (e.ns.zip vs)) ∧ e.ns.length = e.ds.length ∧ Reps L F H e.ds vs f0) ∨ (d0 = none ∧ e.ns = [] ∧ e.ds = []))
theorem ExR.step {L : Ly} {Kp F F' : AP} {H H' : Hp} {e : Ex} {cls : Value} {d0 : Option Addr} (h : ExR L F H e cls d0) (s : Stp Kp F H F' H') : ExR L F' H' e cls d0 := by
  obtain ⟨h1, h2⟩ := h
  refine ⟨h1, ?_⟩
  rcases h2 with ⟨dd, vs, e1, e2, hl, r⟩ | h2
  · exact .inl ⟨dd, vs, e1, s.st _ _ e2 (.inr (.inr trivial)), hl, r.mono s.fz (fun a o e c => s.st a o e (by
      rcases c with c | c
      · exact .inl c
      · exact .inr (.inr c))) _ fun a o x e => absurd x f0_not⟩
  · exact .inr h2
/-- what an outcome of an expression asks -/
def Post {α : Type} (L : Ly) (W : WX) (Kp F : AP) (H : Hp) (σ : St) (r : R α) (P : α → Env → AP → Hp → Fp → Prop) : Prop := match r with
  | .ok a ρ => ∀ F' H' f, EnvR L F' H' ρ σ f → Stp Kp F H F' H' → P a ρ F' H' f
  | .exc e ρ => ∀ F' H' f cls d0, EnvR L F' H' ρ σ f → Good Kp F' H' f → Stp Kp F H F' H' → ExR L F' H' e cls d0 → W cls d0 σ H'
  | .bad => False
abbrev EM := Env → R D
abbrev TM := Env → R Bool
/-- an argument: a value, or a name that is lent -/
inductive AV where
  | val (d : D)
  | ld (i : Nat)
abbrev AM := Env → R (List AV)
abbrev PM := Env → Option D
abbrev SM := Env → SR
def AReps (L : Ly) (σ : L2.St) (F : AP) (H : Hp) : List AV → List V → Fp → Prop
  | [], vs, f => vs = [] ∧ f = f0
  | .val d :: as, vs, f => ∃ v ws g h, vs = v :: ws ∧ f = fadd g h ∧ Rep L F H d v g ∧ AReps L σ F H as ws h
  | .ld i :: as, vs, f => ∃ v ws, vs = v :: ws ∧ σ[i]? = some (some v) ∧ AReps L σ F H as ws f
def repB (b : Bool) (c : Bool) (k : Fp) : Prop := c = b ∧ k = f0
def tG {α β : Type} (rep : L2.St → AP → Hp → α → β → Fp → Prop) (L : Ly) (W : WX) (f : Env → R α) : L2.St → Hp → (β → Hp → Prop) → Prop := fun σ H Q => ∃ Kp F ρ g, EnvR L F H ρ σ g ∧ Good Kp F H g ∧
  Post L W Kp F H σ (f ρ) fun a _ F' H' g' => ∀ b k, rep σ F' H' a b k → Good Kp F' H' (fadd g' k) → Q b H'
abbrev tD (L : Ly) (W : WX) (f : EM) : TE := tG (fun _ => Rep L) L W f
abbrev tT (L : Ly) (W : WX) (f : TM) : TT := tG (fun _ _ _ => repB) L W f
abbrev tA (L : Ly) (W : WX) (f : AM) : TA := tG (AReps L) L W f
def tP (L : Ly) (p : PM) : TE := fun σ H Q => ∃ F ρ g d, EnvR L F H ρ σ g ∧ p ρ = some d ∧ ∀ v H' k, Same H H' → Rep L F H' d v k → Q v H'
def tPT (L : Ly) (p : Env → Option Bool) : TT := fun σ H Q => ∃ F ρ g b, EnvR L F H ρ σ g ∧ p ρ = some b ∧ ∀ H', Same H H' → Q b H'
/-- S: slots that keep their value through the def -/
def KeepS (S : List Nat) (σ σ' : St) : Prop := ∀ i ∈ S, σ'[i]? = σ[i]?
theorem KeepS.refl {S : List Nat} {σ : St} : KeepS S σ σ := fun _ _ => rfl
theorem KeepS.trans {S : List Nat} {σ σ1 σ2 : St} (a : KeepS S σ σ1) (b : KeepS S σ1 σ2) : KeepS S σ σ2 := fun i hi => (b i hi).trans (a i hi)
theorem KeepS.set {S : List Nat} {σ : St} {i : Nat} {x : Option V} (h : i ∉ S) : KeepS S σ (σ.set i x) := fun j hj => by
  rw [List.getElem?_set_ne]
  intro e
  exact h (e ▸ hj)
def PostS (L : Ly) (W : WX) (S : List Nat) (Kp F : AP) (H : Hp) (σ : St) (D : Ends) (r : SR) : Prop := match r with
  | .nx ρ => ∀ F' H' σ' f, EnvR L F' H' ρ σ' f → Good Kp F' H' f → Stp Kp F H F' H' → KeepS S σ σ' → D.nx σ' H'
  | .bk ρ => ∀ F' H' σ' f, EnvR L F' H' ρ σ' f → Good Kp F' H' f → Stp Kp F H F' H' → KeepS S σ σ' → D.bk σ' H'
  | .ct ρ => ∀ F' H' σ' f, EnvR L F' H' ρ σ' f → Good Kp F' H' f → Stp Kp F H F' H' → KeepS S σ σ' → D.ct σ' H'
  | .rt d ρ => ∀ F' H' σ' f v g, EnvR L F' H' ρ σ' f → Rep L F' H' d v g → Good Kp F' H' (fadd f g) → Stp Kp F H F' H' → KeepS S σ σ' → D.rt v H'
  | .exc e ρ => ∀ F' H' σ' f cls d0, EnvR L F' H' ρ σ' f → Good Kp F' H' f → Stp Kp F H F' H' → KeepS S σ σ' → ExR L F' H' e cls d0 → W cls d0 σ' H'
  | .bad => False
def tS (L : Ly) (W : WX) (S : List Nat) (m : SM) : TS := fun D σ H => ∃ Kp F ρ g, EnvR L F H ρ σ g ∧ Good Kp F H g ∧ PostS L W S Kp F H σ D (m ρ)
theorem PostS.from {L : Ly} {W : WX} {S : List Nat} {Kp F F1 : AP} {H H1 : Hp} {σ σ1 : St} {D : Ends} {r : SR} (h : PostS L W S Kp F H σ D r) (s : Stp Kp F H F1 H1) (k : KeepS S σ σ1) : PostS L W S Kp F1 H1 σ1 D r := by
  cases r with
  | nx ρ => exact fun F' H' σ' f e g s' k' => h F' H' σ' f e g (s.trans s' fun _ x => x) (k.trans k')
  | bk ρ => exact fun F' H' σ' f e g s' k' => h F' H' σ' f e g (s.trans s' fun _ x => x) (k.trans k')
  | ct ρ => exact fun F' H' σ' f e g s' k' => h F' H' σ' f e g (s.trans s' fun _ x => x) (k.trans k')
  | rt d ρ => exact fun F' H' σ' f v g e r g s' k' => h F' H' σ' f v _ e r g (s.trans s' fun _ x => x) (k.trans k')
  | exc e ρ => exact fun F' H' σ' f cls d0 e g s' k' x => h F' H' σ' f cls d0 e g (s.trans s' fun _ x => x) (k.trans k') x
  | bad => exact h
/-! ### weakening a rule's reading -/
section
variable {X : Cx}
theorem _root_.L2.PE.imp {e : Expr} {t t' : TE} (h : PE X e t) (w : ∀ σ H Q, t' σ H Q → t σ H Q) : PE X e t' := ⟨fun pins s σ H Q I q => h.run pins s σ H Q I (w σ H Q q)⟩
theorem _root_.L2.PT.imp {e : Expr} {t t' : TT} (h : PT X e t) (w : ∀ σ H Q, t' σ H Q → t σ H Q) : PT X e t' := ⟨fun pins s σ H Q I q => h.run pins s σ H Q I (w σ H Q q)⟩
theorem _root_.L2.PA.imp {e : List Expr} {t t' : TA} (h : PA X e t) (w : ∀ σ H Q, t' σ H Q → t σ H Q) : PA X e t' := ⟨fun pos pins s σ H Q I q => h.run pos pins s σ H Q I (w σ H Q q)⟩
theorem _root_.L2.PS.imp {e : Stmt} {t t' : TS} (h : PS X e t) (w : ∀ D σ H, t' D σ H → t D σ H) : PS X e t' := ⟨fun pins s σ H D I q => h.run pins s σ H D I (w D σ H q)⟩
theorem _root_.L2.PSs.imp {e : List Stmt} {t t' : TS} (h : PSs X e t) (w : ∀ D σ H, t' D σ H → t D σ H) : PSs X e t' := ⟨fun pins s σ H D I q => h.run pins s σ H D I (w D σ H q)⟩
end
end VL
end
section
set_option Elab.async false
set_option linter.all false
set_option maxRecDepth 100000
namespace VL
open PySem L2

/-! ### expressions that only read -/
def cP (d : D) : PM := fun _ => some d
def nP (i : Nat) : PM := fun ρ => ρ.at i
def opP (op : D → D → Option D) (pa pb : PM) : PM := fun ρ => (pa ρ).bind fun a => (pb ρ).bind fun b => op a b
def unP (op : D → Option D) (pa : PM) : PM := fun ρ => (pa ρ).bind op
abbrev PA' := Env → Option (List D)
def nilP : PA' := fun _ => some []
def consP (p : PM) (q : PA') : PA' := fun ρ => (p ρ).bind fun d => (q ρ).bind fun ds => some (d :: ds)
def callP (op : List D → Option D) (q : PA') : PM := fun ρ => (q ρ).bind op
/-- a truth value by data -/
def D.bool? : D → Option Bool
  | .bl b => some b
  | _ => none
def D.truth : D → Option Bool
  | .bl b => some b
  | .non => some false
  | .int i => some (i != 0)
  | .lst _ ds => some (!ds.isEmpty)
  | .ext ds => some (!ds.isEmpty)
  | .tup ds => some (!ds.isEmpty)
  | .dct _ ks _ => some (!ks.isEmpty)
  | _ => none
def andP (pa pb : PM) : PM := fun ρ => ((pa ρ).bind D.bool?).bind fun b => if b = true then pb ρ else some (.bl false)
def orP (pa pb : PM) : PM := fun ρ => ((pa ρ).bind D.bool?).bind fun b => if b = true then some (.bl true) else pb ρ
def notP (pa : PM) : PM := fun ρ => ((pa ρ).bind D.bool?).map fun b => .bl (!b)
abbrev PT' := Env → Option Bool
def valT (p : PM) : PT' := fun ρ => (p ρ).bind D.bool?
def truT (p : PM) : PT' := fun ρ => (p ρ).bind D.truth
def andT (p q : PT') : PT' := fun ρ => (p ρ).bind fun b => if b = true then q ρ else some false
def orT (p q : PT') : PT' := fun ρ => (p ρ).bind fun b => if b = true then some true else q ρ
def notT (p : PT') : PT' := fun ρ => (p ρ).map fun b => !b
def ifP (c : PT') (pa pb : PM) : PM := fun ρ => (c ρ).bind fun b => if b = true then pa ρ else pb ρ
def chainP (op op' : D → D → Option D) (pa pb pc : PM) : PM := fun ρ => (pa ρ).bind fun a => (pb ρ).bind fun b => ((op a b).bind D.bool?).bind fun k => if k = true then (pc ρ).bind fun c => op' b c else some (.bl false)

/-! ### the rules by values, by data -/
def OpPure (L : Ly) (r : R2) (op : D → D → Option D) : Prop := ∀ F H d1 d2 d v1 v2 g1 g2 Q, Rep L F H d1 v1 g1 → Rep L F H d2 v2 g2 → op d1 d2 = some d → (∀ v H' k, Same H H' → Rep L F H' d v k → Q v H') → r v1 v2 H Q
def OpEff (L : Ly) (r : R2) (op : D → D → Option D) : Prop := ∀ F H d1 d2 d v1 v2 g1 g2 Q, Rep L F H d1 v1 g1 → Rep L F H d2 v2 g2 → op d1 d2 = some d → (∀ v H' k, Same H H' → New H H' k → Rep L F H' d v k → Q v H') → r v1 v2 H Q
def UnPure (L : Ly) (r : V → Hp → VK → Prop) (op : D → Option D) : Prop := ∀ F H d1 d v1 g1 Q, Rep L F H d1 v1 g1 → op d1 = some d → (∀ v H' k, Same H H' → Rep L F H' d v k → Q v H') → r v1 H Q
def UnEff (L : Ly) (r : V → Hp → VK → Prop) (op : D → Option D) : Prop := ∀ F H d1 d v1 g1 Q, Rep L F H d1 v1 g1 → op d1 = some d → (∀ v H' k, Same H H' → New H H' k → Rep L F H' d v k → Q v H') → r v1 H Q
def CallPure (L : Ly) (r : List V → Hp → VK → Prop) (op : List D → Option D) : Prop := ∀ F H ds d vs g1 Q, Reps L F H ds vs g1 → op ds = some d → (∀ v H' k, Same H H' → Rep L F H' d v k → Q v H') → r vs H Q
def CallEff (L : Ly) (r : List V → Hp → VK → Prop) (op : List D → Option D) : Prop := ∀ F H ds d vs g1 Q, Reps L F H ds vs g1 → op ds = some d → (∀ v H' k, Same H H' → New H H' k → Rep L F H' d v k → Q v H') → r vs H Q
section
variable {L : Ly}
theorem OpEff.pure {r : R2} {op : D → D → Option D} (h : OpEff L r op) : OpPure L r op := fun F H d1 d2 d v1 v2 g1 g2 Q r1 r2 e k => h F H d1 d2 d v1 v2 g1 g2 Q r1 r2 e fun v H' g s _ r' => k v H' g s r'
theorem UnEff.pure {r : V → Hp → VK → Prop} {op : D → Option D} (h : UnEff L r op) : UnPure L r op := fun F H d1 d v1 g1 Q r1 e k => h F H d1 d v1 g1 Q r1 e fun v H' g s _ r' => k v H' g s r'
theorem CallEff.pure {r : List V → Hp → VK → Prop} {op : List D → Option D} (h : CallEff L r op) : CallPure L r op := fun F H d1 d v1 g1 Q r1 e k => h F H d1 d v1 g1 Q r1 e fun v H' g s _ r' => k v H' g s r'
end

def tAP (L : Ly) (p : PA') : TA := fun σ H Q => ∃ F ρ g ds, EnvR L F H ρ σ g ∧ p ρ = some ds ∧ ∀ vs H' k, Same H H' → Reps L F H' ds vs k → Q vs H'

section
variable {X : Cx} {L : Ly} {a b c e : Expr} {es : List Expr} {pos : Pos} {pa pb pc : PM} {q : PA'}
theorem EnvR.look {F : AP} {H : Hp} {ρ : Env} {σ : L2.St} {f : Fp} {i : Nat} {d : D} (h : EnvR L F H ρ σ f) (e : ρ.at i = some d) : ∃ v k, σ[i]? = some (some v) ∧ Rep L F H d v k := by
  obtain ⟨v, g, _, h1, _, h3, _⟩ := h.get e
  exact ⟨v, g, h1, h3⟩
theorem pp_name {i : Nat} (h : PE X e (tVar i)) : PE X e (tP L (nP i)) := h.imp fun σ H Q ⟨F, ρ, g, d, er, hp, k⟩ => by
  obtain ⟨v, k', h1, h2⟩ := er.look hp
  exact ⟨v, h1, k v H k' (Same.refl H) h2⟩
theorem pp_const {v : V} {d : D} (h : PE X e (tC v)) (r : ∀ F H, Rep L F H d v f0) : PE X e (tP L (cP d)) := h.imp fun σ H Q ⟨F, ρ, g, d', er, hp, k⟩ => by
  obtain rfl : d = d' := Option.some.inj hp
  exact k v H f0 (Same.refl H) (r F H)
theorem imp_opP {r : R2} {op : D → D → Option D} (ho : OpPure L r op) : ∀ σ H Q, tP L (opP op pa pb) σ H Q → tOp r (tP L pa) (tP L pb) σ H Q := fun σ H Q ⟨F, ρ, g, d, er, hp, k⟩ => by
  obtain ⟨d1, h1, hp⟩ := Option.bind_eq_some_iff.mp hp
  obtain ⟨d2, h2, hp⟩ := Option.bind_eq_some_iff.mp hp
  exact ⟨F, ρ, g, d1, er, h1, fun v1 H1 k1 s1 r1 => ⟨F, ρ, g, d2, er.same s1, h2, fun v2 H2 k2 s2 r2 => ho F H2 d1 d2 d v1 v2 _ _ Q (r1.same s2) r2 hp fun v H3 k3 s3 r3 => k v H3 k3 (s1.trans (s2.trans s3)) r3⟩⟩
theorem pp_op {o : Operator} {r : R2} {op : D → D → Option D} (hr : OpR X (binaryOp o) r) (ho : OpPure L r op) (ha : PE X a (tP L pa)) (hb : PE X b (tP L pb)) : PE X (.BinOp a o b pos) (tP L (opP op pa pb)) := (pe_op hr ha hb).imp (imp_opP ho)
theorem pp_cmp {o : CmpOp} {r : R2} {op : D → D → Option D} (hr : OpR X (compareOp o) r) (ho : OpPure L r op) (ha : PE X a (tP L pa)) (hb : PE X b (tP L pb)) (hm : behindInMarks o b = false) : PE X (.Compare a [o] [b] pos) (tP L (opP op pa pb)) := (pe_cmpR hr ha hb hm).imp (imp_opP ho)
theorem pp_ix {r : R2} {op : D → D → Option D} (hr : IxR X r) (ho : OpPure L r op) (ha : PE X a (tP L pa)) (hb : PE X b (tP L pb)) (hs : PlainIx b) : PE X (.Subscript a b pos) (tP L (opP op pa pb)) := (pe_ix hr ha hb hs).imp (imp_opP ho)
theorem pp_un {o : UnaryOp} {r : V → Hp → VK → Prop} {op : D → Option D} (hr : UnR X (unaryOp o) r) (ho : UnPure L r op) (ha : PE X a (tP L pa)) : PE X (.UnaryOp o a pos) (tP L (unP op pa)) := (pe_un hr ha).imp fun σ H Q ⟨F, ρ, g, d, er, hp, k⟩ => by
  obtain ⟨d1, h1, hp⟩ := Option.bind_eq_some_iff.mp hp
  exact ⟨F, ρ, g, d1, er, h1, fun v1 H1 k1 s1 r1 => ho F H1 d1 d v1 _ Q r1 hp fun v H3 k3 s3 r3 => k v H3 k3 (s1.trans s3) r3⟩
theorem pap_nil : PA X [] (tAP L nilP) := pa_nil.imp fun σ H Q ⟨F, ρ, g, ds, er, hp, k⟩ => by
  obtain rfl : [] = ds := Option.some.inj hp
  exact k [] H f0 (Same.refl H) ⟨rfl, rfl⟩
theorem pap_cons (ha : PE X e (tP L pa)) (hr : PA X es (tAP L q)) (hs : starEach (e :: es) X.env = (false, eval e X.env) :: starEach es X.env := by rfl) : PA X (e :: es) (tAP L (consP pa q)) := (pa_cons ha hr hs).imp fun σ H Q ⟨F, ρ, g, ds, er, hp, k⟩ => by
  obtain ⟨d1, h1, hp⟩ := Option.bind_eq_some_iff.mp hp
  obtain ⟨ds2, h2, hp⟩ := Option.bind_eq_some_iff.mp hp
  obtain rfl : d1 :: ds2 = ds := Option.some.inj hp
  exact ⟨F, ρ, g, d1, er, h1, fun v1 H1 k1 s1 r1 => ⟨F, ρ, g, ds2, er.same s1, h2, fun vs H2 k2 s2 r2 => k (v1 :: vs) H2 _ (s1.trans s2) ⟨v1, vs, _, _, rfl, rfl, r1.same s2, r2⟩⟩⟩
theorem imp_callP {r : List V → Hp → VK → Prop} {op : List D → Option D} (ho : CallPure L r op) : ∀ σ H Q, tP L (callP op q) σ H Q → tCB r (tAP L q) σ H Q := fun σ H Q ⟨F, ρ, g, d, er, hp, k⟩ => by
  obtain ⟨ds, h1, hp⟩ := Option.bind_eq_some_iff.mp hp
  exact ⟨F, ρ, g, ds, er, h1, fun vs H1 k1 s1 r1 => ho F H1 ds d vs _ Q r1 hp fun v H3 k3 s3 r3 => k v H3 k3 (s1.trans s3) r3⟩
theorem pp_callB {id : String} {r : List V → Hp → VK → Prop} {op : List D → Option D} {x : Str} {p : Pos} (hc : CallR X (.builtin id) r) (ho : CallPure L r op) (hg : Gl X x) (hm : X.mg x = none) (hv : bootBuiltins x = some (.builtin id)) (ha : PA X (e :: es) (tAP L q)) (hn : x ≠ "__name__" := by decide) (hdb : (x == ("__debug__" : Str)) = false := by decide)
    (he : starEach (e :: es) X.env = (false, eval e X.env) :: starEach es X.env := by rfl) (hpl : (backTo pos (starEach es X.env)).any (·.1) = false := by rfl) : PE X (.Call (.Name x p) (e :: es) [] pos) (tP L (callP op q)) := (pe_callB hc hg hm hv ha hn hdb he hpl).imp (imp_callP ho)
theorem pp_callTy {T : String} {r : List V → Hp → VK → Prop} {op : List D → Option D} {x : Str} {p : Pos} (hc : CallR X (.type T) r) (ho : CallPure L r op) (hg : Gl X x) (hm : X.mg x = none) (hv : bootBuiltins x = some (.type T)) (ha : PA X (e :: es) (tAP L q)) (hn : x ≠ "__name__" := by decide) (hdb : (x == ("__debug__" : Str)) = false := by decide)
    (he : starEach (e :: es) X.env = (false, eval e X.env) :: starEach es X.env := by rfl) (hpl : (backTo pos (starEach es X.env)).any (·.1) = false := by rfl) : PE X (.Call (.Name x p) (e :: es) [] pos) (tP L (callP op q)) := (pe_callTy hc hg hm hv ha hn hdb he hpl).imp (imp_callP ho)
/-- displays, read and thrown away -/
def tupP (q : PA') : PM := fun ρ => (q ρ).bind fun ds => if ds.length ≤ 1000 then some (.tup ds) else none
def lstP (q : PA') : PM := fun ρ => (q ρ).bind fun ds => if ds.length ≤ 1000 then some (.lst true ds) else none
theorem Reps.length {F : AP} {H : Hp} : ∀ {ds : List D} {vs : List V} {f : Fp}, Reps L F H ds vs f → ds.length = vs.length
  | [], _, _, ⟨e, _⟩ => by rw [e]; rfl
  | d :: ds, _, _, ⟨v, ws, g, h, e, _, _, r⟩ => by rw [e]; exact congrArg (· + 1) r.length
theorem same_upd {H : Hp} {p : Addr} {o : HO} (h : H p = none) : Same H (upd H p o) := fun b x e => by
  rw [upd_ne (ne_of_none e h)]
  exact e
theorem le1000 {n : Nat} (h : n ≤ 1000) : n ≤ sizeLine := Nat.le_of_lt (small1000 h)
theorem pp_tup {x1} (h : PA X es (tAP L q)) : PE X (.Tuple es x1 pos) (tP L (tupP q)) := (pe_tup h).imp fun σ H Q ⟨F, ρ, g, d, er, hp, k⟩ => by
  obtain ⟨ds, h1, hp⟩ := Option.bind_eq_some_iff.mp hp
  by_cases hl : ds.length ≤ 1000
  · rw [if_pos hl] at hp
    obtain rfl := Option.some.inj hp
    exact ⟨F, ρ, g, ds, er, h1, fun vs H1 k1 s1 r1 => ⟨le1000 (by rw [← r1.length]; exact hl), fun p np => k (.ref p) _ k1 (s1.trans (same_upd np)) ⟨p, vs, rfl, upd_same, r1.same (same_upd np)⟩⟩⟩
  · rw [if_neg hl] at hp
    exact nomatch hp
theorem pp_lst (h : PA X es (tAP L q)) : PE X (.List es pos) (tP L (lstP q)) := (pe_lst h).imp fun σ H Q ⟨F, ρ, g, d, er, hp, k⟩ => by
  obtain ⟨ds, h1, hp⟩ := Option.bind_eq_some_iff.mp hp
  by_cases hl : ds.length ≤ 1000
  · rw [if_pos hl] at hp
    obtain rfl := Option.some.inj hp
    exact ⟨F, ρ, g, ds, er, h1, fun vs H1 k1 s1 r1 => ⟨le1000 (by rw [← r1.length]; exact hl), fun p np => k (.ref p) _ _ (s1.trans (same_upd np)) ⟨p, vs, k1, rfl, upd_same, rfl, r1.same (same_upd np)⟩⟩⟩
  · rw [if_neg hl] at hp
    exact nomatch hp
theorem Rep.bool {F : AP} {H : Hp} {d : D} {v : V} {f : Fp} {b : Bool} (r : Rep L F H d v f) (h : d.bool? = some b) : v = .bl b ∧ d = .bl b := by
  cases d <;> simp [D.bool?] at h
  subst h
  exact ⟨r.1, rfl⟩
theorem pp_and {es : List Expr} (ha : PE X a (tP L pa)) (hb : PE X (.BoolOp .And (b :: es) pos) (tP L pb)) : PE X (.BoolOp .And (a :: b :: es) pos) (tP L (andP pa pb)) := (pe_and ha hb).imp fun σ H Q ⟨F, ρ, g, d, er, hp, k⟩ => by
  obtain ⟨c, h1, hp⟩ := Option.bind_eq_some_iff.mp hp
  obtain ⟨d1, h1, h2⟩ := Option.bind_eq_some_iff.mp h1
  refine ⟨F, ρ, g, d1, er, h1, fun v1 H1 k1 s1 r1 => ⟨c, (r1.bool h2).1, ?_⟩⟩
  cases c with
  | true => exact ⟨F, ρ, g, d, er.same s1, hp, fun v H2 k2 s2 r2 => k v H2 k2 (s1.trans s2) r2⟩
  | false =>
    obtain rfl := Option.some.inj hp
    exact k _ H1 f0 s1 ⟨rfl, rfl⟩
theorem pp_or {es : List Expr} (ha : PE X a (tP L pa)) (hb : PE X (.BoolOp .Or (b :: es) pos) (tP L pb)) : PE X (.BoolOp .Or (a :: b :: es) pos) (tP L (orP pa pb)) := (pe_or ha hb).imp fun σ H Q ⟨F, ρ, g, d, er, hp, k⟩ => by
  obtain ⟨c, h1, hp⟩ := Option.bind_eq_some_iff.mp hp
  obtain ⟨d1, h1, h2⟩ := Option.bind_eq_some_iff.mp h1
  refine ⟨F, ρ, g, d1, er, h1, fun v1 H1 k1 s1 r1 => ⟨c, (r1.bool h2).1, ?_⟩⟩
  cases c with
  | false => exact ⟨F, ρ, g, d, er.same s1, hp, fun v H2 k2 s2 r2 => k v H2 k2 (s1.trans s2) r2⟩
  | true =>
    obtain rfl := Option.some.inj hp
    exact k _ H1 f0 s1 ⟨rfl, rfl⟩
theorem pp_one {o : BoolOp} {t : TE} (h : PE X a t) : PE X (.BoolOp o [a] pos) t := pe_one h
theorem pp_not (ha : PE X a (tP L pa)) : PE X (.UnaryOp .Not a pos) (tP L (notP pa)) := (pe_not ha).imp fun σ H Q ⟨F, ρ, g, d, er, hp, k⟩ => by
  obtain ⟨c, h1, hp⟩ := Option.map_eq_some_iff.mp hp
  obtain ⟨d1, h1, h2⟩ := Option.bind_eq_some_iff.mp h1
  subst hp
  exact ⟨F, ρ, g, d1, er, h1, fun v1 H1 k1 s1 r1 => ⟨c, (r1.bool h2).1, k _ H1 f0 s1 ⟨rfl, rfl⟩⟩⟩
theorem pp_if {t : PT'} (hc : PT X c (tPT L t)) (ha : PE X a (tP L pa)) (hb : PE X b (tP L pb)) : PE X (.IfExp c a b pos) (tP L (ifP t pa pb)) := (pe_ifExp hc ha hb).imp fun σ H Q ⟨F, ρ, g, d, er, hp, k⟩ => by
  obtain ⟨k1, h1, hp⟩ := Option.bind_eq_some_iff.mp hp
  refine ⟨F, ρ, g, k1, er, h1, fun H1 s1 => ?_⟩
  cases k1 with
  | true => exact ⟨F, ρ, g, d, er.same s1, hp, fun v H2 k2 s2 r2 => k v H2 k2 (s1.trans s2) r2⟩
  | false => exact ⟨F, ρ, g, d, er.same s1, hp, fun v H2 k2 s2 r2 => k v H2 k2 (s1.trans s2) r2⟩
theorem imp_chainP {r r' : R2} {op op' : D → D → Option D} (ho : OpPure L r op) (ho' : OpPure L r' op') : ∀ σ H Q, tP L (chainP op op' pa pb pc) σ H Q → tChain r r' (tP L pa) (tP L pb) (tP L pc) σ H Q := fun σ H Q ⟨F, ρ, g, d, er, hp, k⟩ => by
  obtain ⟨d1, h1, hp⟩ := Option.bind_eq_some_iff.mp hp
  obtain ⟨d2, h2, hp⟩ := Option.bind_eq_some_iff.mp hp
  obtain ⟨c, h3, hp⟩ := Option.bind_eq_some_iff.mp hp
  obtain ⟨dc, h3, h4⟩ := Option.bind_eq_some_iff.mp h3
  refine ⟨F, ρ, g, d1, er, h1, fun v1 H1 k1 s1 r1 => ⟨F, ρ, g, d2, er.same s1, h2, fun v2 H2 k2 s2 r2 => ho F H2 d1 d2 dc v1 v2 _ _ _ (r1.same s2) r2 h3 fun v H3 k3 s3 r3 => ⟨c, (r3.bool h4).1, ?_⟩⟩⟩
  have s13 := s1.trans (s2.trans s3)
  cases c with
  | true =>
    obtain ⟨d3, h5, hp⟩ := Option.bind_eq_some_iff.mp hp
    exact ⟨F, ρ, g, d3, er.same s13, h5, fun v4 H4 k4 s4 r4 => ho' F H4 d2 d3 d v2 v4 _ _ Q (r2.same (s3.trans s4)) r4 hp fun v5 H5 k5 s5 r5 => k v5 H5 k5 (s13.trans (s4.trans s5)) r5⟩
  | false =>
    obtain rfl := Option.some.inj hp
    exact k _ H3 f0 s13 ⟨rfl, rfl⟩
theorem pp_chain {o o' : CmpOp} {r r' : R2} {op op' : D → D → Option D} (hr : OpR X (compareOp o) r) (hr' : OpR X (compareOp o') r') (ho : OpPure L r op) (ho' : OpPure L r' op') (ha : PE X a (tP L pa)) (hb : PE X b (tP L pb)) (hc : PE X c (tP L pc))
    (hm : lastMarks [o, o'] [b, c] = false := by with_unfolding_all rfl) : PE X (.Compare a [o, o'] [b, c] pos) (tP L (chainP op op' pa pb pc)) := (pe_chain hr hr' ha hb hc hm).imp (imp_chainP ho ho')

/-! ### tests that only read -/
theorem imp_valT : ∀ σ H Q, tPT L (valT pa) σ H Q → tB (tP L pa) σ H Q := fun σ H Q ⟨F, ρ, g, b, er, hp, k⟩ => by
  obtain ⟨d1, h1, h2⟩ := Option.bind_eq_some_iff.mp hp
  exact ⟨F, ρ, g, d1, er, h1, fun v1 H1 k1 s1 r1 => ⟨b, (r1.bool h2).1, k H1 s1⟩⟩
theorem pq_val (h : PE X e (tP L pa)) (he : ∀ whole, isTrue e X.env whole = (do let v ← whole; standAt e.pos; holding [v] (truthy v)) := by intro _; rfl) : PT X e (tPT L (valT pa)) := (pt_val h he).imp imp_valT
theorem pq_cmp {o : CmpOp} {r : R2} {op : D → D → Option D} (hr : OpR X (compareOp o) r) (ho : OpPure L r op) (ha : PE X a (tP L pa)) (hb : PE X b (tP L pb)) (hm : behindInMarks o b = false) : PT X (.Compare a [o] [b] pos) (tPT L (valT (opP op pa pb))) := (pt_cmpR hr ha hb hm).imp fun σ H Q ⟨F, ρ, g, c, er, hp, k⟩ => by
  obtain ⟨d, h1, h2⟩ := Option.bind_eq_some_iff.mp hp
  exact imp_opP ho σ H _ ⟨F, ρ, g, d, er, h1, fun v H3 k3 s3 r3 => ⟨c, (r3.bool h2).1, k H3 s3⟩⟩
theorem pq_chain {o o' : CmpOp} {r r' : R2} {op op' : D → D → Option D} (hr : OpR X (compareOp o) r) (hr' : OpR X (compareOp o') r') (ho : OpPure L r op) (ho' : OpPure L r' op') (ha : PE X a (tP L pa)) (hb : PE X b (tP L pb)) (hc : PE X c (tP L pc))
    (hm : lastMarks [o, o'] [b, c] = false := by with_unfolding_all rfl) : PT X (.Compare a [o, o'] [b, c] pos) (tPT L (valT (chainP op op' pa pb pc))) := (pt_chain hr hr' ha hb hc hm).imp fun σ H Q ⟨F, ρ, g, k0, er, hp, k⟩ => by
  obtain ⟨d, h1, h2⟩ := Option.bind_eq_some_iff.mp hp
  exact imp_chainP ho ho' σ H _ ⟨F, ρ, g, d, er, h1, fun v H3 k3 s3 r3 => ⟨k0, (r3.bool h2).1, k H3 s3⟩⟩
theorem zip_ne {ks : List Key} {ds : List D} {vs : List V} (h1 : ks.length = ds.length) (h2 : ds.length = vs.length) : (ks.zip vs).isEmpty = ks.isEmpty := by
  cases ks with
  | nil => rfl
  | cons k r =>
    cases vs with
    | nil => simp_all
    | cons v t => rfl
theorem Rep.tru {F : AP} {H : Hp} {d : D} {v : V} {f : Fp} {b : Bool} (r : Rep L F H d v f) (h : d.truth = some b) : TruV L.K v H b := by
  cases d with
  | non => obtain rfl := Option.some.inj h; rw [r.1]; exact rfl
  | bl c => obtain rfl := Option.some.inj h; rw [r.1]; exact rfl
  | int i => obtain rfl := Option.some.inj h; rw [r.1]; exact rfl
  | str x => exact nomatch h
  | cls c => exact nomatch h
  | ty n => exact nomatch h
  | tup ds =>
    obtain rfl := Option.some.inj h
    obtain ⟨a, vs, rfl, q, r⟩ := r
    have e : ds.isEmpty = vs.isEmpty := by
      have := r.length
      cases ds <;> cases vs <;> simp_all
    exact .inr (.inl ⟨vs, SqT.of q, by rw [e]⟩)
  | lst o ds =>
    obtain rfl := Option.some.inj h
    have key : ∀ a vs g, SqL L.K H a vs → Reps L F H ds vs g → TruV L.K (.ref a) H (!ds.isEmpty) := fun a vs g q r => by
      have e : ds.isEmpty = vs.isEmpty := by
        have := r.length
        cases ds <;> cases vs <;> simp_all
      exact .inl ⟨vs, q, by rw [e]⟩
    cases o with
    | true =>
      obtain ⟨a, vs, g, rfl, q, _, r⟩ := r
      exact key a vs g (SqL.of q) r
    | false =>
      obtain ⟨a, vs, rfl, q, r⟩ := r
      exact key a vs f (SqL.of q.1) r
  | ext ds =>
    obtain rfl := Option.some.inj h
    obtain ⟨a, vs, rfl, q, r⟩ := r
    have e : ds.isEmpty = vs.isEmpty := by
      have := r.length
      cases ds <;> cases vs <;> simp_all
    exact .inl ⟨vs, q.sq, by rw [e]⟩
  | dct o ks ds =>
    obtain rfl := Option.some.inj h
    cases o with
    | true =>
      obtain ⟨a, vs, g, rfl, q, hl, _, r⟩ := r
      exact .inr (.inr ⟨_, q, by rw [zip_ne hl r.length]⟩)
    | false =>
      obtain ⟨a, vs, rfl, q, _, hl, r⟩ := r
      exact .inr (.inr ⟨_, q, by rw [zip_ne hl r.length]⟩)
  | obj o c ns ds => exact nomatch h
  | exn c ns ds => exact nomatch h
theorem pq_tru (hL : L.K = X.K) (h : PE X e (tP L pa)) (he : ∀ whole, isTrue e X.env whole = (do let v ← whole; standAt e.pos; holding [v] (truthy v)) := by intro _; rfl) : PT X e (tPT L (truT pa)) := (pt_truth h he).imp fun σ H Q ⟨F, ρ, g, b, er, hp, k⟩ => by
  obtain ⟨d1, h1, h2⟩ := Option.bind_eq_some_iff.mp hp
  exact ⟨F, ρ, g, d1, er, h1, fun v1 H1 k1 s1 r1 => ⟨b, by rw [← hL]; exact r1.tru h2, k H1 s1⟩⟩
theorem pq_not {t : PT'} (h : PT X a (tPT L t)) : PT X (.UnaryOp .Not a pos) (tPT L (notT t)) := (pt_not h).imp fun σ H Q ⟨F, ρ, g, b, er, hp, k⟩ => by
  obtain ⟨c, h1, h2⟩ := Option.map_eq_some_iff.mp hp
  subst h2
  exact ⟨F, ρ, g, c, er, h1, fun H1 s1 => k H1 s1⟩
theorem _root_.L2.PW.imp {e : Expr} {t t' : TT} (h : PW X e t) (w : ∀ σ H Q, t' σ H Q → t σ H Q) : PW X e t' := ⟨fun wh pins s σ H Q I q => h.run wh pins s σ H Q I (w σ H Q q)⟩
theorem pqw_and1 {t : PT'} (h : PT X a (tPT L t)) : PW X (.BoolOp .And [a] pos) (tPT L t) := pw_and1 h
theorem pqw_or1 {t : PT'} (h : PT X a (tPT L t)) : PW X (.BoolOp .Or [a] pos) (tPT L t) := pw_or1 h
theorem pqw_and {t u : PT'} (ha : PT X a (tPT L t)) (hb : PW X (.BoolOp .And (b :: es) pos) (tPT L u)) : PW X (.BoolOp .And (a :: b :: es) pos) (tPT L (andT t u)) := L2.PW.imp (pw_and ha hb) fun σ H Q ⟨F, ρ, g, c, er, hp, k⟩ => by
  obtain ⟨c1, h1, h2⟩ := Option.bind_eq_some_iff.mp hp
  refine ⟨F, ρ, g, c1, er, h1, fun H1 s1 => ?_⟩
  cases c1 with
  | true => exact ⟨F, ρ, g, c, er.same s1, h2, fun H2 s2 => k H2 (s1.trans s2)⟩
  | false =>
    obtain rfl := Option.some.inj h2
    exact k H1 s1
theorem pqw_or {t u : PT'} (ha : PT X a (tPT L t)) (hb : PW X (.BoolOp .Or (b :: es) pos) (tPT L u)) : PW X (.BoolOp .Or (a :: b :: es) pos) (tPT L (orT t u)) := L2.PW.imp (pw_or ha hb) fun σ H Q ⟨F, ρ, g, c, er, hp, k⟩ => by
  obtain ⟨c1, h1, h2⟩ := Option.bind_eq_some_iff.mp hp
  refine ⟨F, ρ, g, c1, er, h1, fun H1 s1 => ?_⟩
  cases c1 with
  | false => exact ⟨F, ρ, g, c, er.same s1, h2, fun H2 s2 => k H2 (s1.trans s2)⟩
  | true =>
    obtain rfl := Option.some.inj h2
    exact k H1 s1
end
end VL
end
section
set_option Elab.async false
set_option linter.all false
set_option maxRecDepth 100000
namespace VL
open PySem L2

section
variable {L : Ly} {W : WX} {Kp F F1 : AP} {H H1 : Hp} {σ : L2.St}
theorem Post.from {α : Type} {r : R α} {P : α → Env → AP → Hp → Fp → Prop} (h : Post L W Kp F H σ r P) (s : Stp Kp F H F1 H1) : Post L W Kp F1 H1 σ r P := by
  cases r with
  | ok a ρ => exact fun F' H' f e s' => h F' H' f e (s.trans s' fun _ x => x)
  | exc e ρ => exact fun F' H' f cls d0 e g s' x => h F' H' f cls d0 e g (s.trans s' fun _ x => x) x
  | bad => exact h
theorem Good.weak {f k : Fp} (G : Good (plus Kp k) F H f) : Good Kp F H f := ⟨G.lin, fun a x => ⟨(G.own a x).1, fun z => (G.own a x).2.1 (.inl z), (G.own a x).2.2⟩, fun a x => G.kp a (.inl x), G.fr⟩
/-- one part of an expression is reckoned while the data ts are held -/
theorem tG_bind {α β γ : Type} {rep : L2.St → AP → Hp → α → β → Fp → Prop} {fb : Env → R α} {kk : α → Env → R γ} {P : γ → Env → AP → Hp → Fp → Prop} {ρ : Env} {g k : Fp} {ts : List D} {tv : List V} {Q : β → Hp → Prop}
    (E : EnvR L F H ρ σ g) (T : Reps L F H ts tv k) (G : Good Kp F H (fadd g k)) (p : Post L W Kp F H σ ((fb ρ).bind kk) P)
    (hk : ∀ a ρ1 F1 H1 g1 b k1, EnvR L F1 H1 ρ1 σ g1 → rep σ F1 H1 a b k1 → Reps L F1 H1 ts tv k → Good Kp F1 H1 (fadd (fadd g1 k1) k) → Stp Kp F H F1 H1 → Post L W Kp F1 H1 σ (kk a ρ1) P → Q b H1) : tG rep L W fb σ H Q := by
  refine ⟨plus Kp k, F, ρ, g, E, G.split, ?_⟩
  cases e : fb ρ with
  | bad => rw [e] at p; exact p
  | exc x ρ1 =>
    rw [e] at p
    exact fun F' H' f cls d0 E' G' s' y => p F' H' f cls d0 E' G'.weak s'.plus y
  | ok a ρ1 =>
    rw [e] at p
    exact fun F1 H1 g1 E1 s1 b k1 r1 G1 => hk a ρ1 F1 H1 g1 b k1 E1 r1 (T.step s1) (G.join s1 G1) s1.plus (Post.from p s1.plus)
theorem tG_bind0 {α β γ : Type} {rep : L2.St → AP → Hp → α → β → Fp → Prop} {fb : Env → R α} {kk : α → Env → R γ} {P : γ → Env → AP → Hp → Fp → Prop} {ρ : Env} {g : Fp} {Q : β → Hp → Prop}
    (E : EnvR L F H ρ σ g) (G : Good Kp F H g) (p : Post L W Kp F H σ ((fb ρ).bind kk) P)
    (hk : ∀ a ρ1 F1 H1 g1 b k1, EnvR L F1 H1 ρ1 σ g1 → rep σ F1 H1 a b k1 → Good Kp F1 H1 (fadd g1 k1) → Stp Kp F H F1 H1 → Post L W Kp F1 H1 σ (kk a ρ1) P → Q b H1) : tG rep L W fb σ H Q :=
  tG_bind (ts := []) (tv := []) (k := f0) E ⟨rfl, rfl⟩ (by rw [fadd_f0]; exact G) p fun a ρ1 F1 H1 g1 b k1 e r _ G1 s p1 => hk a ρ1 F1 H1 g1 b k1 e r (by rw [fadd_f0] at G1; exact G1) s p1
end

/-! ### expressions that may change what is owned, or raise -/
def lift (p : PM) : EM := fun ρ => match p ρ with
  | some d => if d.fro = true then .ok d ρ else .bad
  | none => .bad
def liftT (p : PT') : TM := fun ρ => match p ρ with
  | some b => .ok b ρ
  | none => .bad
/-- a name's datum, locked from now on -/
def nF (i : Nat) : EM := fun ρ => match ρ.at i with
  | some d => .ok d.frz (ρ.set i (some d.frz))
  | none => .bad
/-- a name's datum is moved away -/
def nM (i : Nat) : EM := fun ρ => match ρ.at i with
  | some d => .ok d (ρ.set i none)
  | none => .bad
def done (o : Option D) (ρ : Env) : R D := match o with
  | some d => .ok d ρ
  | none => .bad
def opE (op : D → D → Option D) (fa fb : EM) : EM := fun ρ => (fa ρ).bind fun a ρ1 => (fb ρ1).bind fun b ρ2 => done (op a b) ρ2
def froO (o : Option D) : Option D := o.bind fun d => if d.fro = true then some d else none
def ixE (op : D → D → Option D) : D → D → Option D := fun a b => froO (op a b)
def unE (op : D → Option D) (fa : EM) : EM := fun ρ => (fa ρ).bind fun a ρ1 => done (op a) ρ1
def nilE : AM := fun ρ => .ok [] ρ
def consE (f : EM) (q : AM) : AM := fun ρ => (f ρ).bind fun d ρ1 => (q ρ1).bind fun as ρ2 => .ok (.val d :: as) ρ2
def consL (i : Nat) (q : AM) : AM := fun ρ => if (ρ.at i).isSome = true then (q ρ).bind fun as ρ2 => .ok (.ld i :: as) ρ2 else .bad
/-- the values of arguments, none of them lent -/
def valsOf : List AV → Option (List D)
  | [] => some []
  | .val d :: as => (valsOf as).map (d :: ·)
  | .ld _ :: _ => none
def callE (op : List D → Option D) (q : AM) : EM := fun ρ => (q ρ).bind fun as ρ1 => done ((valsOf as).bind op) ρ1
def tupE (q : AM) : EM := callE (fun ds => if ds.length ≤ 1000 then some (.tup ds) else none) q
def lstE (q : AM) : EM := callE (fun ds => if ds.length ≤ 1000 then some (.lst true ds) else none) q
def boolE (o : Option Bool) (k : Bool → R D) : R D := match o with
  | some b => k b
  | none => .bad
def andE (fa fb : EM) : EM := fun ρ => (fa ρ).bind fun a ρ1 => boolE a.bool? fun b => if b = true then fb ρ1 else .ok (.bl false) ρ1
def orE (fa fb : EM) : EM := fun ρ => (fa ρ).bind fun a ρ1 => boolE a.bool? fun b => if b = true then .ok (.bl true) ρ1 else fb ρ1
def notE (fa : EM) : EM := fun ρ => (fa ρ).bind fun a ρ1 => boolE a.bool? fun b => .ok (.bl (!b)) ρ1
def okB (o : Option Bool) (ρ : Env) : R Bool := match o with
  | some b => .ok b ρ
  | none => .bad
def valM (fa : EM) : TM := fun ρ => (fa ρ).bind fun a ρ1 => okB a.bool? ρ1
def truM (fa : EM) : TM := fun ρ => (fa ρ).bind fun a ρ1 => okB a.truth ρ1
def andM (f g : TM) : TM := fun ρ => (f ρ).bind fun b ρ1 => if b = true then g ρ1 else .ok false ρ1
def orM (f g : TM) : TM := fun ρ => (f ρ).bind fun b ρ1 => if b = true then .ok true ρ1 else g ρ1
def notM (f : TM) : TM := fun ρ => (f ρ).bind fun b ρ1 => .ok (!b) ρ1
def ifE (c : TM) (fa fb : EM) : EM := fun ρ => (c ρ).bind fun b ρ1 => if b = true then fa ρ1 else fb ρ1
/-- x[e]: x a name that may be owned, e whatever it does -/
def nixE (op : D → D → Option D) (i : Nat) (f : EM) : EM := fun ρ => if (ρ.at i).isSome = true then (f ρ).bind fun b ρ1 => match ρ1.at i with
  | some a => done (froO (op a b)) ρ1
  | none => .bad else .bad

section
variable {X : Cx} {L : Ly} {W : WX} {a b c e : Expr} {es : List Expr} {pos : Pos} {pa pb : PM} {fa fb fc : EM} {q : AM} {g h : TM}
theorem ee_lift (h : PE X e (tP L pa)) : PE X e (tD L W (lift pa)) := h.imp fun σ H Q ⟨Kp, F, ρ, g, E, G, p⟩ => by
  unfold lift at p
  cases e : pa ρ with
  | none => rw [e] at p; exact p.elim
  | some d =>
    rw [e] at p
    by_cases hd : d.fro = true
    · simp only [if_pos hd] at p
      refine ⟨F, ρ, g, d, E, e, fun v H' k s r => ?_⟩
      have ek := Rep.fro0 d hd r
      subst ek
      exact p F H' g (E.same s) (Stp.same s) v f0 r (by rw [fadd_f0]; exact G.same s)
    · simp only [if_neg hd] at p
      exact p.elim
theorem et_lift {t : PT'} (h : PT X e (tPT L t)) : PT X e (tT L W (liftT t)) := h.imp fun σ H Q ⟨Kp, F, ρ, g, E, G, p⟩ => by
  unfold liftT at p
  cases e : t ρ with
  | none => rw [e] at p; exact p.elim
  | some b =>
    rw [e] at p
    exact ⟨F, ρ, g, b, E, e, fun H' s => p F H' g (E.same s) (Stp.same s) b f0 ⟨rfl, rfl⟩ (by rw [fadd_f0]; exact G.same s)⟩
theorem ee_nF {i : Nat} (h : PE X e (tVar i)) : PE X e (tD L W (nF i)) := h.imp fun σ H Q ⟨Kp, F, ρ, f, E, G, p⟩ => by
  unfold nF at p
  cases ei : ρ.at i with
  | none => rw [ei] at p; exact p.elim
  | some d =>
    rw [ei] at p
    obtain ⟨v, g, h, h1, h2, h3, h4, h5⟩ := E.get ei
    subst h2
    have hF : ∀ x, F x → F x ∨ 1 ≤ g x := fun x y => .inl y
    refine ⟨v, h1, ?_⟩
    have r' : Rep L (fun x => F x ∨ 1 ≤ g x) H d.frz v f0 := Rep.lock hF d h3 fun x y => .inr y
    -- the frame with the name's datum locked
    have hm : ∀ {ρ' : Env} {σ' : L2.St} {f' : Fp}, EnvR L F H ρ' σ' f' → EnvR L (fun x => F x ∨ 1 ≤ g x) H ρ' σ' f' := fun x => x.mono hF (fun _ _ x _ => x) fun _ _ _ x => x
    have E' : EnvR L (fun x => F x ∨ 1 ≤ g x) H (ρ.set i (some d.frz)) σ h := by
      have q := (hm h4).fill h1 r'
      rw [f0_fadd] at q
      exact q
    have G' : Good Kp (fun x => F x ∨ 1 ≤ g x) H h := by
      refine ⟨fun x => ?_, fun x y => ?_, G.kp, fun x y => ?_⟩
      · have := G.lin x; rw [fadd_at] at this; omega
      · have h1 := G.lin x
        have h2 := G.own x (by rw [fadd_at]; omega)
        rw [fadd_at] at h1
        exact ⟨fun z => z.elim h2.1 fun z => by omega, h2.2⟩
      · rcases y with y | y
        · exact G.fr x y
        · exact (G.own x (by rw [fadd_at]; omega)).2.2
    exact p _ H h E' ⟨fun _ _ x _ => x, hF, fun x y => y.imp id fun y => (G.own x (by rw [fadd_at]; omega)).2.1⟩ v f0 r' (by rw [fadd_f0]; exact G')
end
section
variable {L : Ly} {W : WX} {Kp F F1 : AP} {H H1 : Hp} {σ : L2.St}
theorem bD {γ : Type} {fb : EM} {kk : D → Env → R γ} {P : γ → Env → AP → Hp → Fp → Prop} {ρ : Env} {g k : Fp} {t : D} {tv : V} {Q : VK}
    (E : EnvR L F H ρ σ g) (T : Rep L F H t tv k) (G : Good Kp F H (fadd g k)) (p : Post L W Kp F H σ ((fb ρ).bind kk) P)
    (hk : ∀ a ρ1 F1 H1 g1 b k1, EnvR L F1 H1 ρ1 σ g1 → Rep L F1 H1 a b k1 → Rep L F1 H1 t tv k → Good Kp F1 H1 (fadd (fadd g1 k1) k) → Stp Kp F H F1 H1 → Post L W Kp F1 H1 σ (kk a ρ1) P → Q b H1) : tD L W fb σ H Q :=
  tG_bind (ts := [t]) (tv := [tv]) E ⟨tv, [], k, f0, rfl, (fadd_f0 _).symm, T, rfl, rfl⟩ G p fun a ρ1 F1 H1 g1 b k1 e r T1 G1 s p1 => by
    obtain ⟨_, _, ka, kb, e1, ef, r1', _, ekb⟩ := T1
    have ev := (List.cons.inj e1).1
    subst ev
    subst ekb
    rw [fadd_f0] at ef
    subst ef
    exact hk a ρ1 F1 H1 g1 b k1 e r r1' G1 s p1
theorem bA {γ : Type} {fb : AM} {kk : List AV → Env → R γ} {P : γ → Env → AP → Hp → Fp → Prop} {ρ : Env} {g k : Fp} {t : D} {tv : V} {Q : List V → Hp → Prop}
    (E : EnvR L F H ρ σ g) (T : Rep L F H t tv k) (G : Good Kp F H (fadd g k)) (p : Post L W Kp F H σ ((fb ρ).bind kk) P)
    (hk : ∀ a ρ1 F1 H1 g1 b k1, EnvR L F1 H1 ρ1 σ g1 → AReps L σ F1 H1 a b k1 → Rep L F1 H1 t tv k → Good Kp F1 H1 (fadd (fadd g1 k1) k) → Stp Kp F H F1 H1 → Post L W Kp F1 H1 σ (kk a ρ1) P → Q b H1) : tA L W fb σ H Q :=
  tG_bind (ts := [t]) (tv := [tv]) E ⟨tv, [], k, f0, rfl, (fadd_f0 _).symm, T, rfl, rfl⟩ G p fun a ρ1 F1 H1 g1 b k1 e r T1 G1 s p1 => by
    obtain ⟨_, _, ka, kb, e1, ef, r1', _, ekb⟩ := T1
    have ev := (List.cons.inj e1).1
    subst ev
    subst ekb
    rw [fadd_f0] at ef
    subst ef
    exact hk a ρ1 F1 H1 g1 b k1 e r r1' G1 s p1
theorem bD0 {γ : Type} {fb : EM} {kk : D → Env → R γ} {P : γ → Env → AP → Hp → Fp → Prop} {ρ : Env} {g : Fp} {Q : VK}
    (E : EnvR L F H ρ σ g) (G : Good Kp F H g) (p : Post L W Kp F H σ ((fb ρ).bind kk) P)
    (hk : ∀ a ρ1 F1 H1 g1 b k1, EnvR L F1 H1 ρ1 σ g1 → Rep L F1 H1 a b k1 → Good Kp F1 H1 (fadd g1 k1) → Stp Kp F H F1 H1 → Post L W Kp F1 H1 σ (kk a ρ1) P → Q b H1) : tD L W fb σ H Q := tG_bind0 E G p hk
theorem bT0 {γ : Type} {fb : TM} {kk : Bool → Env → R γ} {P : γ → Env → AP → Hp → Fp → Prop} {ρ : Env} {g : Fp} {Q : Bool → Hp → Prop}
    (E : EnvR L F H ρ σ g) (G : Good Kp F H g) (p : Post L W Kp F H σ ((fb ρ).bind kk) P)
    (hk : ∀ a ρ1 F1 H1 g1, EnvR L F1 H1 ρ1 σ g1 → Good Kp F1 H1 g1 → Stp Kp F H F1 H1 → Post L W Kp F1 H1 σ (kk a ρ1) P → Q a H1) : tT L W fb σ H Q := tG_bind0 E G p fun a ρ1 F1 H1 g1 b k1 e r G1 s p1 => by
    obtain ⟨rfl, rfl⟩ := r
    rw [fadd_f0] at G1
    exact hk b ρ1 F1 H1 g1 e G1 s p1
theorem bA0 {γ : Type} {fb : AM} {kk : List AV → Env → R γ} {P : γ → Env → AP → Hp → Fp → Prop} {ρ : Env} {g : Fp} {Q : List V → Hp → Prop}
    (E : EnvR L F H ρ σ g) (G : Good Kp F H g) (p : Post L W Kp F H σ ((fb ρ).bind kk) P)
    (hk : ∀ a ρ1 F1 H1 g1 b k1, EnvR L F1 H1 ρ1 σ g1 → AReps L σ F1 H1 a b k1 → Good Kp F1 H1 (fadd g1 k1) → Stp Kp F H F1 H1 → Post L W Kp F1 H1 σ (kk a ρ1) P → Q b H1) : tA L W fb σ H Q := tG_bind0 E G p hk
end
end VL
end
section
set_option Elab.async false
set_option linter.all false
set_option maxRecDepth 100000
namespace VL
open PySem L2

section
variable {X : Cx} {L : Ly} {W : WX} {a b c e : Expr} {es : List Expr} {pos : Pos} {pa pb : PM} {fa fb fc : EM} {q : AM} {f g : TM}
theorem ee_nM {i : Nat} (h : PE X e (tVar i)) : PE X e (tD L W (nM i)) := h.imp fun σ H Q ⟨Kp, F, ρ, f, E, G, p⟩ => by
  unfold nM at p
  cases ei : ρ.at i with
  | none => rw [ei] at p; exact p.elim
  | some d =>
    rw [ei] at p
    obtain ⟨v, g, h, h1, h2, h3, h4, _⟩ := E.get ei
    subst h2
    exact ⟨v, h1, p F H h h4 Stp.refl v g h3 (by rw [fadd_comm]; exact G)⟩
theorem le_l {f g : Fp} : ∀ a, f a ≤ fadd f g a := fun a => Nat.le_add_right _ _
theorem le_ll {f g h : Fp} : ∀ a, f a ≤ fadd (fadd f g) h a := fun a => by rw [fadd_at, fadd_at]; omega
/-- how an operation's datum ends an expression -/
theorem done_end {α : Type} {Kp F : AP} {H : Hp} {σ : L2.St} {ρ : Env} {g : Fp} {o : Option D} {Q : VK} (E : EnvR L F H ρ σ g) (G : Good Kp F H g)
    (p : Post L W Kp F H σ (done o ρ) fun d _ F' H' g' => ∀ v k, Rep L F' H' d v k → Good Kp F' H' (fadd g' k) → Q v H') : ∃ d, o = some d ∧ ∀ v H' k, Same H H' → New H H' k → Rep L F H' d v k → Q v H' := by
  cases o with
  | none => exact p.elim
  | some d => exact ⟨d, rfl, fun v H' k s n r => p F H' g (E.same s) (Stp.same s) v k r (G.new s n)⟩
theorem imp_opE {r : R2} {op : D → D → Option D} (ho : OpEff L r op) : ∀ σ H Q, tD L W (opE op fa fb) σ H Q → tOp r (tD L W fa) (tD L W fb) σ H Q := fun σ H Q ⟨Kp, F, ρ, g, E, G, p⟩ =>
  bD0 E G p fun d1 ρ1 F1 H1 g1 v1 k1 E1 r1 G1 s1 p1 =>
    bD E1 r1 G1 p1 fun d2 ρ2 F2 H2 g2 v2 k2 E2 r2 T2 G2 s2 p2 => by
      obtain ⟨d, ed, k⟩ := done_end (α := Unit) E2 (G2.le le_ll) p2
      exact ho F2 H2 d1 d2 d _ v2 _ _ Q T2 r2 ed k
theorem OpPure.fro {r : R2} {op : D → D → Option D} (ho : OpPure L r op) : OpEff L r (ixE op) := fun F H d1 d2 d v1 v2 g1 g2 Q r1 r2 e k => by
  obtain ⟨d', e1, e2⟩ := Option.bind_eq_some_iff.mp e
  by_cases hd : d'.fro = true
  · rw [if_pos hd] at e2
    obtain rfl := Option.some.inj e2; refine ho F H d1 d2 d' v1 v2 g1 g2 Q r1 r2 e1 fun v H' k' s r => ?_
    have ek := Rep.fro0 d' hd r
    subst ek
    exact k v H' f0 s New.zero r
  · rw [if_neg hd] at e2
    exact nomatch e2
theorem ee_op {o : Operator} {r : R2} {op : D → D → Option D} (hr : OpR X (binaryOp o) r) (ho : OpEff L r op) (ha : PE X a (tD L W fa)) (hb : PE X b (tD L W fb)) : PE X (.BinOp a o b pos) (tD L W (opE op fa fb)) := (pe_op hr ha hb).imp (imp_opE ho)
theorem ee_cmp {o : CmpOp} {r : R2} {op : D → D → Option D} (hr : OpR X (compareOp o) r) (ho : OpEff L r op) (ha : PE X a (tD L W fa)) (hb : PE X b (tD L W fb)) (hm : behindInMarks o b = false) : PE X (.Compare a [o] [b] pos) (tD L W (opE op fa fb)) := (pe_cmpR hr ha hb hm).imp (imp_opE ho)
theorem ee_ix {r : R2} {op : D → D → Option D} (hr : IxR X r) (ho : OpPure L r op) (ha : PE X a (tD L W fa)) (hb : PE X b (tD L W fb)) (hs : PlainIx b) : PE X (.Subscript a b pos) (tD L W (opE (ixE op) fa fb)) := (pe_ix hr ha hb hs).imp (imp_opE ho.fro)
theorem ee_un {o : UnaryOp} {r : V → Hp → VK → Prop} {op : D → Option D} (hr : UnR X (unaryOp o) r) (ho : UnEff L r op) (ha : PE X a (tD L W fa)) : PE X (.UnaryOp o a pos) (tD L W (unE op fa)) := (pe_un hr ha).imp fun σ H Q ⟨Kp, F, ρ, g, E, G, p⟩ =>
  bD0 E G p fun d1 ρ1 F1 H1 g1 v1 k1 E1 r1 G1 s1 p1 => by
    obtain ⟨d, ed, k⟩ := done_end (α := Unit) E1 (G1.le le_l) p1
    exact ho F1 H1 d1 d v1 k1 Q r1 ed k
theorem ee_nix {r : R2} {op : D → D → Option D} {i : Nat} (hr : IxR X r) (ho : OpPure L r op) (ha : PE X a (tVar i)) (hb : PE X b (tD L W fb)) (hs : PlainIx b) : PE X (.Subscript a b pos) (tD L W (nixE op i fb)) := (pe_ix hr ha hb hs).imp fun σ H Q ⟨Kp, F, ρ, g, E, G, p⟩ => by
  unfold nixE at p
  cases e0 : ρ.at i with
  | none => rw [e0] at p; exact p.elim
  | some d0 =>
    rw [e0] at p
    obtain ⟨v, k, h1, r0⟩ := E.look e0
    refine ⟨v, h1, ?_⟩
    refine bD0 E G p fun d2 ρ2 F2 H2 g2 v2 k2 E2 r2 G2 s2 p2 => ?_
    cases e1 : ρ2.at i with
    | none => simp only [e1] at p2; exact p2.elim
    | some d1 =>
      simp only [e1] at p2
      obtain ⟨d, ed, kk⟩ := done_end (α := Unit) E2 (G2.le le_l) p2
      obtain ⟨v', k', h1', r1⟩ := E2.look e1
      rw [h1] at h1'
      obtain rfl := Option.some.inj (Option.some.inj h1')
      exact (OpPure.fro ho) F2 H2 d1 d2 d v v2 _ _ Q r1 r2 ed kk

/-! ### arguments -/
theorem ea_nil : PA X [] (tA L W nilE) := pa_nil.imp fun σ H Q ⟨Kp, F, ρ, g, E, G, p⟩ => p F H g E Stp.refl [] f0 ⟨rfl, rfl⟩ (by rw [fadd_f0]; exact G)
theorem ea_cons (ha : PE X e (tD L W fa)) (hr : PA X es (tA L W q)) (hs : starEach (e :: es) X.env = (false, eval e X.env) :: starEach es X.env := by rfl) : PA X (e :: es) (tA L W (consE fa q)) := (pa_cons ha hr hs).imp fun σ H Q ⟨Kp, F, ρ, g, E, G, p⟩ =>
  bD0 E G p fun d1 ρ1 F1 H1 g1 v1 k1 E1 r1 G1 s1 p1 =>
    bA E1 r1 G1 p1 fun as ρ2 F2 H2 g2 vs k2 E2 r2 T2 G2 s2 p2 =>
      p2 F2 H2 g2 E2 Stp.refl (v1 :: vs) (fadd k1 k2) ⟨v1, vs, k1, k2, rfl, rfl, T2, r2⟩ (by rw [fadd_assoc, fadd_comm k2 k1] at G2; exact G2)
theorem ea_ld {i : Nat} (ha : PE X e (tVar i)) (hr : PA X es (tA L W q)) (hs : starEach (e :: es) X.env = (false, eval e X.env) :: starEach es X.env := by rfl) : PA X (e :: es) (tA L W (consL i q)) := (pa_cons ha hr hs).imp fun σ H Q ⟨Kp, F, ρ, g, E, G, p⟩ => by
  unfold consL at p
  cases e0 : ρ.at i with
  | none => rw [e0] at p; exact p.elim
  | some d0 =>
    rw [e0] at p
    obtain ⟨v, k, h1, r0⟩ := E.look e0
    refine ⟨v, h1, ?_⟩
    exact bA0 E G p fun as ρ2 F2 H2 g2 vs k2 E2 r2 G2 s2 p2 => p2 F2 H2 g2 E2 Stp.refl (v :: vs) k2 ⟨v, vs, rfl, h1, r2⟩ G2
theorem valsOf_reps {F : AP} {H : Hp} {σ : L2.St} : ∀ {as : List AV} {vs : List V} {k : Fp} {ds : List D}, AReps L σ F H as vs k → valsOf as = some ds → Reps L F H ds vs k
  | [], vs, k, ds, h, e => by
    obtain rfl := Option.some.inj e
    exact h
  | .val d :: as, vs, k, ds, ⟨v, ws, g, h, e1, e2, r1, r2⟩, e => by
    obtain ⟨ds', h1, h2⟩ := Option.map_eq_some_iff.mp e
    subst h2
    exact ⟨v, ws, g, h, e1, e2, r1, valsOf_reps r2 h1⟩
  | .ld i :: as, vs, k, ds, _, e => nomatch e
theorem imp_callE {r : List V → Hp → VK → Prop} {op : List D → Option D} (ho : CallEff L r op) : ∀ σ H Q, tD L W (callE op q) σ H Q → tCB r (tA L W q) σ H Q := fun σ H Q ⟨Kp, F, ρ, g, E, G, p⟩ =>
  bA0 E G p fun as ρ1 F1 H1 g1 vs k1 E1 r1 G1 s1 p1 => by
    obtain ⟨d, ed, k⟩ := done_end (α := Unit) E1 (G1.le le_l) p1
    obtain ⟨ds, e1, e2⟩ := Option.bind_eq_some_iff.mp ed
    exact ho F1 H1 ds d vs k1 Q (valsOf_reps r1 e1) e2 k
theorem ee_callB {id : String} {r : List V → Hp → VK → Prop} {op : List D → Option D} {x : Str} {p : Pos} (hc : CallR X (.builtin id) r) (ho : CallEff L r op) (hg : Gl X x) (hm : X.mg x = none) (hv : bootBuiltins x = some (.builtin id)) (ha : PA X (e :: es) (tA L W q)) (hn : x ≠ "__name__" := by decide) (hdb : (x == ("__debug__" : Str)) = false := by decide)
    (he : starEach (e :: es) X.env = (false, eval e X.env) :: starEach es X.env := by rfl) (hpl : (backTo pos (starEach es X.env)).any (·.1) = false := by rfl) : PE X (.Call (.Name x p) (e :: es) [] pos) (tD L W (callE op q)) := (pe_callB hc hg hm hv ha hn hdb he hpl).imp (imp_callE ho)
theorem ee_callTy {T : String} {r : List V → Hp → VK → Prop} {op : List D → Option D} {x : Str} {p : Pos} (hc : CallR X (.type T) r) (ho : CallEff L r op) (hg : Gl X x) (hm : X.mg x = none) (hv : bootBuiltins x = some (.type T)) (ha : PA X (e :: es) (tA L W q)) (hn : x ≠ "__name__" := by decide) (hdb : (x == ("__debug__" : Str)) = false := by decide)
    (he : starEach (e :: es) X.env = (false, eval e X.env) :: starEach es X.env := by rfl) (hpl : (backTo pos (starEach es X.env)).any (·.1) = false := by rfl) : PE X (.Call (.Name x p) (e :: es) [] pos) (tD L W (callE op q)) := (pe_callTy hc hg hm hv ha hn hdb he hpl).imp (imp_callE ho)
theorem New.add1 {H : Hp} {p : Addr} {o : HO} (hp : H p = none) : New H (upd H p o) (f1 p) := New.one hp
theorem ee_tup {x1} (h : PA X es (tA L W q)) : PE X (.Tuple es x1 pos) (tD L W (tupE q)) := (pe_tup h).imp fun σ H Q ⟨Kp, F, ρ, g, E, G, p⟩ =>
  bA0 E G p fun as ρ1 F1 H1 g1 vs k1 E1 r1 G1 s1 p1 => by
    cases e1 : valsOf as with
    | none => simp only [e1] at p1; exact p1.elim
    | some ds =>
      have rr := valsOf_reps r1 e1
      by_cases hl : ds.length ≤ 1000
      · simp only [e1, Option.bind_some, if_pos hl] at p1
        exact ⟨le1000 (by rw [← rr.length]; exact hl), fun p np => p1 F1 _ g1 (E1.same (same_upd np)) (Stp.same (same_upd np)) (.ref p) k1 ⟨p, vs, rfl, upd_same, rr.same (same_upd np)⟩ (G1.same (same_upd np))⟩
      · simp only [e1, Option.bind_some, if_neg hl] at p1
        exact p1.elim
theorem ee_lst (h : PA X es (tA L W q)) : PE X (.List es pos) (tD L W (lstE q)) := (pe_lst h).imp fun σ H Q ⟨Kp, F, ρ, g, E, G, p⟩ =>
  bA0 E G p fun as ρ1 F1 H1 g1 vs k1 E1 r1 G1 s1 p1 => by
    cases e1 : valsOf as with
    | none => simp only [e1] at p1; exact p1.elim
    | some ds =>
      have rr := valsOf_reps r1 e1
      by_cases hl : ds.length ≤ 1000
      · simp only [e1, Option.bind_some, if_pos hl] at p1
        refine ⟨le1000 (by rw [← rr.length]; exact hl), fun p np => p1 F1 _ g1 (E1.same (same_upd np)) (Stp.same (same_upd np)) (.ref p) (fadd (f1 p) k1) ⟨p, vs, k1, rfl, upd_same, rfl, rr.same (same_upd np)⟩ ?_⟩
        have := G1.new (same_upd np) (New.one (o := .lst vs) np)
        rw [fadd_assoc, fadd_comm k1] at this
        exact this
      · simp only [e1, Option.bind_some, if_neg hl] at p1
        exact p1.elim

/-! ### and, or, not, if -/
theorem Rep.bool0 {F : AP} {H : Hp} {d : D} {v : V} {f : Fp} {b : Bool} (r : Rep L F H d v f) (h : d.bool? = some b) : v = .bl b ∧ f = f0 := by
  cases d <;> simp [D.bool?] at h
  subst h
  exact r
theorem ee_and {es : List Expr} (ha : PE X a (tD L W fa)) (hb : PE X (.BoolOp .And (b :: es) pos) (tD L W fb)) : PE X (.BoolOp .And (a :: b :: es) pos) (tD L W (andE fa fb)) := (pe_and ha hb).imp fun σ H Q ⟨Kp, F, ρ, g, E, G, p⟩ =>
  bD0 E G p fun d1 ρ1 F1 H1 g1 v1 k1 E1 r1 G1 s1 p1 => by
    cases e1 : d1.bool? with
    | none => simp only [e1, boolE] at p1; exact p1.elim
    | some c =>
      simp only [e1, boolE] at p1
      obtain ⟨rfl, rfl⟩ := r1.bool0 e1
      rw [fadd_f0] at G1
      refine ⟨c, rfl, ?_⟩
      cases c with
      | true => exact ⟨Kp, F1, ρ1, g1, E1, G1, p1⟩
      | false => exact p1 F1 H1 g1 E1 Stp.refl (.bl false) f0 ⟨rfl, rfl⟩ (by rw [fadd_f0]; exact G1)
theorem ee_or {es : List Expr} (ha : PE X a (tD L W fa)) (hb : PE X (.BoolOp .Or (b :: es) pos) (tD L W fb)) : PE X (.BoolOp .Or (a :: b :: es) pos) (tD L W (orE fa fb)) := (pe_or ha hb).imp fun σ H Q ⟨Kp, F, ρ, g, E, G, p⟩ =>
  bD0 E G p fun d1 ρ1 F1 H1 g1 v1 k1 E1 r1 G1 s1 p1 => by
    cases e1 : d1.bool? with
    | none => simp only [e1, boolE] at p1; exact p1.elim
    | some c =>
      simp only [e1, boolE] at p1
      obtain ⟨rfl, rfl⟩ := r1.bool0 e1
      rw [fadd_f0] at G1
      refine ⟨c, rfl, ?_⟩
      cases c with
      | false => exact ⟨Kp, F1, ρ1, g1, E1, G1, p1⟩
      | true => exact p1 F1 H1 g1 E1 Stp.refl (.bl true) f0 ⟨rfl, rfl⟩ (by rw [fadd_f0]; exact G1)
theorem ee_one {o : BoolOp} {t : TE} (h : PE X a t) : PE X (.BoolOp o [a] pos) t := pe_one h
theorem ee_not (ha : PE X a (tD L W fa)) : PE X (.UnaryOp .Not a pos) (tD L W (notE fa)) := (pe_not ha).imp fun σ H Q ⟨Kp, F, ρ, g, E, G, p⟩ =>
  bD0 E G p fun d1 ρ1 F1 H1 g1 v1 k1 E1 r1 G1 s1 p1 => by
    cases e1 : d1.bool? with
    | none => simp only [e1, boolE] at p1; exact p1.elim
    | some c =>
      simp only [e1, boolE] at p1
      obtain ⟨rfl, rfl⟩ := r1.bool0 e1
      exact ⟨c, rfl, p1 F1 H1 g1 E1 Stp.refl (.bl !c) f0 ⟨rfl, rfl⟩ G1⟩
theorem et_val (h : PE X e (tD L W fa)) (he : ∀ whole, isTrue e X.env whole = (do let v ← whole; standAt e.pos; holding [v] (truthy v)) := by intro _; rfl) : PT X e (tT L W (valM fa)) := (pt_val h he).imp fun σ H Q ⟨Kp, F, ρ, g, E, G, p⟩ =>
  bD0 E G p fun d1 ρ1 F1 H1 g1 v1 k1 E1 r1 G1 s1 p1 => by
    cases e1 : d1.bool? with
    | none => simp only [e1, okB] at p1; exact p1.elim
    | some c =>
      simp only [e1, okB] at p1
      obtain ⟨rfl, rfl⟩ := r1.bool0 e1
      exact ⟨c, rfl, p1 F1 H1 g1 E1 Stp.refl c f0 ⟨rfl, rfl⟩ G1⟩
theorem et_tru (hL : L.K = X.K) (h : PE X e (tD L W fa)) (he : ∀ whole, isTrue e X.env whole = (do let v ← whole; standAt e.pos; holding [v] (truthy v)) := by intro _; rfl) : PT X e (tT L W (truM fa)) := (pt_truth h he).imp fun σ H Q ⟨Kp, F, ρ, g, E, G, p⟩ =>
  bD0 E G p fun d1 ρ1 F1 H1 g1 v1 k1 E1 r1 G1 s1 p1 => by
    cases e1 : d1.truth with
    | none => simp only [e1, okB] at p1; exact p1.elim
    | some c =>
      simp only [e1, okB] at p1
      exact ⟨c, by rw [← hL]; exact r1.tru e1, p1 F1 H1 g1 E1 Stp.refl c f0 ⟨rfl, rfl⟩ (by rw [fadd_f0]; exact G1.le le_l)⟩
theorem et_cmp {o : CmpOp} {r : R2} {op : D → D → Option D} (hr : OpR X (compareOp o) r) (ho : OpEff L r op) (ha : PE X a (tD L W fa)) (hb : PE X b (tD L W fb)) (hm : behindInMarks o b = false) : PT X (.Compare a [o] [b] pos) (tT L W (valM (opE op fa fb))) := (pt_cmpR hr ha hb hm).imp fun σ H Q ⟨Kp, F, ρ, g, E, G, p⟩ =>
  imp_opE ho σ H _ (bD0 E G p fun d1 ρ1 F1 H1 g1 v1 k1 E1 r1 G1 s1 p1 => by
    cases e1 : d1.bool? with
    | none => simp only [e1, okB] at p1; exact p1.elim
    | some c =>
      simp only [e1, okB] at p1
      obtain ⟨rfl, rfl⟩ := r1.bool0 e1
      exact ⟨c, rfl, p1 F1 H1 g1 E1 Stp.refl c f0 ⟨rfl, rfl⟩ G1⟩)
theorem et_not (h : PT X a (tT L W f)) : PT X (.UnaryOp .Not a pos) (tT L W (notM f)) := (pt_not h).imp fun σ H Q ⟨Kp, F, ρ, g, E, G, p⟩ =>
  bT0 E G p fun c ρ1 F1 H1 g1 E1 G1 s1 p1 => by
    exact p1 F1 H1 g1 E1 Stp.refl (!c) f0 ⟨rfl, rfl⟩ (by rw [fadd_f0]; exact G1)
theorem etw_and1 (h : PT X a (tT L W f)) : PW X (.BoolOp .And [a] pos) (tT L W f) := pw_and1 h
theorem etw_or1 (h : PT X a (tT L W f)) : PW X (.BoolOp .Or [a] pos) (tT L W f) := pw_or1 h
theorem etw_and (ha : PT X a (tT L W f)) (hb : PW X (.BoolOp .And (b :: es) pos) (tT L W g)) : PW X (.BoolOp .And (a :: b :: es) pos) (tT L W (andM f g)) := L2.PW.imp (pw_and ha hb) fun σ H Q ⟨Kp, F, ρ, g, E, G, p⟩ =>
  bT0 E G p fun c ρ1 F1 H1 g1 E1 G1 s1 p1 => by
    cases c with
    | true => exact ⟨Kp, F1, ρ1, g1, E1, G1, p1⟩
    | false => exact p1 F1 H1 g1 E1 Stp.refl false f0 ⟨rfl, rfl⟩ (by rw [fadd_f0]; exact G1)
theorem etw_or (ha : PT X a (tT L W f)) (hb : PW X (.BoolOp .Or (b :: es) pos) (tT L W g)) : PW X (.BoolOp .Or (a :: b :: es) pos) (tT L W (orM f g)) := L2.PW.imp (pw_or ha hb) fun σ H Q ⟨Kp, F, ρ, g, E, G, p⟩ =>
  bT0 E G p fun c ρ1 F1 H1 g1 E1 G1 s1 p1 => by
    cases c with
    | false => exact ⟨Kp, F1, ρ1, g1, E1, G1, p1⟩
    | true => exact p1 F1 H1 g1 E1 Stp.refl true f0 ⟨rfl, rfl⟩ (by rw [fadd_f0]; exact G1)
theorem ee_if (hc : PT X c (tT L W f)) (ha : PE X a (tD L W fa)) (hb : PE X b (tD L W fb)) : PE X (.IfExp c a b pos) (tD L W (ifE f fa fb)) := (pe_ifExp hc ha hb).imp fun σ H Q ⟨Kp, F, ρ, g, E, G, p⟩ =>
  bT0 E G p fun c ρ1 F1 H1 g1 E1 G1 s1 p1 => by
    cases c with
    | true => exact ⟨Kp, F1, ρ1, g1, E1, G1, p1⟩
    | false => exact ⟨Kp, F1, ρ1, g1, E1, G1, p1⟩
end
end VL
end
section
set_option Elab.async false
set_option linter.all false
set_option maxRecDepth 100000
namespace VL
open PySem L2
open PyProof.Rows (envOfC)

mutual
theorem Rep.trk {L : Ly} {F : AP} {H : Hp} : ∀ (d : D) {v : V} {f : Fp}, Rep L F H d v f → ∀ a, 1 ≤ f a → H a ≠ none
  | .non, _, _, h, a, x => by rw [h.2] at x; exact absurd x f0_not
  | .bl _, _, _, h, a, x => by rw [h.2] at x; exact absurd x f0_not
  | .int _, _, _, h, a, x => by rw [h.2] at x; exact absurd x f0_not
  | .str _, _, _, h, a, x => by rw [h.2] at x; exact absurd x f0_not
  | .cls _, _, _, h, a, x => by rw [h.2] at x; exact absurd x f0_not
  | .ty _, _, _, h, a, x => by rw [h.2] at x; exact absurd x f0_not
  | .tup ds, _, _, ⟨_, _, _, _, r⟩, a, x => Reps.trk ds r a x
  | .lst true ds, _, _, ⟨p, _, g, _, q, ef, r⟩, a, x => by
      rw [ef, fadd_at] at x
      by_cases e : a = p
      · rw [e, q]; exact fun z => nomatch z
      · rw [f1_ne e] at x; exact Reps.trk ds r a (by omega)
  | .lst false ds, _, _, ⟨_, _, _, _, r⟩, a, x => Reps.trk ds r a x
  | .ext ds, _, _, ⟨_, _, _, _, r⟩, a, x => Reps.trk ds r a x
  | .dct true _ ds, _, _, ⟨p, _, g, _, q, _, ef, r⟩, a, x => by
      rw [ef, fadd_at] at x
      by_cases e : a = p
      · rw [e, q]; exact fun z => nomatch z
      · rw [f1_ne e] at x; exact Reps.trk ds r a (by omega)
  | .dct false _ ds, _, _, ⟨_, _, _, _, _, _, r⟩, a, x => Reps.trk ds r a x
  | .obj true _ _ ds, _, _, ⟨p, _, _, g, _, q, _, ef, r⟩, a, x => by
      rw [ef, fadd_at] at x
      by_cases e : a = p
      · rw [e, q]; exact fun z => nomatch z
      · rw [f1_ne e] at x; exact Reps.trk ds r a (by omega)
  | .obj false _ _ ds, _, _, ⟨_, _, _, _, _, _, _, r⟩, a, x => Reps.trk ds r a x
  | .exn _ _ ds, _, _, ⟨_, _, _, _, h⟩, a, x => by
      rcases h with ⟨_, _, _, _, _, r⟩ | ⟨_, _, _, h⟩
      · exact Reps.trk ds r a x
      · rw [h] at x; exact absurd x f0_not
theorem Reps.trk {L : Ly} {F : AP} {H : Hp} : ∀ (ds : List D) {vs : List V} {f : Fp}, Reps L F H ds vs f → ∀ a, 1 ≤ f a → H a ≠ none
  | [], _, _, h, a, x => by rw [h.2] at x; exact absurd x f0_not
  | d :: ds, _, _, ⟨_, _, g, h, _, ef, r1, r2⟩, a, x => by
      rw [ef, fadd_at] at x
      by_cases q : 1 ≤ g a
      · exact Rep.trk d r1 a q
      · exact Reps.trk ds r2 a (by omega)
end

/-! ### what a def does, by value -/
inductive FR where
  | rt (d : D) (os : List (Option D))
  | exc (e : Ex) (os : List (Option D))
  | bad
def OReps (L : Ly) (F : AP) (H : Hp) : List (Option D) → List V → Fp → Prop
  | [], vs, f => vs = [] ∧ f = f0
  | none :: os, vs, f => ∃ v ws, vs = v :: ws ∧ OReps L F H os ws f
  | some d :: os, vs, f => ∃ v ws g h, vs = v :: ws ∧ f = fadd g h ∧ Rep L F H d v g ∧ OReps L F H os ws h
def spM (L : Ly) (m : List D → FR) : Sp := fun vs H Q E => ∃ Kp F ds f, Reps L F H ds vs f ∧ Good Kp F H f ∧ match m ds with
  | .rt d os => ∀ F' H' v k g, OReps L F' H' os vs g → Rep L F' H' d v k → Good Kp F' H' (fadd g k) → Stp Kp F H F' H' → Q v H'
  | .exc e os => ∀ F' H' g cls d0, OReps L F' H' os vs g → Good Kp F' H' g → Stp Kp F H F' H' → ExR L F' H' e cls d0 → E cls d0 H'
  | .bad => False
def outs (S : List Nat) : Nat → Nat → Env → List (Option D)
  | 0, _, _ => []
  | n + 1, i, [] => none :: outs S n (i + 1) []
  | n + 1, i, o :: r => (if i ∈ S then o else none) :: outs S n (i + 1) r
/-- n parameters, N slots, S the parameters that are not assigned -/
def mkF (n N : Nat) (S : List Nat) (body : SM) : List D → FR := fun ds => if ds.length = n then match body (ds.map some ++ List.replicate (N - n) none) with
  | .nx ρ => .rt .non (outs S n 0 ρ)
  | .rt d ρ => .rt d (outs S n 0 ρ)
  | .exc e ρ => .exc e (outs S n 0 ρ)
  | _ => .bad else .bad
section
variable {L : Ly} {F : AP} {H : Hp}
theorem EnvR.nones : ∀ (k : Nat), EnvR L F H (List.replicate k none) (List.replicate k none) f0
  | 0 => ⟨rfl, rfl⟩
  | k + 1 => ⟨none, List.replicate k none, rfl, EnvR.nones k⟩
theorem EnvR.start : ∀ {ds : List D} {vs : List V} {f : Fp} (k : Nat), Reps L F H ds vs f → EnvR L F H (ds.map some ++ List.replicate k none) (vs.map some ++ List.replicate k none) f
  | [], _, _, k, ⟨e, ef⟩ => by rw [e, ef]; exact EnvR.nones k
  | d :: ds, _, _, k, ⟨v, ws, g, h, e, ef, r1, r2⟩ => by rw [e]; exact ⟨v, _, g, h, rfl, ef, r1, EnvR.start k r2⟩
theorem outs_reps (S : List Nat) : ∀ (n i : Nat) {ρ : Env} {σ : L2.St} {f : Fp} {vs : List V}, EnvR L F H ρ σ f → vs.length = n → (∀ j v, vs[j]? = some v → i + j ∈ S → σ[j]? = some (some v)) → ∃ g, OReps L F H (outs S n i ρ) vs g ∧ ∀ a, g a ≤ f a
  | 0, i, ρ, σ, f, vs, _, hl, _ => ⟨f0, ⟨List.length_eq_zero_iff.mp hl, rfl⟩, fun _ => Nat.zero_le _⟩
  | n + 1, i, [], σ, f, [], _, hl, _ => nomatch hl
  | n + 1, i, [], σ, f, v :: vs, E, hl, hk => by
      obtain ⟨g, h1, h2⟩ := outs_reps S n (i + 1) (vs := vs) E (by simpa using hl) fun j w hj hs => by
        have := hk (j + 1) w (by simpa using hj) (by rw [show i + (j + 1) = i + 1 + j by omega]; exact hs)
        rw [E.1] at this
        simp at this
      exact ⟨g, ⟨v, vs, rfl, h1⟩, h2⟩
  | n + 1, i, none :: r, σ, f, [], _, hl, _ => nomatch hl
  | n + 1, i, some _ :: r, σ, f, [], _, hl, _ => nomatch hl
  | n + 1, i, none :: r, σ, f, v :: vs, ⟨x, t, e, h⟩, hl, hk => by
      obtain ⟨g, h1, h2⟩ := outs_reps S n (i + 1) (vs := vs) h (by simpa using hl) fun j w hj hs => by
        have := hk (j + 1) w (by simpa using hj) (by rw [show i + (j + 1) = i + 1 + j by omega]; exact hs)
        rw [e] at this
        simpa using this
      have eo : (if i ∈ S then (none : Option D) else none) = none := ite_self none
      exact ⟨g, by unfold outs; rw [eo]; exact ⟨v, vs, rfl, h1⟩, h2⟩
  | n + 1, i, some d :: r, σ, f, v :: vs, ⟨w, t, g0, h0, e, ef, r0, h⟩, hl, hk => by
      obtain ⟨g, h1, h2⟩ := outs_reps S n (i + 1) (vs := vs) h (by simpa using hl) fun j w hj hs => by
        have := hk (j + 1) w (by simpa using hj) (by rw [show i + (j + 1) = i + 1 + j by omega]; exact hs)
        rw [e] at this
        simpa using this
      by_cases hi : i ∈ S
      · have ew := hk 0 v rfl hi
        rw [e] at ew
        obtain rfl : w = v := by simpa using ew
        exact ⟨fadd g0 g, by unfold outs; rw [if_pos hi]; exact ⟨w, vs, g0, g, rfl, rfl, r0, h1⟩, fun a => by have := h2 a; rw [ef, fadd_at, fadd_at]; omega⟩
      · exact ⟨g, by unfold outs; rw [if_neg hi]; exact ⟨v, vs, rfl, h1⟩, fun a => by have := h2 a; rw [ef, fadd_at]; omega⟩
end
theorem mkF_len {n N : Nat} {S : List Nat} {body : SM} {ds : List D} (h : mkF n N S body ds ≠ .bad) : ds.length = n := by
  by_cases e : ds.length = n
  · exact e
  · unfold mkF at h
    rw [if_neg e] at h
    exact absurd rfl h
/-- A DEF: its body by value -/
theorem fn_ok {P : Program} {w : World} {K : PySem.W.Frag} {mg : Str → Option Value} {base : Heap} {x qual : Str} {st : Stmt} {f : Addr} {fd : FuncData} {N ps : List Str} {k : Nat} {L : Ly} {S : List Nat} {body : SM} (Fn : Fun K x qual st f fd) (Sc : FnScope N ps (defScope st))
    (hS : ∀ i ∈ S, i < ps.length) (hN : ps.length ≤ N.length)
    (hbody : ∀ (cdv : Value) (A : Around) (outer : List PySem.Env) (s : Shared) (H : Hp) (E : XK), Room k (A.deeper (envOfC qual (defScope st) s.heap.objs.size f cdv)) →
      PSs (cxOf (L2.CX P w) P w K mg base N qual (defScope st) f cdv A outer s H E) (defBody st) (tS L (fun cls d _ H => E cls d H) S body)) :
    FnOk P w K mg base (L2.CX P w) (k + 1) f fd ps (spM L (mkF ps.length N.length S body)) := by
  refine Fn.okX Sc (fun vs H Q E h => ?_) (fun cdv A outer s H vs Q E hr h => ⟨_, hbody cdv A outer s H E hr, ?_⟩)
  · obtain ⟨Kp, F, ds, f', r, _, h⟩ := h
    rw [← r.length]
    exact mkF_len fun e => by rw [e] at h; exact h
  · obtain ⟨Kp, F, ds, f', r, G, h⟩ := h
    have hl : ds.length = ps.length := mkF_len fun e => by rw [e] at h; exact h
    have hlv : vs.length = ps.length := by rw [← r.length]; exact hl
    have E0 := EnvR.start (N.length - ps.length) r
    have hst : L2.start N vs = vs.map some ++ List.replicate (N.length - ps.length) none := by unfold L2.start; rw [hlv]
    rw [hst]
    have h0 : ∀ {σ' : L2.St}, KeepS S (vs.map some ++ List.replicate (N.length - ps.length) none) σ' → ∀ j v, vs[j]? = some v → 0 + j ∈ S → σ'[j]? = some (some v) := fun {σ'} hk j v hj hs => by
      rw [Nat.zero_add] at hs
      rw [hk j hs, List.getElem?_append_left (by rw [List.length_map]; exact (List.getElem?_eq_some_iff.mp hj).1), List.getElem?_map, hj]
      rfl
    refine ⟨Kp, F, _, f', E0, G, ?_⟩
    unfold mkF at h
    rw [if_pos hl] at h
    cases e : body (ds.map some ++ List.replicate (N.length - ps.length) none) with
    | bad => rw [e] at h; exact h
    | bk ρ => rw [e] at h; exact h.elim
    | ct ρ => rw [e] at h; exact h.elim
    | nx ρ =>
      rw [e] at h
      intro F' H' σ' g E' G' s' k'
      obtain ⟨g2, o1, o2⟩ := outs_reps S ps.length 0 E' hlv (h0 k')
      exact h F' H' .non f0 g2 o1 ⟨rfl, rfl⟩ (by rw [fadd_f0]; exact G'.le o2) s'
    | rt d ρ =>
      rw [e] at h
      intro F' H' σ' g v g1 E' r' G' s' k'
      obtain ⟨g2, o1, o2⟩ := outs_reps S ps.length 0 E' hlv (h0 k')
      exact h F' H' v g1 g2 o1 r' (G'.le fun a => Nat.add_le_add_right (o2 a) _) s'
    | exc x ρ =>
      rw [e] at h
      intro F' H' σ' g cls d0 E' G' s' k' hx
      obtain ⟨g2, o1, o2⟩ := outs_reps S ps.length 0 E' hlv (h0 k')
      exact h F' H' g2 cls d0 o1 (G'.le o2) s' hx
end VL
end
section
set_option Elab.async false
set_option linter.all false
set_option maxRecDepth 100000
namespace VL
open PySem L2
open PyProof.Rows (envOfC)

/-! ### calls of one's own defs -/
def takeA : List AV → Env → Option (List D × Env)
  | [], ρ => some ([], ρ)
  | .val d :: as, ρ => (takeA as ρ).map fun x => (d :: x.1, x.2)
  | .ld i :: as, ρ => (ρ.at i).bind fun d => (takeA as (ρ.set i none)).map fun x => (d :: x.1, x.2)
def giveA : List AV → List (Option D) → Env → Env
  | .val _ :: as, _ :: os, ρ => giveA as os ρ
  | .ld i :: as, o :: os, ρ => giveA as os (ρ.set i o)
  | _, _, ρ => ρ
def ranM (m : List D → FR) (as : List AV) (ρ : Env) : R D := match takeA as ρ with
  | some (ds, ρ2) => match m ds with
    | .rt d os => .ok d (giveA as os ρ2)
    | .exc e os => .exc e (giveA as os ρ2)
    | .bad => .bad
  | none => .bad
def callM (m : List D → FR) (q : AM) : EM := fun ρ => (q ρ).bind fun as ρ1 => ranM m as ρ1
/-- the arguments are looked at by the callee and stay what they are: nothing of them comes back -/
def callB (m : List D → FR) (q : PA') : EM := fun ρ => match q ρ with
  | some ds => match m (frzL ds) with
    | .rt d _ => if d.own = true then .ok d ρ else .bad
    | .exc e _ => if ownL e.ds = true then .exc e ρ else .bad
    | .bad => .bad
  | none => .bad
/-- C(..) -/
def mkM (c : Str) (m : List D → FR) (q : AM) : EM := fun ρ => (q ρ).bind fun as ρ1 => match takeA as ρ1 with
  | some (ds, ρ2) => match m (.obj true c [] [] :: ds) with
    | .rt .non (some o :: os) => .ok o (giveA as os ρ2)
    | .exc e (_ :: os) => .exc e (giveA as os ρ2)
    | _ => .bad
  | none => .bad
/-- o.m(..), o a name -/
def methL (c : Str) (mth : Str) (i : Nat) (m : List D → FR) (q : AM) : EM := fun ρ => match ρ.at i with
  | some (.obj _ c' ns _) => if c' = c ∧ mth ∉ ns then (q ρ).bind fun as ρ1 => ranM m (.ld i :: as) ρ1 else .bad
  | _ => .bad
/-- o.m(..), o any expression -/
def methE (c : Str) (mth : Str) (fa : EM) (m : List D → FR) (q : AM) : EM := fun ρ => (fa ρ).bind fun d ρ1 => match d with
  | .obj o c' ns ds => if c' = c ∧ mth ∉ ns then (q ρ1).bind fun as ρ2 => ranM m (.val (.obj o c' ns ds) :: as) ρ2 else .bad
  | _ => .bad

section
variable {L : Ly} {W : WX} {F F' : AP} {H H' : Hp} {σ : L2.St}
theorem EnvR.take : ∀ {as : List AV} {vs : List V} {ρ ρ2 : Env} {g k : Fp} {ds : List D}, EnvR L F H ρ σ g → AReps L σ F H as vs k → takeA as ρ = some (ds, ρ2) → ∃ g2 k2, EnvR L F H ρ2 σ g2 ∧ Reps L F H ds vs k2 ∧ ∀ a, k2 a + g2 a = g a + k a
  | [], vs, ρ, ρ2, g, k, ds, E, ⟨e1, e2⟩, h => by
      obtain ⟨rfl, rfl⟩ := Prod.mk.inj (Option.some.inj h)
      exact ⟨g, f0, E, ⟨e1, rfl⟩, fun a => by rw [e2, f0_at]; omega⟩
  | .val d :: as, vs, ρ, ρ2, g, k, ds, E, ⟨v, ws, g1, k1, e1, e2, r1, r2⟩, h => by
      obtain ⟨⟨ds', ρ'⟩, h1, h2⟩ := Option.map_eq_some_iff.mp h
      obtain ⟨rfl, rfl⟩ := Prod.mk.inj h2
      obtain ⟨g2, k2, E2, R2, hs⟩ := EnvR.take E r2 h1
      refine ⟨g2, fadd g1 k2, E2, ⟨v, ws, g1, k2, e1, rfl, r1, R2⟩, fun a => ?_⟩
      have := hs a
      rw [e2, fadd_at, fadd_at]; omega
  | .ld i :: as, vs, ρ, ρ2, g, k, ds, E, ⟨v, ws, e1, e2, r2⟩, h => by
      obtain ⟨d, h0, h⟩ := Option.bind_eq_some_iff.mp h
      obtain ⟨⟨ds', ρ'⟩, h1, h2⟩ := Option.map_eq_some_iff.mp h
      obtain ⟨rfl, rfl⟩ := Prod.mk.inj h2
      obtain ⟨v', g1, h', q1, q2, q3, q4, _⟩ := E.get h0
      rw [e2] at q1
      obtain rfl := Option.some.inj (Option.some.inj q1)
      obtain ⟨g2, k2, E2, R2, hs⟩ := EnvR.take q4 r2 h1
      refine ⟨g2, fadd g1 k2, E2, ⟨v, ws, g1, k2, e1, rfl, q3, R2⟩, fun a => ?_⟩
      have := hs a
      rw [q2, fadd_at, fadd_at]; omega
theorem EnvR.give : ∀ {as : List AV} {vs : List V} {ρ : Env} {g k g0 : Fp} {F0 : AP} {H0 : Hp} {os : List (Option D)}, EnvR L F H ρ σ g → AReps L σ F0 H0 as vs g0 → OReps L F H os vs k → ∃ g2, EnvR L F H (giveA as os ρ) σ g2 ∧ ∀ a, g2 a ≤ g a + k a
  | [], vs, ρ, g, k, g0, F0, H0, os, E, _, _ => ⟨g, by cases os <;> exact E, fun _ => Nat.le_add_right _ _⟩
  | .val d :: as, vs, ρ, g, k, g0, F0, H0, [], E, _, _ => ⟨g, E, fun _ => Nat.le_add_right _ _⟩
  | .ld i :: as, vs, ρ, g, k, g0, F0, H0, [], E, _, _ => ⟨g, E, fun _ => Nat.le_add_right _ _⟩
  | .val d :: as, vs, ρ, g, k, g0, F0, H0, none :: os, E, ⟨v, ws, g1, k1, e1, e2, r1, r2⟩, ⟨v', ws', e', r'⟩ => by
      rw [e1] at e'
      obtain ⟨rfl, rfl⟩ := List.cons.inj e'
      obtain ⟨g2, h1, h2⟩ := EnvR.give (as := as) (os := os) E r2 r'
      exact ⟨g2, h1, h2⟩
  | .val d :: as, vs, ρ, g, k, g0, F0, H0, some d' :: os, E, ⟨v, ws, g1, k1, e1, e2, r1, r2⟩, ⟨v', ws', g', h', e', ef, rr, r'⟩ => by
      rw [e1] at e'
      obtain ⟨rfl, rfl⟩ := List.cons.inj e'
      obtain ⟨g2, h1, h2⟩ := EnvR.give E r2 r'
      exact ⟨g2, h1, fun a => by have := h2 a; rw [ef, fadd_at]; omega⟩
  | .ld i :: as, vs, ρ, g, k, g0, F0, H0, none :: os, E, ⟨v, ws, e1, e2, r2⟩, ⟨v', ws', e', r'⟩ => by
      rw [e1] at e'
      obtain ⟨rfl, rfl⟩ := List.cons.inj e'
      obtain ⟨g1, E1, l1⟩ := E.drop i
      obtain ⟨g2, h1, h2⟩ := EnvR.give E1 r2 r'
      exact ⟨g2, h1, fun a => Nat.le_trans (h2 a) (Nat.add_le_add_right (l1 a) _)⟩
  | .ld i :: as, vs, ρ, g, k, g0, F0, H0, some d' :: os, E, ⟨v, ws, e1, e2, r2⟩, ⟨v', ws', g', h', e', ef, rr, r'⟩ => by
      rw [e1] at e'
      obtain ⟨rfl, rfl⟩ := List.cons.inj e'
      obtain ⟨g1, E1, l1⟩ := E.put (i := i) (by rw [E.length]; exact (List.getElem?_eq_some_iff.mp e2).1) rr
      rw [set_id e2] at E1
      obtain ⟨g2, h1, h2⟩ := EnvR.give E1 r2 r'
      exact ⟨g2, h1, fun a => by have := h2 a; have := l1 a; rw [ef, fadd_at]; omega⟩
/-- the callee's promise meets the caller's state -/
theorem ran_ok {Kp F1 : AP} {H1 : Hp} {m : List D → FR} {as : List AV} {ρ1 : Env} {g1 k1 : Fp} {vs : List V} {Q : VK} (E1 : EnvR L F1 H1 ρ1 σ g1) (r1 : AReps L σ F1 H1 as vs k1) (G1 : Good Kp F1 H1 (fadd g1 k1))
    (p : Post L W Kp F1 H1 σ (ranM m as ρ1) fun d _ F' H' g' => ∀ v k, Rep L F' H' d v k → Good Kp F' H' (fadd g' k) → Q v H') : spM L m vs H1 Q (WE W σ) := by
  unfold ranM at p
  cases e : takeA as ρ1 with
  | none => rw [e] at p; exact p.elim
  | some x =>
    obtain ⟨ds, ρ2⟩ := x
    rw [e] at p
    obtain ⟨g2, k2, E2, R2, hs⟩ := EnvR.take E1 r1 e
    have G2 : Good Kp F1 H1 (fadd k2 g2) := G1.le fun a => by have := hs a; rw [fadd_at, fadd_at]; omega
    refine ⟨plus Kp g2, F1, ds, k2, R2, G2.split, ?_⟩
    cases em : m ds with
    | bad => simp only [em] at p; exact p.elim
    | rt d os =>
      simp only [em] at p
      intro F' H' v k g ho hr hg hst
      have G' := G2.join hst hg
      obtain ⟨g3, E3, l3⟩ := EnvR.give (E2.step hst) r1 ho
      exact p F' H' g3 E3 hst.plus v k hr (G'.le fun a => by have := l3 a; rw [fadd_at, fadd_at, fadd_at]; omega)
    | exc x os =>
      simp only [em] at p
      intro F' H' g cls d0 ho hg hst hx
      have G' := G2.join hst hg
      obtain ⟨g3, E3, l3⟩ := EnvR.give (E2.step hst) r1 ho
      exact p F' H' g3 cls d0 E3 (G'.le fun a => by have := l3 a; rw [fadd_at]; omega) hst.plus hx
theorem imp_callM {m : List D → FR} {q : AM} : ∀ σ H Q, tD L W (callM m q) σ H Q → tCallS (spM L m) (WE W) (tA L W q) σ H Q := fun σ H Q ⟨Kp, F, ρ, g, E, G, p⟩ =>
  bA0 E G p fun as ρ1 F1 H1 g1 vs k1 E1 r1 G1 s1 p1 => ran_ok E1 r1 G1 p1
theorem imp_callB {m : List D → FR} {q : PA'} : ∀ σ H Q, tD L W (callB m q) σ H Q → tCallS (spM L m) (WE W) (tAP L q) σ H Q := fun σ H Q ⟨Kp, F, ρ, g, E, G, p⟩ => by
  unfold callB at p
  cases e : q ρ with
  | none => rw [e] at p; exact p.elim
  | some ds =>
    rw [e] at p
    refine ⟨F, ρ, g, ds, E, e, fun vs H1 k s1 r1 => ?_⟩
    have E1 := E.same s1
    have G1 := G.same s1
    have R1 : Reps L (fun a => F a ∨ 1 ≤ k a) H1 (frzL ds) vs f0 := Reps.lock (fun a x => .inl x) ds r1 fun a x => .inr x
    have G2 : Good (plus Kp g) (fun a => F a ∨ 1 ≤ k a) H1 f0 := ⟨fun a => Nat.zero_le _, fun a x => absurd x f0_not, fun a x => x.elim (G1.kp a) fun x => (G1.own a x).2.2, fun a x => x.elim (G1.fr a) (Reps.trk ds r1 a)⟩
    have E2 : ∀ {F' : AP} {H' : Hp}, Stp (plus Kp g) (fun a => F a ∨ 1 ≤ k a) H1 F' H' → EnvR L F H' ρ σ g := fun {F' H'} hst => E1.mono (fun _ x => x) (fun a o x c => hst.st a o x (by
      rcases c with c | c
      · exact .inl (.inl c)
      · exact .inr (.inr c))) fun a o x y => hst.st a o y (.inr (.inl (.inr x)))
    have S2 : ∀ {F' : AP} {H' : Hp}, Stp (plus Kp g) (fun a => F a ∨ 1 ≤ k a) H1 F' H' → Stp Kp F H F H' := fun {F' H'} hst => (Stp.same s1).trans (Kp1 := Kp) ⟨fun a o x c => hst.st a o x (by
      rcases c with c | c | c
      · exact .inl (.inl c)
      · exact .inr (.inl (.inl c))
      · exact .inr (.inr c)), fun _ x => x, fun _ x => .inl x⟩ fun _ x => x
    have G3 : ∀ {F' : AP} {H' : Hp} {k' : Fp}, Stp (plus Kp g) (fun a => F a ∨ 1 ≤ k a) H1 F' H' → Good (plus Kp g) F' H' k' → Good Kp F H' (fadd g k') := fun {F' H' k'} hst hg => by
      have tr : ∀ a, F a → H' a ≠ none := fun a x => hg.fr a (hst.fz a (.inl x))
      refine ⟨fun a => ?_, fun a x => ?_, fun a x => hg.kp a (.inl x), tr⟩
      · have h1 := G.lin a
        have h2 := hg.lin a
        rw [fadd_at]
        by_cases q : 1 ≤ k' a
        · have := (hg.own a q).2.1
          have : ¬ 1 ≤ g a := fun z => this (.inr z)
          omega
        · omega
      · rw [fadd_at] at x
        by_cases q : 1 ≤ k' a
        · have h := hg.own a q
          exact ⟨fun z => h.1 (hst.fz a (.inl z)), fun z => h.2.1 (.inl z), h.2.2⟩
        · have qg : 1 ≤ g a := by omega
          exact ⟨(G.own a qg).1, (G.own a qg).2.1, hg.kp a (.inr qg)⟩
    refine ⟨plus Kp g, fun a => F a ∨ 1 ≤ k a, frzL ds, f0, R1, G2, ?_⟩
    cases em : m (frzL ds) with
    | bad => simp only [em] at p; exact p.elim
    | rt d os =>
      simp only [em] at p
      by_cases hd : d.own = true
      · simp only [if_pos hd] at p
        intro F' H' v k' g' ho hr hg hst
        exact p F H' g (E2 hst) (S2 hst) v k' (Rep.own d hd hr) (G3 hst (hg.le fun a => Nat.le_add_left _ _))
      · simp only [if_neg hd] at p
        exact p.elim
    | exc x os =>
      simp only [em] at p
      by_cases hd : ownL x.ds = true
      · simp only [if_pos hd] at p
        intro F' H' g' cls d0 ho hg hst hx
        refine p F H' g cls d0 (E2 hst) ?_ (S2 hst) ?_
        · have := G3 hst (hg.le (g := f0) fun a => Nat.zero_le _)
          rw [fadd_f0] at this
          exact this
        · obtain ⟨h1, h2⟩ := hx
          refine ⟨h1, ?_⟩
          rcases h2 with ⟨dd, ws, e1, e2, hl, r⟩ | h2
          · exact .inl ⟨dd, ws, e1, e2, hl, Reps.own _ hd r⟩
          · exact .inr h2
      · simp only [if_neg hd] at p
        exact p.elim
end

/-! ### the rules -/
section
variable {X : Cx} {L : Ly} {W : WX} {k : Nat} {f C : Addr} {fd : FuncData} {ps : List Str} {x mt : Str} {p pos apos : Pos} {e o : Expr} {es : List Expr} {m : List D → FR} {q : AM} {fa : EM}
theorem ee_call (Fn : FnOk X.prog X.w X.K X.mg X.base (L2.CX X.prog X.w) k f fd ps (spM L m)) (hr : Room k X.A) (tk : Takes X W) (hg : Gl X x) (hm : X.mg x = some (.ref f)) (hk : PySem.W.keepIn X.K (.ref f) = true) (hb : Binds X.K fd ps [])
    (ha : PA X (e :: es) (tA L W q)) (hdb : (x == ("__debug__" : Str)) = false := by decide) (he : starEach (e :: es) X.env = (false, eval e X.env) :: starEach es X.env := by rfl) (hpl : (backTo pos (starEach es X.env)).any (·.1) = false := by rfl) :
    PE X (.Call (.Name x p) (e :: es) [] pos) (tD L W (callM m q)) := (pe_callS Fn hr hg hm hk hb (fun σ => passAt tk σ) ha hdb he hpl).imp imp_callM
theorem ee_callB0 (Fn : FnOk X.prog X.w X.K X.mg X.base (L2.CX X.prog X.w) k f fd ps (spM L m)) (hr : Room k X.A) (tk : Takes X W) (hg : Gl X x) (hm : X.mg x = some (.ref f)) (hk : PySem.W.keepIn X.K (.ref f) = true) (hb : Binds X.K fd ps [])
    {qp : PA'} (ha : PA X (e :: es) (tAP L qp)) (hdb : (x == ("__debug__" : Str)) = false := by decide) (he : starEach (e :: es) X.env = (false, eval e X.env) :: starEach es X.env := by rfl) (hpl : (backTo pos (starEach es X.env)).any (·.1) = false := by rfl) :
    PE X (.Call (.Name x p) (e :: es) [] pos) (tD L W (callB m qp)) := (pe_callS Fn hr hg hm hk hb (fun σ => passAt tk σ) ha hdb he hpl).imp imp_callB
/-- o.m(..), what is raised wished for at the caller's slots -/
def tMethS (C : Addr) (m : Str) (sp : Sp) (E : L2.St → XK) (ta : TE) (t : TA) : TE := fun σ H Q => ta σ H fun x H1 => ∃ a dx fs, x = .ref a ∧ H1 a = some (.ins C dx fs) ∧ fs.lookup m = none ∧ t σ H1 fun vs H2 => sp (x :: vs) H2 Q (E σ)
theorem pe_methS {sp : Sp} {E : L2.St → XK} {ta : TE} {t : TA} {pl : Sem Bool} (ho : PE X o ta) (cl : Cls X.K C) (hm : Meth X.K C mt f) (Fn : FnOk X.prog X.w X.K X.mg X.base (L2.CX X.prog X.w) k f fd ps sp) (hr : Room k X.A) (hb : Binds X.K fd ps [])
    (hx : ∀ σ, PassesAt (L2.CX X.prog X.w) X σ (E σ)) (ha : PA X (e :: es) t) (hst : starEach (e :: es) X.env = (false, eval e X.env) :: starEach es X.env := by rfl) (hpl : (backTo pos (starEach es X.env)).any (·.1) = false := by rfl)
    (ht : eval (.Call (.Attribute o mt apos) (e :: es) [] pos) X.env = (do
      let ov ← eval o X.env
      standAt apos.atName
      let (f, first) ← holding [ov] (getMethod ov mt pl)
      callWith pos f first (backTo pos (starEach (e :: es) X.env)) (backToKw pos (keywordEach [] X.env))) := by rfl) : PE X (.Call (.Attribute o mt apos) (e :: es) [] pos) (tMethS C mt sp E ta t) := by
  constructor
  intro pins s σ H Q I h
  refine PySem.W.methodCall_KW (pl := pl) (thn (ho.run pins s σ H _ I h) ?_) ht
  rintro u s1 ⟨v, H1, I1, rv, a, dx, fs, rfl, ea, l, h1⟩
  obtain rfl : u = Value.ref a := rv
  refine getmeth_ok I1 ea cl hm l (PySem.W.callWith_K (first := [.ref a]) (h₀ := X.base) I.ok.mod.kin hm.kp (thn (ha.run pos pins s1 σ H1 _ I1 h1) ?_) hst hpl)
  rintro us s2 ⟨vs, H2, I2, r, h2⟩
  exact ⟨I2.kIn, run_fnS (us := .ref a :: us) (vs := .ref a :: vs) Fn hr hb (hx σ) I2 (.cons rfl r) h2⟩
theorem pe_methS0 {sp : Sp} {E : L2.St → XK} {ta : TE} {pl : Sem Bool} (ho : PE X o ta) (cl : Cls X.K C) (hm : Meth X.K C mt f) (Fn : FnOk X.prog X.w X.K X.mg X.base (L2.CX X.prog X.w) k f fd ps sp) (hr : Room k X.A) (hb : Binds X.K fd ps [])
    (hx : ∀ σ, PassesAt (L2.CX X.prog X.w) X σ (E σ))
    (ht : eval (.Call (.Attribute o mt apos) [] [] pos) X.env = (do
      let ov ← eval o X.env
      standAt apos.atName
      let (f, first) ← holding [ov] (getMethod ov mt pl)
      callWith pos f first (backTo pos (starEach [] X.env)) (backToKw pos (keywordEach [] X.env))) := by rfl) : PE X (.Call (.Attribute o mt apos) [] [] pos) (tMethS C mt sp E ta tNil) := by
  constructor
  intro pins s σ H Q I h
  refine PySem.W.methodCall_KW (pl := pl) (thn (ho.run pins s σ H _ I h) ?_) ht
  rintro u s1 ⟨v, H1, I1, rv, a, dx, fs, rfl, ea, l, h1⟩
  obtain rfl : u = Value.ref a := rv
  exact getmeth_ok I1 ea cl hm l (PySem.W.callWith_K0 (first := [.ref a]) I1.kIn hm.kp (run_fnS (us := [.ref a]) (vs := [.ref a]) Fn hr hb (hx σ) I1 (.cons rfl .nil) h1))
theorem zip_lookup {ns : List Str} {mth : Str} (h : mth ∉ ns) : ∀ (vs : List V), (ns.zip vs).lookup mth = none := by
  induction ns with
  | nil => intro vs; rfl
  | cons n r ih =>
    intro vs
    cases vs with
    | nil => rfl
    | cons v t =>
      have h1 : (mth == n) = false := beq_eq_false_iff_ne.mpr fun e => h (e ▸ List.mem_cons_self)
      show (List.lookup mth ((n, v) :: r.zip t)) = none
      rw [List.lookup_cons, h1]
      exact ih (fun z => h (List.mem_cons_of_mem _ z)) t
theorem Rep.ins {F : AP} {H : Hp} {o : Bool} {c : Str} {ns : List Str} {ds : List D} {v : V} {g : Fp} (r : Rep L F H (.obj o c ns ds) v g) : ∃ a dx vs h, v = .ref a ∧ H a = some (.ins (L.CT c) dx (ns.zip vs)) ∧ ns.length = ds.length ∧ Reps L F H ds vs h := by
  cases o with
  | true => obtain ⟨a, dx, vs, h, e, q, hl, _, r⟩ := r; exact ⟨a, dx, vs, h, e, q, hl, r⟩
  | false => obtain ⟨a, dx, vs, e, q, _, hl, r⟩ := r; exact ⟨a, dx, vs, _, e, q, hl, r⟩
theorem imp_methL {c : Str} {i : Nat} : ∀ σ H Q, tD L W (methL c mt i m q) σ H Q → tMethS (L.CT c) mt (spM L m) (WE W) (tVar i) (tA L W q) σ H Q := fun σ H Q ⟨Kp, F, ρ, g, E, G, p⟩ => by
  unfold methL at p
  cases e0 : ρ.at i with
  | none => rw [e0] at p; exact p.elim
  | some d0 =>
    rw [e0] at p
    cases d0 with
    | obj ob c' ns ds =>
      by_cases hc : c' = c ∧ mt ∉ ns
      · simp only [if_pos hc] at p
        obtain ⟨rfl, hmt⟩ := hc
        obtain ⟨v, k, h1, r0⟩ := E.look e0
        obtain ⟨a, dx, vs, h, rfl, q0, _, _⟩ := r0.ins
        exact ⟨.ref a, h1, a, dx, _, rfl, q0, zip_lookup hmt vs, bA0 E G p fun as ρ1 F1 H1 g1 vs1 k1 E1 r1 G1 s1 p1 => ran_ok (as := .ld i :: as) E1 ⟨.ref a, vs1, rfl, h1, r1⟩ G1 p1⟩
      · simp only [if_neg hc] at p
        exact p.elim
    | _ => exact p.elim
theorem imp_methE {c : Str} : ∀ σ H Q, tD L W (methE c mt fa m q) σ H Q → tMethS (L.CT c) mt (spM L m) (WE W) (tD L W fa) (tA L W q) σ H Q := fun σ H Q ⟨Kp, F, ρ, g, E, G, p⟩ =>
  bD0 E G p fun d0 ρ1 F1 H1 g1 v1 k1 E1 r1 G1 s1 p1 => by
    cases d0 with
    | obj ob c' ns ds =>
      by_cases hc : c' = c ∧ mt ∉ ns
      · simp only [if_pos hc] at p1
        obtain ⟨rfl, hmt⟩ := hc
        obtain ⟨a, dx, vs, h, rfl, q0, _, _⟩ := Rep.ins r1
        refine ⟨a, dx, _, rfl, q0, zip_lookup hmt vs, bA E1 r1 G1 p1 fun as ρ2 F2 H2 g2 vs2 k2 E2 r2 T2 G2 s2 p2 => ran_ok (as := .val (.obj ob c' ns ds) :: as) E2 ⟨.ref a, vs2, k1, k2, rfl, rfl, T2, r2⟩ ?_ p2⟩
        rw [fadd_comm k1 k2, ← fadd_assoc]
        exact G2
      · simp only [if_neg hc] at p1
        exact p1.elim
    | _ => exact p1.elim
theorem ee_methL {c : Str} {i : Nat} {pl : Sem Bool} (ho : PE X o (tVar i)) (cl : Cls X.K (L.CT c)) (hm : Meth X.K (L.CT c) mt f) (Fn : FnOk X.prog X.w X.K X.mg X.base (L2.CX X.prog X.w) k f fd ps (spM L m)) (hr : Room k X.A) (hb : Binds X.K fd ps [])
    (tk : Takes X W) (ha : PA X (e :: es) (tA L W q)) (hst : starEach (e :: es) X.env = (false, eval e X.env) :: starEach es X.env := by rfl) (hpl : (backTo pos (starEach es X.env)).any (·.1) = false := by rfl)
    (ht : eval (.Call (.Attribute o mt apos) (e :: es) [] pos) X.env = (do
      let ov ← eval o X.env
      standAt apos.atName
      let (f, first) ← holding [ov] (getMethod ov mt pl)
      callWith pos f first (backTo pos (starEach (e :: es) X.env)) (backToKw pos (keywordEach [] X.env))) := by rfl) : PE X (.Call (.Attribute o mt apos) (e :: es) [] pos) (tD L W (methL c mt i m q)) := (pe_methS ho cl hm Fn hr hb (fun σ => passAt tk σ) ha hst hpl ht).imp imp_methL
theorem ee_methL0 {c : Str} {i : Nat} {pl : Sem Bool} (ho : PE X o (tVar i)) (cl : Cls X.K (L.CT c)) (hm : Meth X.K (L.CT c) mt f) (Fn : FnOk X.prog X.w X.K X.mg X.base (L2.CX X.prog X.w) k f fd ps (spM L m)) (hr : Room k X.A) (hb : Binds X.K fd ps [])
    (tk : Takes X W)
    (ht : eval (.Call (.Attribute o mt apos) [] [] pos) X.env = (do
      let ov ← eval o X.env
      standAt apos.atName
      let (f, first) ← holding [ov] (getMethod ov mt pl)
      callWith pos f first (backTo pos (starEach [] X.env)) (backToKw pos (keywordEach [] X.env))) := by rfl) : PE X (.Call (.Attribute o mt apos) [] [] pos) (tD L W (methL c mt i m nilE)) := (pe_methS0 ho cl hm Fn hr hb (fun σ => passAt tk σ) ht).imp fun σ H Q h => by
  obtain ⟨v, h1, a, dx, fs, e1, e2, e3, h2⟩ := imp_methL σ H Q h
  obtain ⟨Kp, F, ρ, g, E, G, p⟩ := h2
  exact ⟨v, h1, a, dx, fs, e1, e2, e3, p F H g E Stp.refl [] f0 ⟨rfl, rfl⟩ (by rw [fadd_f0]; exact G)⟩
/-- C(..), what is raised wished for at the caller's slots -/
def tMakeS (C : Addr) (sp : Sp) (E : L2.St → XK) (t : TA) : TE := fun σ H Q => t σ H fun vs H1 => ∀ x dx, H1 x = none → H1 dx = none → dx ≠ x → sp (.ref x :: vs) (upd (upd H1 dx (.own x)) x (.ins C dx [])) (fun v H2 => v = .non ∧ Q (.ref x) H2) (E σ)
theorem pe_makeS {sp : Sp} {E : L2.St → XK} {t : TA} (M : Mk X.K C f) (Fn : FnOk X.prog X.w X.K X.mg X.base (L2.CX X.prog X.w) k f fd ps sp) (hr : Room (k + 1) X.A) (hg : Gl X x) (hm : X.mg x = some (.ref C)) (hb : Binds X.K fd ps []) (hx : ∀ σ, PassesAt (L2.CX X.prog X.w) X σ (E σ)) (ha : PA X (e :: es) t) (hdb : (x == ("__debug__" : Str)) = false := by decide) (he : starEach (e :: es) X.env = (false, eval e X.env) :: starEach es X.env := by rfl) (hpl : (backTo pos (starEach es X.env)).any (·.1) = false := by rfl) :
    PE X (.Call (.Name x p) (e :: es) [] pos) (tMakeS C sp E t) := by
  constructor
  intro pins s0 σ H Q I0 h
  refine wpAny_Call_Name_kw (ld_glob I0 hg hm (PySem.W.callWith_K (h₀ := X.base) I0.ok.mod.kin M.kp (thn (ha.run pos pins s0 σ H _ I0 h) ?_) he hpl) hdb)
  rintro us s ⟨vs, H1, I, r, h1⟩
  refine ⟨I.kIn, ?_⟩
  have hq := h1 (s.heap.objs.size + 1) s.heap.objs.size (I.hok.fresh (Nat.le_succ _)) (I.hok.fresh (Nat.le_refl _)) (Nat.ne_of_lt (Nat.lt_succ_self _))
  have J := Inv.made (C := C) I
  have rv : Vals (V.ref (s.heap.objs.size + 1) :: vs) (Value.ref (s.heap.objs.size + 1) :: us) := .cons rfl r
  have hl : (Value.ref (s.heap.objs.size + 1) :: us).length = ps.length := rv.length.symm.trans (Fn.len _ _ _ _ hq)
  have bd := hb _ (Value.ref (s.heap.objs.size + 1) :: us) J.kIn (by rw [List.append_nil]; exact hl)
  rw [List.append_nil] at bd
  refine wpAny_call (make_map (f := f) I.kIn M.makes M.init (beq_iff_eq.mp M.fn) (codeAny_mono (Fn.run _ X.stack _ _ _ _ _ _ (E σ) (hr.make C us []) (J.env0.make C us []) bd rv hq) ?_))
  intro r' s' hq'
  cases r' with
  | error z => exact hx σ pins _ _ z s' J hq'
  | ok fl =>
    cases fl with
    | next => exact hq'.elim
    | brk => exact hq'.elim
    | cont => exact hq'.elim
    | ret u =>
      obtain ⟨v, H', J', rv', ev, h3⟩ := J.after hq'
      subst ev
      exact ⟨rv', V.ref (s.heap.objs.size + 1), H', J', rfl, h3⟩
theorem imp_mkM {c : Str} : ∀ σ H Q, tD L W (mkM c m q) σ H Q → tMakeS (L.CT c) (spM L m) (WE W) (tA L W q) σ H Q := fun σ H Q ⟨Kp, F, ρ, g, E, G, p⟩ =>
  bA0 E G p fun as ρ1 F1 H1 g1 vs k1 E1 r1 G1 s1 p1 => by
    intro x dx nx ndx ne
    cases e : takeA as ρ1 with
    | none => simp only [e] at p1; exact p1.elim
    | some y =>
      obtain ⟨ds, ρ2⟩ := y
      simp only [e] at p1
      obtain ⟨g2, k2, E2, R2, hs⟩ := EnvR.take E1 r1 e
      have G2 : Good Kp F1 H1 (fadd k2 g2) := G1.le fun a => by have := hs a; rw [fadd_at, fadd_at]; omega
      have sx : Same H1 (upd (upd H1 dx (.own x)) x (.ins (L.CT c) dx [])) := fun b o eb => by
        rw [upd_ne (ne_of_none eb nx), upd_ne (ne_of_none eb ndx)]
        exact eb
      have nw : New H1 (upd (upd H1 dx (.own x)) x (.ins (L.CT c) dx [])) (f1 x) := fun a => by
        by_cases ea : a = x
        · subst ea
          rw [f1_self]
          exact ⟨Nat.le_refl _, fun _ => ⟨nx, by rw [upd_same]; exact fun z => nomatch z⟩⟩
        · rw [f1_ne ea]
          exact ⟨Nat.zero_le _, fun z => absurd z (by decide)⟩
      have G3 := G2.new sx nw
      have E3 := E2.same sx
      have R3 : Reps L F1 (upd (upd H1 dx (.own x)) x (.ins (L.CT c) dx [])) (.obj true c [] [] :: ds) (.ref x :: vs) (fadd (f1 x) k2) := ⟨.ref x, vs, f1 x, k2, rfl, rfl, ⟨x, dx, [], f0, rfl, upd_same, rfl, (fadd_f0 _).symm, rfl, rfl⟩, R2.same sx⟩
      have G4 : Good Kp F1 (upd (upd H1 dx (.own x)) x (.ins (L.CT c) dx [])) (fadd (fadd (f1 x) k2) g2) := G3.le fun a => by rw [fadd_at, fadd_at, fadd_at, fadd_at]; omega
      refine ⟨plus Kp g2, F1, _, _, R3, G4.split, ?_⟩
      have s0 : ∀ {F' : AP} {H' : Hp}, Stp (plus Kp g2) F1 (upd (upd H1 dx (.own x)) x (.ins (L.CT c) dx [])) F' H' → Stp Kp F1 H1 F' H' := fun {F' H'} hst => (Stp.same sx).trans hst.plus fun _ y => y
      cases em : m (.obj true c [] [] :: ds) with
      | bad => simp only [em] at p1; exact p1.elim
      | rt d os =>
        simp only [em] at p1
        cases os with
        | nil => cases d <;> exact p1.elim
        | cons o os =>
          cases o with
          | none => cases d <;> exact p1.elim
          | some o =>
            cases d with
            | non =>
              intro F' H' v k g ho hr hg hst
              obtain ⟨v1, ws, go, gr, e1, e2, ro, rr⟩ := ho
              obtain ⟨rfl, rfl⟩ := List.cons.inj e1
              obtain ⟨rfl, rfl⟩ := hr
              have G' := G4.join hst hg
              obtain ⟨g3, E4, l3⟩ := EnvR.give (E3.step hst) r1 rr
              exact ⟨rfl, p1 F' H' g3 E4 (s0 hst) (.ref x) go ro (G'.le fun a => by have := l3 a; rw [e2, fadd_at, fadd_at, fadd_at, fadd_at]; omega)⟩
            | _ => exact p1.elim
      | exc y os =>
        simp only [em] at p1
        cases os with
        | nil => exact p1.elim
        | cons o os =>
          intro F' H' g cls d0 ho hg hst hx
          have G' := G4.join hst hg
          cases o with
          | none =>
            obtain ⟨v1, ws, e1, rr⟩ := ho
            obtain ⟨rfl, rfl⟩ := List.cons.inj e1
            obtain ⟨g3, E4, l3⟩ := EnvR.give (E3.step hst) r1 rr
            exact p1 F' H' g3 cls d0 E4 (G'.le fun a => by have := l3 a; rw [fadd_at]; omega) (s0 hst) hx
          | some o =>
            obtain ⟨v1, ws, go, gr, e1, e2, ro, rr⟩ := ho
            obtain ⟨rfl, rfl⟩ := List.cons.inj e1
            obtain ⟨g3, E4, l3⟩ := EnvR.give (E3.step hst) r1 rr
            exact p1 F' H' g3 cls d0 E4 (G'.le fun a => by have := l3 a; rw [e2, fadd_at, fadd_at]; omega) (s0 hst) hx
theorem ee_make {c : Str} (M : Mk X.K (L.CT c) f) (Fn : FnOk X.prog X.w X.K X.mg X.base (L2.CX X.prog X.w) k f fd ps (spM L m)) (hr : Room (k + 1) X.A) (tk : Takes X W) (hg : Gl X x) (hm : X.mg x = some (.ref (L.CT c))) (hb : Binds X.K fd ps [])
    (ha : PA X (e :: es) (tA L W q)) (hdb : (x == ("__debug__" : Str)) = false := by decide) (he : starEach (e :: es) X.env = (false, eval e X.env) :: starEach es X.env := by rfl) (hpl : (backTo pos (starEach es X.env)).any (·.1) = false := by rfl) :
    PE X (.Call (.Name x p) (e :: es) [] pos) (tD L W (mkM c m q)) := (pe_makeS M Fn hr hg hm hb (fun σ => passAt tk σ) ha hdb he hpl).imp imp_mkM
end
end VL
end
section
set_option Elab.async false
set_option linter.all false
set_option maxRecDepth 100000
namespace VL
open PySem L2

/-! ### statements by value -/
def seqM (a b : SM) : SM := fun ρ => (a ρ).then b
def nxM : SM := fun ρ => .nx ρ
def bkM : SM := fun ρ => .bk ρ
def ctM : SM := fun ρ => .ct ρ
def ifM (c : TM) (a b : SM) : SM := fun ρ => (c ρ).then fun k ρ1 => if k = true then a ρ1 else b ρ1
def retM (f : EM) : SM := fun ρ => (f ρ).then fun d ρ1 => .rt d ρ1
def retN : SM := fun ρ => .rt .non ρ
def exprM (f : EM) : SM := fun ρ => (f ρ).then fun _ ρ1 => .nx ρ1
def setM (i : Nat) (f : EM) : SM := fun ρ => (f ρ).then fun d ρ1 => .nx (ρ1.set i (some d))
def augM (op : Int → Int → Int) (i : Nat) (f : EM) : SM := fun ρ => match ρ.at i with
  | some (.int a) => (f ρ).then fun b ρ1 => match b with
    | .int b => .nx (ρ1.set i (some (.int (op a b))))
    | _ => .bad
  | _ => .bad
/-- targets -/
abbrev GM := D → Env → Option Env
abbrev GsM := List D → Env → Option Env
def nmG (i : Nat) : GM := fun d ρ => some (ρ.set i (some d))
def nilG : GsM := fun ds ρ => match ds with
  | [] => some ρ
  | _ => none
def consG (g : GM) (h : GsM) : GsM := fun ds ρ => match ds with
  | d :: r => (g d ρ).bind (h r)
  | [] => none
def tupG (n : Nat) (h : GsM) : GM := fun d ρ => match d with
  | .tup ds => if ds.length = n then h ds ρ else none
  | _ => none
def lstG (n : Nat) (h : GsM) : GM := fun d ρ => match d with
  | .lst false ds => if ds.length = n then h ds ρ else none
  | _ => none
def asgM (g : GM) (f : EM) : SM := fun ρ => (f ρ).then fun d ρ1 => match g d ρ1 with
  | some ρ2 => .nx ρ2
  | none => .bad
/-- what a target's stores leave: a relation of the slots ahead and behind -/
structure RlOk (Rl : L2.St → L2.St → Prop) : Prop where
  refl : ∀ σ, Rl σ σ
  trans : ∀ σ σ1 σ2, Rl σ σ1 → Rl σ1 σ2 → Rl σ σ2
theorem keepRl (S : List Nat) : RlOk (KeepS S) := ⟨fun _ => KeepS.refl, fun _ _ _ => KeepS.trans⟩
def wipeRl (vs : List Nat) : L2.St → L2.St → Prop := fun σ σ' => wipe σ' vs = wipe σ vs
theorem wipeRlOk (vs : List Nat) : RlOk (wipeRl vs) := ⟨fun _ => rfl, fun _ _ _ a b => Eq.trans b a⟩
def tGt (L : Ly) (Rl : L2.St → L2.St → Prop) (gm : GM) : TG := fun v σ H Q => ∃ Kp F ρ g d k, EnvR L F H ρ σ g ∧ Rep L F H d v k ∧ Good Kp F H (fadd g k) ∧ ∃ ρ', gm d ρ = some ρ' ∧ ∀ σ' g', EnvR L F H ρ' σ' g' → Good Kp F H g' → Rl σ σ' → Q σ' H
def tGs (L : Ly) (Rl : L2.St → L2.St → Prop) (gm : GsM) : TGs := fun vs σ H Q => ∃ Kp F ρ g ds k, EnvR L F H ρ σ g ∧ Reps L F H ds vs k ∧ Good Kp F H (fadd g k) ∧ ∃ ρ', gm ds ρ = some ρ' ∧ ∀ σ' g', EnvR L F H ρ' σ' g' → Good Kp F H g' → Rl σ σ' → Q σ' H

section
variable {X : Cx} {L : Ly} {W : WX} {S : List Nat} {a b c e : Expr} {es : List Expr} {st : Stmt} {rest body : List Stmt} {pos : Pos} {fa fb : EM} {tc : TM} {m m' : SM} {gm : GM} {gs : GsM} {Rl : L2.St → L2.St → Prop}
theorem EnvR.put' {F : AP} {H : Hp} {ρ : Env} {σ : L2.St} {f : Fp} {i : Nat} {d : D} {v : V} {g : Fp} (E : EnvR L F H ρ σ f) (r : Rep L F H d v g) : ∃ f', EnvR L F H (ρ.set i (some d)) (σ.set i (some v)) f' ∧ ∀ a, f' a ≤ f a + g a := by
  by_cases hi : i < ρ.length
  · exact E.put hi r
  · have h1 : ρ.length ≤ i := Nat.le_of_not_lt hi
    rw [List.set_eq_of_length_le h1, List.set_eq_of_length_le (by rw [← E.length]; exact h1)]
    exact ⟨f, E, fun _ => Nat.le_add_right _ _⟩
theorem sss_nil : PSs X [] (tS L W S nxM) := pss_nil.imp fun D σ H ⟨Kp, F, ρ, g, E, G, p⟩ => p F H σ g E G Stp.refl KeepS.refl
theorem imp_seq : ∀ D σ H, tS L W S (seqM m m') D σ H → tSeq (tS L W S m) (tS L W S m') D σ H := fun D σ H ⟨Kp, F, ρ, g, E, G, p⟩ => by
  refine ⟨Kp, F, ρ, g, E, G, ?_⟩
  unfold seqM at p
  cases e : m ρ with
  | nx ρ1 => rw [e] at p; exact fun F' H' σ' f E' G' s' k' => ⟨Kp, F', ρ1, f, E', G', p.from s' k'⟩
  | rt d ρ1 => rw [e] at p; exact p
  | bk ρ1 => rw [e] at p; exact p
  | ct ρ1 => rw [e] at p; exact p
  | exc x ρ1 => rw [e] at p; exact p
  | bad => rw [e] at p; exact p
theorem sss_cons (h1 : PS X st (tS L W S m)) (h2 : PSs X rest (tS L W S m')) : PSs X (st :: rest) (tS L W S (seqM m m')) := (pss_cons h1 h2).imp imp_seq
theorem sss_one (h1 : PS X st (tS L W S m)) : PSs X [st] (tS L W S m) := pss_one h1
theorem ss_pass : PS X (.Pass pos) (tS L W S nxM) := ps_pass.imp fun D σ H ⟨Kp, F, ρ, g, E, G, p⟩ => p F H σ g E G Stp.refl KeepS.refl
theorem ss_break : PS X (.Break pos) (tS L W S bkM) := ps_break.imp fun D σ H ⟨Kp, F, ρ, g, E, G, p⟩ => p F H σ g E G Stp.refl KeepS.refl
theorem ss_continue : PS X (.Continue pos) (tS L W S ctM) := ps_continue.imp fun D σ H ⟨Kp, F, ρ, g, E, G, p⟩ => p F H σ g E G Stp.refl KeepS.refl
/-- an expression, then the rest of its statement -/
theorem dS {Kp F : AP} {ρ : Env} {g : Fp} {σ : L2.St} {H : Hp} {Z : Ends} {k : D → Env → SR} {Q : VK} (E : EnvR L F H ρ σ g) (G : Good Kp F H g) (p : PostS L W S Kp F H σ Z ((fa ρ).then k))
    (hk : ∀ d ρ1 F1 H1 g1 v k1, EnvR L F1 H1 ρ1 σ g1 → Rep L F1 H1 d v k1 → Good Kp F1 H1 (fadd g1 k1) → PostS L W S Kp F1 H1 σ Z (k d ρ1) → Q v H1) : tD L W fa σ H Q := by
  refine ⟨Kp, F, ρ, g, E, G, ?_⟩
  cases e : fa ρ with
  | bad => rw [e] at p; exact p
  | exc x ρ1 => rw [e] at p; exact fun F' H' f cls d0 E' G' s' hx => p F' H' σ f cls d0 E' G' s' KeepS.refl hx
  | ok d ρ1 => rw [e] at p; exact fun F1 H1 g1 E1 s1 v k1 r1 G1 => hk d ρ1 F1 H1 g1 v k1 E1 r1 G1 (p.from s1 KeepS.refl)
theorem dT {Kp F : AP} {ρ : Env} {g : Fp} {σ : L2.St} {H : Hp} {Z : Ends} {k : Bool → Env → SR} {Q : Bool → Hp → Prop} (E : EnvR L F H ρ σ g) (G : Good Kp F H g) (p : PostS L W S Kp F H σ Z ((tc ρ).then k))
    (hk : ∀ d ρ1 F1 H1 g1, EnvR L F1 H1 ρ1 σ g1 → Good Kp F1 H1 g1 → PostS L W S Kp F1 H1 σ Z (k d ρ1) → Q d H1) : tT L W tc σ H Q := by
  refine ⟨Kp, F, ρ, g, E, G, ?_⟩
  cases e : tc ρ with
  | bad => rw [e] at p; exact p
  | exc x ρ1 => rw [e] at p; exact fun F' H' f cls d0 E' G' s' hx => p F' H' σ f cls d0 E' G' s' KeepS.refl hx
  | ok d ρ1 =>
    rw [e] at p
    intro F1 H1 g1 E1 s1 b k1 r1 G1
    obtain ⟨rfl, rfl⟩ := r1
    rw [fadd_f0] at G1
    exact hk b ρ1 F1 H1 g1 E1 G1 (p.from s1 KeepS.refl)
theorem ss_if (hc : PT X c (tT L W tc)) (ha : PSs X body (tS L W S m)) (hb : PSs X rest (tS L W S m')) : PS X (.If c body rest pos) (tS L W S (ifM tc m m')) := (ps_if hc ha hb).imp fun D σ H ⟨Kp, F, ρ, g, E, G, p⟩ =>
  dT (L := L) E G p fun k ρ1 F1 H1 g1 E1 G1 p1 => by
    cases k with
    | true => exact ⟨Kp, F1, ρ1, g1, E1, G1, p1⟩
    | false => exact ⟨Kp, F1, ρ1, g1, E1, G1, p1⟩
theorem ss_ret (h : PE X e (tD L W fa)) : PS X (.Return (some e) pos) (tS L W S (retM fa)) := (ps_ret h).imp fun D σ H ⟨Kp, F, ρ, g, E, G, p⟩ =>
  dS (L := L) E G p fun d ρ1 F1 H1 g1 v k1 E1 r1 G1 p1 => p1 F1 H1 σ g1 v k1 E1 r1 G1 Stp.refl KeepS.refl
theorem ss_retN : PS X (.Return none pos) (tS L W S retN) := ps_retN.imp fun D σ H ⟨Kp, F, ρ, g, E, G, p⟩ => p F H σ g .non f0 E ⟨rfl, rfl⟩ (by rw [fadd_f0]; exact G) Stp.refl KeepS.refl
theorem ss_expr (h : PE X e (tD L W fa)) (hs : swapsWith e none pos.line X.env = pure false := by rfl) : PS X (.Expr e pos) (tS L W S (exprM fa)) := (ps_expr h hs).imp fun D σ H ⟨Kp, F, ρ, g, E, G, p⟩ =>
  dS (L := L) E G p fun d ρ1 F1 H1 g1 v k1 E1 r1 G1 p1 => p1 F1 H1 σ g1 E1 (G1.le le_l) Stp.refl KeepS.refl
theorem keep_nm {i : Nat} (h : i ∉ S) : ∀ (σ : L2.St) (y : Option V), KeepS S σ (List.set σ i y) := fun _ _ => KeepS.set h
theorem imp_set {i : Nat} (hi : i ∉ S) : ∀ D σ H, tS L W S (setM i fa) D σ H → tAsg (tD L W fa) (gName i) D σ H := fun D σ H ⟨Kp, F, ρ, g, E, G, p⟩ =>
  dS (L := L) E G p fun d ρ1 F1 H1 g1 v k1 E1 r1 G1 p1 => by
    obtain ⟨f', e1, e2⟩ := E1.put' (i := i) r1
    exact p1 F1 H1 _ f' e1 (G1.le fun a => e2 a) Stp.refl (KeepS.set hi)
theorem ss_set {i : Nat} {x : Str} {pos' : Pos} (hS : i ∉ S) (hN : X.N.Nodup) (hi : X.N[i]? = some x) (hx : Loc X.env.scope x) (he : PE X e (tD L W fa)) (hs : swapsWith e (some (.Name x pos')) pos.line X.env = pure false := by rfl) (hf : X.fn x = true ∨ X.env.scope.names.lookup x = some .local := by first | exact .inl rfl | exact .inr rfl | assumption) :
    PS X (.Assign [.Name x pos'] e pos) (tS L W S (setM i fa)) := (ps_set hN hi hx he hs hf).imp (imp_set hS)
theorem ss_aug {i : Nat} {x : Str} {pos' : Pos} {o : Operator} {op : Int → Int → Int} (hS : i ∉ S) (ho : PIp X o (ipI op)) (hN : X.N.Nodup) (hi : X.N[i]? = some x) (hx : Loc X.env.scope x) (he : PE X e (tD L W fa)) (hf : X.fn x = true ∨ X.env.scope.names.lookup x = some .local := by first | exact .inl rfl | exact .inr rfl | assumption) :
    PS X (.AugAssign (.Name x pos') o e pos) (tS L W S (augM op i fa)) := (ps_aug hN hi hx he ho hf).imp fun D σ H ⟨Kp, F, ρ, g, E, G, p⟩ => by
  unfold augM at p
  cases e0 : ρ.at i with
  | none => rw [e0] at p; exact p.elim
  | some d0 =>
    rw [e0] at p
    cases d0 with
    | int a =>
      obtain ⟨v0, k0, h1, r0⟩ := E.look e0
      refine ⟨v0, h1, dS (L := L) E G p fun d ρ1 F1 H1 g1 v k1 E1 r1 G1 p1 => ?_⟩
      cases d with
      | int b =>
        obtain ⟨f', e1, e2⟩ := E1.put' (i := i) (d := .int (op a b)) (v := .int (op a b)) (g := f0) ⟨rfl, rfl⟩
        exact ⟨a, b, r0.1, r1.1, p1 F1 H1 _ f' e1 (G1.le fun x => by have := e2 x; rw [f0_at] at this; rw [fadd_at]; omega) Stp.refl (KeepS.set hS)⟩
      | _ => exact p1.elim
    | _ => exact p.elim
theorem _root_.L2.PG.imp {e : Expr} {t t' : TG} (h : PG X e t) (w : ∀ v σ H Q, t' v σ H Q → t v σ H Q) : PG X e t' := ⟨fun pins s σ H v u Q I r q => h.run pins s σ H v u Q I r (w v σ H Q q)⟩
theorem _root_.L2.PGs.imp {e : List Expr} {t t' : TGs} (h : PGs X e t) (w : ∀ v σ H Q, t' v σ H Q → t v σ H Q) : PGs X e t' := ⟨fun pins s σ H v u Q I r q => h.run pins s σ H v u Q I r (w v σ H Q q)⟩
theorem sg_nm {i : Nat} {x : Str} (hS : ∀ σ y, Rl σ (List.set σ i y)) (hN : X.N.Nodup) (hi : X.N[i]? = some x) (hx : Loc X.env.scope x) (hf : X.fn x = true ∨ X.env.scope.names.lookup x = some .local := by first | exact .inl rfl | exact .inr rfl | assumption) : PG X (.Name x pos) (tGt L Rl (nmG i)) :=
  L2.PG.imp (pg_name hN hi hx hf) fun v σ H Q ⟨Kp, F, ρ, g, d, k, E, r, G, ρ', e, q⟩ => by
    obtain rfl := Option.some.inj e
    obtain ⟨f', e1, e2⟩ := E.put' (i := i) r
    exact q _ f' e1 (G.le fun a => e2 a) (hS _ _)
theorem sgs_nil (R : RlOk Rl) : PGs X [] (tGs L Rl nilG) := L2.PGs.imp pgs_nil fun vs σ H Q ⟨Kp, F, ρ, g, ds, k, E, r, G, ρ', e, q⟩ => by
  cases ds with
  | nil =>
    obtain rfl := Option.some.inj e
    exact ⟨r.1, q σ g E (G.le le_l) (R.refl σ)⟩
  | cons d ds => exact nomatch e
theorem sgs_cons (R : RlOk Rl) (h1 : PG X e (tGt L Rl gm)) (h2 : PGs X es (tGs L Rl gs)) (hs : (assignEach (e :: es) X.env).map (·.2) = assign e X.env :: (assignEach es X.env).map (·.2) := by rfl) : PGs X (e :: es) (tGs L Rl (consG gm gs)) :=
  L2.PGs.imp (pgs_cons h1 h2 hs) fun vs σ H Q ⟨Kp, F, ρ, g, ds, k, E, r, G, ρ', e, q⟩ => by
    cases ds with
    | nil => exact nomatch e
    | cons d ds =>
      obtain ⟨v, ws, k1, k2, rfl, ek, r1, r2⟩ := r
      obtain ⟨ρ1, e1, e2⟩ := Option.bind_eq_some_iff.mp e
      refine ⟨v, ws, rfl, ?_⟩
      have G' : Good (plus Kp k2) F H (fadd g k1) := Good.split (g := k2) (G.le fun a => by rw [ek, fadd_at, fadd_at, fadd_at, fadd_at]; omega)
      refine ⟨plus Kp k2, F, ρ, g, d, k1, E, r1, G', ρ1, e1, fun σ1 g1 E1 G1 s1 => ?_⟩
      have G2 : Good Kp F H (fadd g1 k2) := Good.join (f := fadd g k1) (G.le fun a => by rw [ek, fadd_at, fadd_at, fadd_at, fadd_at]; omega) Stp.refl G1
      exact ⟨Kp, F, ρ1, g1, ds, k2, E1, r2, G2, ρ', e2, fun σ2 g2 E2 G2 s2 => q σ2 g2 E2 G2 (R.trans _ _ _ s1 s2)⟩
theorem sg_tup {n j : Nat} (hL : L.K = X.K) (hc : X.calm = true) (h : PGs X es (tGs L Rl gs)) (hn : (assignEach es X.env).length = n := by rfl) (hst : (assignEach es X.env).findIdx? (·.1) = none := by rfl) : PG X (.Tuple es j pos) (tGt L Rl (tupG n gs)) :=
  L2.PG.imp (pg_tup hc h hn hst) fun v σ H Q ⟨Kp, F, ρ, g, d, k, E, r, G, ρ', e, q⟩ => by
    cases d with
    | tup ds =>
      obtain ⟨a, vs, rfl, sq, r⟩ := r
      by_cases hl : ds.length = n
      · simp only [tupG, if_pos hl] at e
        exact ⟨a, vs, rfl, by rw [← hL]; exact SqT.of sq, r.length.symm.trans hl, Kp, F, ρ, g, ds, k, E, r, G, ρ', e, q⟩
      · simp only [tupG, if_neg hl] at e
        exact nomatch e
    | _ => exact nomatch e
theorem sg_lst {n j : Nat} (hL : L.K = X.K) (hc : X.calm = true) (h : PGs X es (tGs L Rl gs)) (hn : (assignEach es X.env).length = n := by rfl) (hst : (assignEach es X.env).findIdx? (·.1) = none := by rfl) : PG X (.Tuple es j pos) (tGt L Rl (lstG n gs)) :=
  L2.PG.imp (pg_lst hc h hn hst) fun v σ H Q ⟨Kp, F, ρ, g, d, k, E, r, G, ρ', e, q⟩ => by
    cases d with
    | lst o ds =>
      cases o with
      | true => exact nomatch e
      | false =>
        obtain ⟨a, vs, rfl, sq, r⟩ := r
        by_cases hl : ds.length = n
        · simp only [lstG, if_pos hl] at e
          exact ⟨a, vs, rfl, by rw [← hL]; exact SqL.of sq.1, r.length.symm.trans hl, Kp, F, ρ, g, ds, k, E, r, G, ρ', e, q⟩
        · simp only [lstG, if_neg hl] at e
          exact nomatch e
    | _ => exact nomatch e
theorem ss_asg (he : PE X e (tD L W fa)) (hg : PG X a (tGt L (KeepS S) gm)) (hs : swapsWithSole [a] e pos.line X.env = pure false := by rfl) (hw : swappedStores [a] e X.env = pure none := by rfl)
    (h1 : (assignEach [a] X.env).map (·.2) = [assign a X.env] := by rfl) : PS X (.Assign [a] e pos) (tS L W S (asgM gm fa)) := (ps_asg he hg hs hw h1).imp fun D σ H ⟨Kp, F, ρ, g, E, G, p⟩ =>
  dS (L := L) E G p fun d ρ1 F1 H1 g1 v k1 E1 r1 G1 p1 => by
    cases e1 : gm d ρ1 with
    | none => simp only [e1] at p1; exact p1.elim
    | some ρ2 =>
      simp only [e1] at p1
      exact ⟨Kp, F1, ρ1, g1, d, k1, E1, r1, G1, ρ2, e1, fun σ' g' E' G' s' => p1 F1 H1 σ' g' E' G' Stp.refl s'⟩
/-- a, b = e1, e2 -/
def parM (i j : Nat) (q : AM) : SM := fun ρ => (q ρ).then fun as ρ1 => match as with
  | [.val d, .val d'] => .nx ((ρ1.set i (some d)).set j (some d'))
  | _ => .bad

/-! ### loops -/
def forL (gm : GM) (m : SM) : List D → Env → SR
  | [], ρ => .nx ρ
  | d :: ds, ρ => match gm d ρ with
    | none => .bad
    | some ρ1 => match m ρ1 with
      | .nx ρ2 => forL gm m ds ρ2
      | .ct ρ2 => forL gm m ds ρ2
      | .bk ρ2 => .nx ρ2
      | .rt d ρ2 => .rt d ρ2
      | .exc e ρ2 => .exc e ρ2
      | .bad => .bad
/-- what J walks are the data ds, as long as hold -/
structure Src (L : Ly) (J : It) (hold : AP → Hp → Prop) (ds : List D) : Prop where
  go : ∀ F H i, hold F H → i < ds.length → J.go i H
  yld : ∀ F H i x H', hold F H → J.yld i H x H' → Same H H' ∧ ∀ d, ds[i]? = some d → ∃ k, Rep L F H' d x k ∧ New H H' k
  stop : ∀ F H, hold F H → J.stop ds.length H
/-- what an outcome asks while hold, kt are held -/
def PostH (L : Ly) (W : WX) (S : List Nat) (Kp F : AP) (H : Hp) (σ : L2.St) (D : Ends) (hold : AP → Hp → Prop) (kt : Fp) (r : SR) : Prop := match r with
  | .nx ρ => ∀ F' H' σ' f, EnvR L F' H' ρ σ' f → Good Kp F' H' (fadd f kt) → hold F' H' → Stp Kp F H F' H' → KeepS S σ σ' → D.nx σ' H'
  | .bk ρ => ∀ F' H' σ' f, EnvR L F' H' ρ σ' f → Good Kp F' H' (fadd f kt) → hold F' H' → Stp Kp F H F' H' → KeepS S σ σ' → D.bk σ' H'
  | .ct ρ => ∀ F' H' σ' f, EnvR L F' H' ρ σ' f → Good Kp F' H' (fadd f kt) → hold F' H' → Stp Kp F H F' H' → KeepS S σ σ' → D.ct σ' H'
  | .rt d ρ => ∀ F' H' σ' f v g, EnvR L F' H' ρ σ' f → Rep L F' H' d v g → Good Kp F' H' (fadd (fadd f g) kt) → hold F' H' → Stp Kp F H F' H' → KeepS S σ σ' → D.rt v H'
  | .exc e ρ => ∀ F' H' σ' f cls d0, EnvR L F' H' ρ σ' f → Good Kp F' H' (fadd f kt) → hold F' H' → Stp Kp F H F' H' → KeepS S σ σ' → ExR L F' H' e cls d0 → W cls d0 σ' H'
  | .bad => False
theorem PostS.held {Kp F : AP} {H : Hp} {σ : L2.St} {D : Ends} {hold : AP → Hp → Prop} {kt : Fp} {r : SR} (h : PostS L W S Kp F H σ D r) : PostH L W S Kp F H σ D hold kt r := by
  cases r with
  | nx ρ => exact fun F' H' σ' f e g _ s k => h F' H' σ' f e (g.le le_l) s k
  | bk ρ => exact fun F' H' σ' f e g _ s k => h F' H' σ' f e (g.le le_l) s k
  | ct ρ => exact fun F' H' σ' f e g _ s k => h F' H' σ' f e (g.le le_l) s k
  | rt d ρ => exact fun F' H' σ' f v g e r g' _ s k => h F' H' σ' f v g e r (g'.le le_l) s k
  | exc e ρ => exact fun F' H' σ' f cls d0 e g _ s k x => h F' H' σ' f cls d0 e (g.le le_l) s k x
  | bad => exact h
theorem PostH.from {Kp F F1 : AP} {H H1 : Hp} {σ σ1 : L2.St} {D : Ends} {hold : AP → Hp → Prop} {kt : Fp} {r : SR} (h : PostH L W S Kp F H σ D hold kt r) (s : Stp Kp F H F1 H1) (k : KeepS S σ σ1) : PostH L W S Kp F1 H1 σ1 D hold kt r := by
  cases r with
  | nx ρ => exact fun F' H' σ' f e g hh s' k' => h F' H' σ' f e g hh (s.trans s' fun _ x => x) (k.trans k')
  | bk ρ => exact fun F' H' σ' f e g hh s' k' => h F' H' σ' f e g hh (s.trans s' fun _ x => x) (k.trans k')
  | ct ρ => exact fun F' H' σ' f e g hh s' k' => h F' H' σ' f e g hh (s.trans s' fun _ x => x) (k.trans k')
  | rt d ρ => exact fun F' H' σ' f v g e r g' hh s' k' => h F' H' σ' f v g e r g' hh (s.trans s' fun _ x => x) (k.trans k')
  | exc e ρ => exact fun F' H' σ' f cls d0 e g hh s' k' x => h F' H' σ' f cls d0 e g hh (s.trans s' fun _ x => x) (k.trans k') x
  | bad => exact h
theorem for_coreH {J : It} {ds : List D} {Kp F : AP} {ρ : Env} {σ : L2.St} {H : Hp} {g kt : Fp} {D : Ends} (hold : AP → Hp → Prop) (sr : Src L J hold ds) (hs : ∀ F H F' H', hold F H → Stp (plus Kp kt) F H F' H' → hold F' H')
    (h0 : hold F H) (E : EnvR L F H ρ σ g) (G : Good Kp F H (fadd g kt)) (p : PostH L W S Kp F H σ D hold kt (forL gm m ds ρ)) :
    ∃ Wv : Nat → Nat → L2.St → Hp → Prop, (∃ n, Wv 0 n σ H) ∧ ∀ i n σ H, Wv i n σ H → (J.stop i H ∧ D.nx σ H) ∨ (J.go i H ∧ ∃ N : L2.St → Hp → Prop, (∀ σ' H', N σ' H' → ∃ n', n' < n ∧ Wv (i + 1) n' σ' H') ∧
      ∀ x H', J.yld i H x H' → tGt L (KeepS S) gm x σ H' fun σ2 H2 => tS L W S m { D with nx := N, ct := N, bk := D.nx } σ2 H2) := by
  refine ⟨fun i n σ H => n = ds.length - i ∧ i ≤ ds.length ∧ ∃ F ρ g, EnvR L F H ρ σ g ∧ Good Kp F H (fadd g kt) ∧ hold F H ∧ PostH L W S Kp F H σ D hold kt (forL gm m (ds.drop i) ρ),
    ⟨ds.length, by simp, Nat.zero_le _, F, ρ, g, E, G, h0, by simpa using p⟩, ?_⟩
  rintro i n σ H ⟨rfl, hi, F, ρ, g, E, G, h, p⟩
  by_cases hlt : i < ds.length
  · refine .inr ⟨sr.go F H i h hlt, fun σ' H' => ∃ F' ρ' g', EnvR L F' H' ρ' σ' g' ∧ Good Kp F' H' (fadd g' kt) ∧ hold F' H' ∧ PostH L W S Kp F' H' σ' D hold kt (forL gm m (ds.drop (i + 1)) ρ'), fun σ' H' hN => ⟨ds.length - (i + 1), by omega, rfl, hlt, hN⟩, ?_⟩
    intro x H' hy
    obtain ⟨s1, q⟩ := sr.yld F H i x H' h hy
    have hd : ds[i]? = some ds[i] := List.getElem?_eq_getElem hlt
    obtain ⟨k, r1, n1⟩ := q _ hd
    rw [List.drop_eq_getElem_cons hlt] at p
    cases eg : gm ds[i] ρ with
    | none => simp only [forL, eg] at p; exact p.elim
    | some ρ1 =>
      simp only [forL, eg] at p
      have E1 := E.same s1
      have G1 : Good Kp F H' (fadd (fadd g kt) k) := G.new s1 n1
      have G1' : Good (plus Kp kt) F H' (fadd g k) := Good.split (g := kt) (G1.le fun a => by rw [fadd_at, fadd_at, fadd_at, fadd_at]; omega)
      refine ⟨plus Kp kt, F, ρ, g, ds[i], k, E1, r1, G1', ρ1, eg, fun σ2 g2 E2 G2 ks => ?_⟩
      have h' : hold F H' := hs F H F H' h (Stp.same s1)
      have G1j : Good Kp F H' (fadd (fadd g k) kt) := G1.le fun a => by rw [fadd_at, fadd_at, fadd_at, fadd_at]; omega
      have jn : ∀ {F' : AP} {H2 : Hp} {g' : Fp}, Stp (plus Kp kt) F H' F' H2 → Good (plus Kp kt) F' H2 g' → Good Kp F' H2 (fadd g' kt) := fun s g => G1j.join s g
      have st : ∀ {F' : AP} {H2 : Hp}, Stp (plus Kp kt) F H' F' H2 → Stp Kp F H F' H2 := fun s => (Stp.same s1).trans s.plus fun _ y => y
      refine ⟨plus Kp kt, F, ρ1, g2, E2, G2, ?_⟩
      have again : ∀ {ρ2 : Env}, PostH L W S Kp F H σ D hold kt (forL gm m (ds.drop (i + 1)) ρ2) → ∀ (F' : AP) (H2 : Hp) (σ' : L2.St) (f : Fp), EnvR L F' H2 ρ2 σ' f → Good (plus Kp kt) F' H2 f → Stp (plus Kp kt) F H' F' H2 → KeepS S σ2 σ' →
          ∃ F' ρ' g', EnvR L F' H2 ρ' σ' g' ∧ Good Kp F' H2 (fadd g' kt) ∧ hold F' H2 ∧ PostH L W S Kp F' H2 σ' D hold kt (forL gm m (ds.drop (i + 1)) ρ') := fun {ρ2} p F' H2 σ' f E' G' s' k' =>
        ⟨F', ρ2, f, E', jn s' G', hs F H' F' H2 h' s', p.from (st s') (ks.trans k')⟩
      cases em : m ρ1 with
      | nx ρ2 => simp only [em] at p; exact again p
      | ct ρ2 => simp only [em] at p; exact again p
      | bk ρ2 => simp only [em] at p; exact fun F' H2 σ' f E' G' s' k' => p F' H2 σ' f E' (jn s' G') (hs F H' F' H2 h' s') (st s') (ks.trans k')
      | rt d ρ2 => simp only [em] at p; exact fun F' H2 σ' f v g' E' r' G' s' k' => p F' H2 σ' f v g' E' r' (jn s' G') (hs F H' F' H2 h' s') (st s') (ks.trans k')
      | exc x ρ2 => simp only [em] at p; exact fun F' H2 σ' f cls d0 E' G' s' k' hx => p F' H2 σ' f cls d0 E' (jn s' G') (hs F H' F' H2 h' s') (st s') (ks.trans k') hx
      | bad => simp only [em] at p; exact p
  · have e : i = ds.length := by omega
    subst e
    rw [List.drop_length] at p
    exact .inl ⟨sr.stop F H h, p F H σ g E G h Stp.refl KeepS.refl⟩
theorem for_core {J : It} {ds : List D} {Kp F : AP} {ρ : Env} {σ : L2.St} {H : Hp} {g kt : Fp} {D : Ends} (hold : AP → Hp → Prop) (sr : Src L J hold ds) (hs : ∀ F H F' H', hold F H → Stp (plus Kp kt) F H F' H' → hold F' H')
    (h0 : hold F H) (E : EnvR L F H ρ σ g) (G : Good Kp F H (fadd g kt)) (p : PostS L W S Kp F H σ D (forL gm m ds ρ)) :
    ∃ Wv : Nat → Nat → L2.St → Hp → Prop, (∃ n, Wv 0 n σ H) ∧ ∀ i n σ H, Wv i n σ H → (J.stop i H ∧ D.nx σ H) ∨ (J.go i H ∧ ∃ N : L2.St → Hp → Prop, (∀ σ' H', N σ' H' → ∃ n', n' < n ∧ Wv (i + 1) n' σ' H') ∧
      ∀ x H', J.yld i H x H' → tGt L (KeepS S) gm x σ H' fun σ2 H2 => tS L W S m { D with nx := N, ct := N, bk := D.nx } σ2 H2) := for_coreH hold sr hs h0 E G p.held
end
end VL
end
section
set_option Elab.async false
set_option linter.all false
set_option maxRecDepth 100000
namespace VL
open PySem L2

/-! ### what is walked, by data: the data held, the items -/
/-- a source: from the outcome of an expression to the items; what it holds stays held through the walk -/
def itL : D → Option (List D)
  | .lst _ ds => if froL ds = true then some ds else none
  | _ => none
def itT : D → Option (List D)
  | .tup ds => if froL ds = true then some ds else none
  | _ => none
def enumD : Nat → List D → List D
  | _, [] => []
  | i, d :: ds => .tup [.int (i : Nat), d] :: enumD (i + 1) ds
def itE : D → Option (List D)
  | .lst _ ds => if froL ds = true then some (enumD 0 ds) else none
  | _ => none
def rngD (lo : Int) (n : Nat) : List D := (List.range n).map fun i => .int (lo + (i : Nat))
def rngC (lo c : Int) (n : Nat) : List D := (List.range n).map fun i => .int (lo + (i : Nat) * c)
theorem Reps.get {L : Ly} {F : AP} {H : Hp} : ∀ {ds : List D} {vs : List V} {f : Fp} {i : Nat} {d : D}, Reps L F H ds vs f → ds[i]? = some d → ∃ v g, vs[i]? = some v ∧ Rep L F H d v g ∧ ∀ a, g a ≤ f a
  | [], _, _, i, d, _, h => by simp at h
  | d0 :: ds, _, _, 0, d, ⟨v, ws, g, h, e, ef, r1, r2⟩, hd => by
      have e0 : d0 = d := by simpa using hd
      subst e0
      exact ⟨v, g, by rw [e]; rfl, r1, fun a => by rw [ef, fadd_at]; omega⟩
  | d0 :: ds, _, _, i + 1, d, ⟨v, ws, g, h, e, ef, r1, r2⟩, hd => by
      obtain ⟨v', g', h1, h2, h3⟩ := Reps.get (i := i) r2 (by simpa using hd)
      exact ⟨v', g', by rw [e]; simpa using h1, h2, fun a => by have := h3 a; rw [ef, fadd_at]; omega⟩
theorem froL_get : ∀ {ds : List D} {i : Nat} {d : D}, froL ds = true → ds[i]? = some d → d.fro = true
  | [], i, d, _, h => by simp at h
  | d0 :: ds, 0, d, q, h => by
      have e0 : d0 = d := by simpa using h
      subst e0
      have : d0.fro = true ∧ froL ds = true := by simpa [froL] using q
      exact this.1
  | d0 :: ds, i + 1, d, q, h => by
      have : d0.fro = true ∧ froL ds = true := by simpa [froL] using q
      exact froL_get (i := i) this.2 (by simpa using h)
theorem Reps.get0 {L : Ly} {F : AP} {H : Hp} {ds : List D} {vs : List V} {f : Fp} {i : Nat} {d : D} (r : Reps L F H ds vs f) (q : froL ds = true) (h : ds[i]? = some d) : ∃ v, vs[i]? = some v ∧ Rep L F H d v f0 := by
  obtain ⟨v, g, h1, h2, _⟩ := r.get h
  have := Rep.fro0 d (froL_get q h) h2
  subst this
  exact ⟨v, h1, h2⟩
theorem get_lt {ds : List D} {vs : List V} {i : Nat} (h : ds.length = vs.length) (hi : i < ds.length) : ∃ x, vs[i]? = some x := ⟨_, List.getElem?_eq_getElem (h ▸ hi)⟩
theorem Rep.list {L : Ly} {F : AP} {H : Hp} {o : Bool} {ds : List D} {v : V} {k : Fp} (r : Rep L F H (.lst o ds) v k) : ∃ a vs g, v = .ref a ∧ SqL L.K H a vs ∧ Reps L F H ds vs g := by
  cases o with
  | true => obtain ⟨a, vs, g, e, q, _, r⟩ := r; exact ⟨a, vs, g, e, SqL.of q, r⟩
  | false => obtain ⟨a, vs, e, q, r⟩ := r; exact ⟨a, vs, _, e, SqL.of q.1, r⟩
section
variable {L : Ly} {d : D} {ds : List D} {a : Addr} {k : Fp}
theorem src_list (h : itL d = some ds) : Src L (Itl L.K a) (fun F H => Rep L F H d (.ref a) k) ds := by
  cases d with
  | lst o es =>
    by_cases q : froL es = true
    · simp only [itL, if_pos q] at h
      obtain rfl := Option.some.inj h
      refine ⟨fun F H i r hi => ?_, fun F H i x H' r hy => ?_, fun F H r => ?_⟩
      · obtain ⟨b, vs, g, e, sq, r⟩ := r.list
        obtain rfl := V.ref.inj e
        obtain ⟨x, hx⟩ := get_lt r.length hi
        exact ⟨vs, x, sq, hx⟩
      · obtain ⟨rfl, hy⟩ := hy
        obtain ⟨b, vs, g, e, sq, r⟩ := r.list
        obtain rfl := V.ref.inj e
        refine ⟨Same.refl _, fun d hd => ?_⟩
        obtain ⟨v, h1, h2⟩ := r.get0 q hd
        have ev := (hy vs sq).symm.trans h1
        obtain rfl := Option.some.inj ev
        exact ⟨f0, h2, New.zero⟩
      · obtain ⟨b, vs, g, e, sq, r⟩ := r.list
        obtain rfl := V.ref.inj e
        exact ⟨vs, sq, Nat.le_of_eq r.length.symm⟩
    · simp only [itL, if_neg q] at h
      exact nomatch h
  | _ => exact nomatch h
theorem src_tup (h : itT d = some ds) : Src L (Itt L.K a) (fun F H => Rep L F H d (.ref a) k) ds := by
  cases d with
  | tup es =>
    by_cases q : froL es = true
    · simp only [itT, if_pos q] at h
      obtain rfl := Option.some.inj h
      refine ⟨fun F H i r hi => ?_, fun F H i x H' r hy => ?_, fun F H r => ?_⟩
      · obtain ⟨b, vs, e, sq, r⟩ := r
        obtain rfl := V.ref.inj e
        obtain ⟨x, hx⟩ := get_lt r.length hi
        exact ⟨vs, x, SqT.of sq, hx⟩
      · obtain ⟨rfl, hy⟩ := hy
        obtain ⟨b, vs, e, sq, r⟩ := r
        obtain rfl := V.ref.inj e
        refine ⟨Same.refl _, fun d hd => ?_⟩
        obtain ⟨v, h1, h2⟩ := r.get0 q hd
        have ev := (hy vs (SqT.of sq)).symm.trans h1
        obtain rfl := Option.some.inj ev
        exact ⟨f0, h2, New.zero⟩
      · obtain ⟨b, vs, e, sq, r⟩ := r
        obtain rfl := V.ref.inj e
        exact ⟨vs, SqT.of sq, Nat.le_of_eq r.length.symm⟩
    · simp only [itT, if_neg q] at h
      exact nomatch h
  | _ => exact nomatch h
theorem enumD_length : ∀ (ds : List D) (i : Nat), (enumD i ds).length = ds.length
  | [], _ => rfl
  | _ :: ds, i => congrArg (· + 1) (enumD_length ds (i + 1))
theorem enumD_get : ∀ (ds : List D) (j i : Nat) (d : D), (enumD j ds)[i]? = some d → ∃ x, ds[i]? = some x ∧ d = .tup [.int ((j + i : Nat) : Int), x]
  | [], j, i, d, h => by simp [enumD] at h
  | d0 :: ds, j, 0, d, h => by
      have e : D.tup [.int (j : Nat), d0] = d := by simpa [enumD] using h
      exact ⟨d0, rfl, e.symm⟩
  | d0 :: ds, j, i + 1, d, h => by
      obtain ⟨x, h1, h2⟩ := enumD_get ds (j + 1) i d (by simpa [enumD] using h)
      exact ⟨x, by simpa using h1, by rw [h2, show j + 1 + i = j + (i + 1) by omega]⟩
theorem src_enum (h : itE d = some ds) : Src L (Ite L.K a) (fun F H => Rep L F H d (.ref a) k) ds := by
  cases d with
  | lst o es =>
    by_cases q : froL es = true
    · simp only [itE, if_pos q] at h
      obtain rfl := Option.some.inj h
      refine ⟨fun F H i r hi => ?_, fun F H i x H' r hy => ?_, fun F H r => ?_⟩
      · obtain ⟨b, vs, g, e, sq, r⟩ := r.list
        obtain rfl := V.ref.inj e
        obtain ⟨x, hx⟩ := get_lt r.length (by rw [enumD_length] at hi; exact hi)
        exact ⟨vs, x, sq, hx⟩
      · obtain ⟨T, y, rfl, nT, rfl, hy⟩ := hy
        obtain ⟨b, vs, g, e, sq, r⟩ := r.list
        obtain rfl := V.ref.inj e
        refine ⟨same_upd nT, fun d hd => ?_⟩
        obtain ⟨z, h1, rfl⟩ := enumD_get es 0 i d hd
        obtain ⟨v, h2, h3⟩ := r.get0 q h1
        have ev := (hy vs sq).symm.trans h2
        obtain rfl := Option.some.inj ev
        rw [Nat.zero_add]
        exact ⟨f0, ⟨T, _, rfl, upd_same, .int (i : Nat), [y], f0, f0, rfl, rfl, ⟨rfl, rfl⟩, y, [], f0, f0, rfl, rfl, h3.same (same_upd nT), rfl, rfl⟩, New.zero⟩
      · obtain ⟨b, vs, g, e, sq, r⟩ := r.list
        obtain rfl := V.ref.inj e
        exact ⟨vs, sq, by rw [enumD_length]; exact Nat.le_of_eq r.length.symm⟩
    · simp only [itE, if_neg q] at h
      exact nomatch h
  | _ => exact nomatch h
theorem src_rng {lo : Int} {n : Nat} : Src L (Itr lo n) (fun _ _ => True) (rngD lo n) := by
  refine ⟨fun F H i _ hi => by show i < n; simpa [rngD] using hi, fun F H i x H' _ hy => ?_, fun F H _ => by show n ≤ (rngD lo n).length; simp [rngD]⟩
  obtain ⟨rfl, rfl⟩ := hy
  refine ⟨Same.refl _, fun d hd => ?_⟩
  have : i < n ∧ D.int (lo + (i : Nat)) = d := by
    unfold rngD at hd
    rw [List.getElem?_map] at hd
    obtain ⟨j, h1, h2⟩ := Option.map_eq_some_iff.mp hd
    obtain ⟨h3, h4⟩ := List.getElem?_eq_some_iff.mp h1
    rw [List.getElem_range] at h4
    subst h4
    exact ⟨by simpa using h3, h2⟩
  obtain ⟨_, rfl⟩ := this
  exact ⟨f0, ⟨rfl, rfl⟩, New.zero⟩
theorem src_rngC {lo c : Int} {n : Nat} : Src L (Itc lo c n) (fun _ _ => True) (rngC lo c n) := by
  refine ⟨fun F H i _ hi => by show i < n; simpa [rngC] using hi, fun F H i x H' _ hy => ?_, fun F H _ => by show n ≤ (rngC lo c n).length; simp [rngC]⟩
  obtain ⟨rfl, rfl⟩ := hy
  refine ⟨Same.refl _, fun d hd => ?_⟩
  have : i < n ∧ D.int (lo + (i : Nat) * c) = d := by
    unfold rngC at hd
    rw [List.getElem?_map] at hd
    obtain ⟨j, h1, h2⟩ := Option.map_eq_some_iff.mp hd
    obtain ⟨h3, h4⟩ := List.getElem?_eq_some_iff.mp h1
    rw [List.getElem_range] at h4
    subst h4
    exact ⟨by simpa using h3, h2⟩
  obtain ⟨_, rfl⟩ := this
  exact ⟨f0, ⟨rfl, rfl⟩, New.zero⟩
end
/-- range's arguments -/
def inR (j : Int) : Prop := -(2 ^ 62) ≤ j ∧ j < 2 ^ 62
instance : DecidablePred inR := fun j => inferInstanceAs (Decidable (_ ∧ _))
def intsOf : List AV → Option (List Int)
  | [] => some []
  | a :: r => match a with
    | .val d => match d with
      | .int i => (intsOf r).map (i :: ·)
      | _ => none
    | .ld _ => none
def itR1 (as : List AV) : Option (List D) := (intsOf as).bind fun js => match js with
  | [j] => if inR j then some (rngD 0 j.toNat) else none
  | _ => none
def itR2 (as : List AV) : Option (List D) := (intsOf as).bind fun js => match js with
  | [i, j] => if inR i ∧ inR j then some (rngD i (j - i).toNat) else none
  | _ => none
theorem intsOf_vs {L : Ly} {σ : L2.St} {F : AP} {H : Hp} : ∀ {as : List AV} {vs : List V} {k : Fp} {js : List Int}, AReps L σ F H as vs k → intsOf as = some js → vs = js.map V.int
  | [], vs, k, js, ⟨e, _⟩, h => by
    obtain rfl := Option.some.inj h
    rw [e]; rfl
  | .val d :: as, vs, k, js, ⟨v, ws, g, h', e, _, r1, r2⟩, h => by
    cases d with
    | int i =>
      obtain ⟨js', h1, h2⟩ := Option.map_eq_some_iff.mp h
      subst h2
      rw [e, r1.1, intsOf_vs r2 h1]; rfl
    | _ => exact nomatch h
  | .ld i :: as, vs, k, js, _, h => nomatch h

/-! ### for -/
def forM (it : D → Option (List D)) (f : EM) (gm : GM) (m : SM) : SM := fun ρ => (f ρ).then fun d ρ1 => match it d with
  | some ds => forL gm m ds ρ1
  | none => .bad
def forR (it : List AV → Option (List D)) (q : AM) (gm : GM) (m : SM) : SM := fun ρ => (q ρ).then fun as ρ1 => match it as with
  | some ds => forL gm m ds ρ1
  | none => .bad
section
variable {X : Cx} {L : Ly} {W : WX} {S : List Nat} {tg iter e : Expr} {es : List Expr} {body : List Stmt} {pos p : Pos} {fa : EM} {q : AM} {gm : GM} {m : SM}
theorem dA {Kp F : AP} {ρ : Env} {g : Fp} {σ : L2.St} {H : Hp} {Z : Ends} {k : List AV → Env → SR} {Q : List V → Hp → Prop} (E : EnvR L F H ρ σ g) (G : Good Kp F H g) (p : PostS L W S Kp F H σ Z ((q ρ).then k))
    (hk : ∀ d ρ1 F1 H1 g1 v k1, EnvR L F1 H1 ρ1 σ g1 → AReps L σ F1 H1 d v k1 → Good Kp F1 H1 (fadd g1 k1) → PostS L W S Kp F1 H1 σ Z (k d ρ1) → Q v H1) : tA L W q σ H Q := by
  refine ⟨Kp, F, ρ, g, E, G, ?_⟩
  cases e : q ρ with
  | bad => rw [e] at p; exact p
  | exc x ρ1 => rw [e] at p; exact fun F' H' f cls d0 E' G' s' hx => p F' H' σ f cls d0 E' G' s' KeepS.refl hx
  | ok d ρ1 => rw [e] at p; exact fun F1 H1 g1 E1 s1 v k1 r1 G1 => hk d ρ1 F1 H1 g1 v k1 E1 r1 G1 (p.from s1 KeepS.refl)
theorem ss_forL (hL : L.K = X.K) (hp : PassesOwn (model X.prog X.w) X.A X.env X.xe) (hc : X.calm = true) (hi : PE X iter (tD L W fa)) (hg : PG X tg (tGt L (KeepS S) gm)) (hb : PSs X body (tS L W S m))
    (hs : ∀ x, foldedSetIterable iter X.env x = pure x := by intro _; rfl) : PS X (.For tg iter body [] pos) (tS L W S (forM itL fa gm m)) := (ps_for hp hc (pi_list hi) hg hb hs).imp fun D σ H ⟨Kp, F, ρ, g, E, G, p⟩ =>
  dS (L := L) E G p fun d ρ1 F1 H1 g1 v k1 E1 r1 G1 p1 => by
    cases ei : itL d with
    | none => simp only [ei] at p1; exact p1.elim
    | some ds =>
      simp only [ei] at p1
      cases d with
      | lst o es =>
        obtain ⟨a, vs, gg, rfl, sq, _⟩ := r1.list
        refine ⟨a, rfl, ⟨vs, by rw [← hL]; exact sq⟩, ?_⟩
        rw [← hL]
        exact for_core (fun F H => Rep L F H (.lst o es) (.ref a) k1) (src_list ei) (fun F H F' H' r s => r.step s) r1 E1 G1 p1
      | _ => exact nomatch ei
theorem ss_forT (hL : L.K = X.K) (hp : PassesOwn (model X.prog X.w) X.A X.env X.xe) (hc : X.calm = true) (hi : PE X iter (tD L W fa)) (hg : PG X tg (tGt L (KeepS S) gm)) (hb : PSs X body (tS L W S m))
    (hs : ∀ x, foldedSetIterable iter X.env x = pure x := by intro _; rfl) : PS X (.For tg iter body [] pos) (tS L W S (forM itT fa gm m)) := (ps_for hp hc (pi_tup hi) hg hb hs).imp fun D σ H ⟨Kp, F, ρ, g, E, G, p⟩ =>
  dS (L := L) E G p fun d ρ1 F1 H1 g1 v k1 E1 r1 G1 p1 => by
    cases ei : itT d with
    | none => simp only [ei] at p1; exact p1.elim
    | some ds =>
      simp only [ei] at p1
      cases d with
      | tup es =>
        obtain ⟨a, vs, rfl, sq, _⟩ := id r1
        refine ⟨a, rfl, ⟨vs, by rw [← hL]; exact SqT.of sq⟩, ?_⟩
        rw [← hL]
        exact for_core (fun F H => Rep L F H (.tup es) (.ref a) k1) (src_tup ei) (fun F H F' H' r s => r.step s) r1 E1 G1 p1
      | _ => exact nomatch ei
theorem ss_forE {elts : List Expr} {kk : Nat} {tpos : Pos} (hL : L.K = X.K) (hp : PassesOwn (model X.prog X.w) X.A X.env X.xe) (hc : X.calm = true) (hgl : Gl X "enumerate") (hm : X.mg "enumerate" = none) (ha : PE X e (tD L W fa))
    (hg : PG X (.Tuple elts kk tpos) (tGt L (KeepS S) gm)) (hb : PSs X body (tS L W S m)) (hs1 : starEach [e] X.env = [(false, eval e X.env)] := by rfl) (hs2 : starEach (e :: []) X.env = (false, eval e X.env) :: starEach [] X.env := by rfl)
    (hs : ∀ x, foldedSetIterable (.Call (.Name "enumerate" p) [e] [] pos) X.env x = pure x := by intro _; rfl) {fpos : Pos} : PS X (.For (.Tuple elts kk tpos) (.Call (.Name "enumerate" p) [e] [] pos) body [] fpos) (tS L W S (forM itE fa gm m)) :=
  (ps_for hp hc (pi_enum hgl hm (pa_cons ha pa_nil hs2) hs1) hg hb hs).imp fun D σ H ⟨Kp, F, ρ, g, E, G, p⟩ =>
  dS (L := L) E G p fun d ρ1 F1 H1 g1 v k1 E1 r1 G1 p1 => by
    cases ei : itE d with
    | none => simp only [ei] at p1; exact p1.elim
    | some ds =>
      simp only [ei] at p1
      cases d with
      | lst o es =>
        obtain ⟨a, vs, gg, rfl, sq, _⟩ := r1.list
        refine ⟨a, vs, rfl, by rw [← hL]; exact sq, ?_⟩
        rw [← hL]
        exact for_core (fun F H => Rep L F H (.lst o es) (.ref a) k1) (src_enum ei) (fun F H F' H' r s => r.step s) r1 E1 G1 p1
      | _ => exact nomatch ei
theorem ss_forR1 (hp : PassesOwn (model X.prog X.w) X.A X.env X.xe) (hc : X.calm = true) (hgl : Gl X "range") (hm : X.mg "range" = none) (ha : PA X [e] (tA L W q)) (hg : PG X tg (tGt L (KeepS S) gm)) (hb : PSs X body (tS L W S m))
    (hs1 : starEach [e] X.env = [(false, eval e X.env)] := by rfl)
    (hs : ∀ x, foldedSetIterable (.Call (.Name "range" p) [e] [] pos) X.env x = pure x := by intro _; rfl) {fpos : Pos} : PS X (.For tg (.Call (.Name "range" p) [e] [] pos) body [] fpos) (tS L W S (forR itR1 q gm m)) :=
  (ps_for hp hc (pi_range1 hgl hm ha hs1) hg hb hs).imp fun D σ H ⟨Kp, F, ρ, g, E, G, p⟩ =>
    dA (L := L) E G p fun as ρ1 F1 H1 g1 vs k1 E1 r1 G1 p1 => by
      cases ei : itR1 as with
      | none => simp only [ei] at p1; exact p1.elim
      | some ds =>
        simp only [ei] at p1
        obtain ⟨js, e1, e2⟩ := Option.bind_eq_some_iff.mp ei
        have ev := intsOf_vs r1 e1
        match js, e2 with
        | [j], e2 =>
          by_cases hj : inR j
          · simp only [if_pos hj] at e2
            obtain rfl := Option.some.inj e2; exact ⟨j, ev, hj.1, hj.2, for_core (kt := f0) (fun _ _ => True) src_rng (fun _ _ _ _ _ _ => trivial) trivial E1 (by rw [fadd_f0]; exact G1.le le_l) p1⟩
          · simp only [if_neg hj] at e2
            exact nomatch e2
theorem ss_forR2 {e2 : Expr} (hp : PassesOwn (model X.prog X.w) X.A X.env X.xe) (hc : X.calm = true) (hgl : Gl X "range") (hm : X.mg "range" = none) (ha : PA X [e, e2] (tA L W q)) (hg : PG X tg (tGt L (KeepS S) gm)) (hb : PSs X body (tS L W S m))
    (hs1 : starEach [e, e2] X.env = [(false, eval e X.env), (false, eval e2 X.env)] := by rfl) (hs2 : starEach [e2] X.env = [(false, eval e2 X.env)] := by rfl)
    (hs : ∀ x, foldedSetIterable (.Call (.Name "range" p) [e, e2] [] pos) X.env x = pure x := by intro _; rfl) {fpos : Pos} : PS X (.For tg (.Call (.Name "range" p) [e, e2] [] pos) body [] fpos) (tS L W S (forR itR2 q gm m)) :=
  (ps_for hp hc (pi_range2 hgl hm ha hs1 hs2) hg hb hs).imp fun D σ H ⟨Kp, F, ρ, g, E, G, p⟩ =>
    dA (L := L) E G p fun as ρ1 F1 H1 g1 vs k1 E1 r1 G1 p1 => by
      cases ei : itR2 as with
      | none => simp only [ei] at p1; exact p1.elim
      | some ds =>
        simp only [ei] at p1
        obtain ⟨js, e1, e2⟩ := Option.bind_eq_some_iff.mp ei
        have ev := intsOf_vs r1 e1
        match js, e2 with
        | [i, j], e2 =>
          by_cases hj : inR i ∧ inR j
          · simp only [if_pos hj] at e2
            obtain rfl := Option.some.inj e2; exact ⟨i, j, ev, ⟨hj.1.1, hj.1.2, hj.2.1, hj.2.2⟩, for_core (kt := f0) (fun _ _ => True) src_rng (fun _ _ _ _ _ _ => trivial) trivial E1 (by rw [fadd_f0]; exact G1.le le_l) p1⟩
          · simp only [if_neg hj] at e2
            exact nomatch e2
end
end VL
end
section
set_option Elab.async false
set_option linter.all false
set_option maxRecDepth 100000
namespace VL
open PySem L2

section
variable {L : Ly} {Kp F F' : AP} {H H' : Hp}
theorem EnvR.congr : ∀ {ρ : Env} {σ σ' : L2.St} {f : Fp}, EnvR L F H ρ σ f → σ'.length = σ.length → (∀ i d, ρ.at i = some d → σ'[i]? = σ[i]?) → EnvR L F H ρ σ' f
  | [], σ, σ', f, ⟨e, ef⟩, hl, _ => ⟨List.length_eq_zero_iff.mp (by rw [hl, e]; rfl), ef⟩
  | none :: r, σ, [], f, ⟨x, t, e, q⟩, hl, _ => by rw [e] at hl; exact nomatch hl
  | some d :: r, σ, [], f, ⟨v, t, g, h, e, ef, q, x⟩, hl, _ => by rw [e] at hl; exact nomatch hl
  | none :: r, σ, y :: s, f, ⟨x, t, e, q⟩, hl, h => ⟨y, s, rfl, EnvR.congr q (by rw [e] at hl; simpa using hl) fun i d hd => by
      have := h (i + 1) d (by simpa [Env.at] using hd)
      rw [e] at this
      simpa using this⟩
  | some d :: r, σ, y :: s, f, ⟨v, t, g, h0, e, ef, q, x⟩, hl, h => by
      have h1 := h 0 d rfl
      rw [e] at h1
      have ey : y = some v := by simpa using h1
      exact ⟨v, s, g, h0, by rw [ey], ef, q, EnvR.congr x (by rw [e] at hl; simpa using hl) fun i d hd => by
        have := h (i + 1) d (by simpa [Env.at] using hd)
        rw [e] at this
        simpa using this⟩
def wipeE (vs : List Nat) (ρ : Env) : Env := vs.foldr (fun v r => r.set v none) ρ
theorem at_set_none {ρ : Env} {i j : Nat} : Env.at (List.set ρ i none) j = if i = j then none else ρ.at j := by
  unfold Env.at
  by_cases e : i = j
  · subst e
    rw [if_pos rfl]
    by_cases hi : i < ρ.length
    · rw [List.getElem?_set_self hi]; rfl
    · rw [List.getElem?_eq_none (by rw [List.length_set]; omega)]; rfl
  · rw [if_neg e, List.getElem?_set_ne e]
theorem wipeE_at {vs : List Nat} {ρ : Env} {j : Nat} : Env.at (wipeE vs ρ) j = if j ∈ vs then none else ρ.at j := by
  induction vs with
  | nil => simp [wipeE]
  | cons v r ih =>
    show Env.at (List.set (wipeE r ρ) v none) j = _
    rw [at_set_none, ih]
    by_cases e : v = j
    · subst e; simp
    · have e' : ¬ j = v := fun z => e z.symm
      simp [e, e']
theorem EnvR.wipe {ρ : Env} {σ : L2.St} {f : Fp} (E : EnvR L F H ρ σ f) (vs : List Nat) : ∃ f', EnvR L F H (wipeE vs ρ) (L2.wipe σ vs) f' ∧ ∀ a, f' a ≤ f a := by
  have key : ∃ f', EnvR L F H (wipeE vs ρ) σ f' ∧ ∀ a, f' a ≤ f a := by
    induction vs with
    | nil => exact ⟨f, E, fun _ => Nat.le_refl _⟩
    | cons v r ih =>
      obtain ⟨f1, h1, h2⟩ := ih
      obtain ⟨f2, h3, h4⟩ := h1.drop v
      exact ⟨f2, h3, fun a => Nat.le_trans (h4 a) (h2 a)⟩
  obtain ⟨f', h1, h2⟩ := key
  refine ⟨f', h1.congr (wipe_length σ vs) fun i d hd => wipe_out fun hi => ?_, h2⟩
  rw [wipeE_at, if_pos hi] at hd
  exact nomatch hd
theorem EnvR.unwipe {ρ : Env} {σ : L2.St} {f : Fp} {vs : List Nat} (E : EnvR L F H ρ (L2.wipe σ vs) f) (h : ∀ v ∈ vs, ρ.at v = none) : EnvR L F H ρ σ f :=
  E.congr (wipe_length σ vs).symm fun i d hd => (wipe_out fun hi => by rw [h i hi] at hd; exact nomatch hd).symm
theorem wipe_in {σ : L2.St} {i : Nat} : ∀ {vs : List Nat}, i ∈ vs → i < σ.length → (L2.wipe σ vs)[i]? = some none
  | v :: vs, h, hi => by
    show (List.set (L2.wipe σ vs) v none)[i]? = some none
    by_cases e : v = i
    · subst e
      rw [List.getElem?_set_self (by rw [wipe_length]; exact hi)]
    · rw [List.getElem?_set_ne e]
      exact wipe_in (by simpa [fun z => e (Eq.symm z), Ne.symm e] using h) hi
theorem wipe_wipe (σ : L2.St) (vs : List Nat) : L2.wipe (L2.wipe σ vs) vs = L2.wipe σ vs := by
  refine List.ext_getElem? fun i => ?_
  by_cases h : i ∈ vs
  · by_cases hi : i < σ.length
    · rw [wipe_in h (by rw [wipe_length]; exact hi), wipe_in h hi]
    · rw [List.getElem?_eq_none (by rw [wipe_length, wipe_length]; omega), List.getElem?_eq_none (by rw [wipe_length]; omega)]
  · rw [wipe_out h]
/-- what was there, where it was locked -/
def backE (ρ1 : Env) : List Nat → Env → Env
  | [], ρ => ρ
  | v :: vs, ρ => match ρ1.at v with
    | some d => if d.fro = true then (backE ρ1 vs ρ).set v (some d) else backE ρ1 vs ρ
    | none => backE ρ1 vs ρ
theorem EnvR.back {ρ1 : Env} {σ : L2.St} {f1 : Fp} (E1 : EnvR L F H ρ1 σ f1) {Kp : AP} (s : Stp Kp F H F' H') : ∀ {vs : List Nat} {ρ : Env} {f : Fp}, EnvR L F' H' ρ σ f → ∃ f', EnvR L F' H' (backE ρ1 vs ρ) σ f' ∧ ∀ a, f' a ≤ f a
  | [], ρ, f, E => ⟨f, E, fun _ => Nat.le_refl _⟩
  | v :: vs, ρ, f, E => by
    obtain ⟨f2, h1, h2⟩ := EnvR.back E1 s (vs := vs) E
    cases ev : ρ1.at v with
    | none => simp only [backE, ev]; exact ⟨f2, h1, h2⟩
    | some d =>
      by_cases hd : d.fro = true
      · simp only [backE, ev, if_pos hd]
        obtain ⟨x, k, hx, r⟩ := E1.look ev
        have ek := Rep.fro0 d hd r
        subst ek
        obtain ⟨f3, h3, h4⟩ := h1.put' (i := v) (r.step0 s)
        rw [set_id hx] at h3
        exact ⟨f3, h3, fun a => by have := h4 a; have := h2 a; rw [f0_at] at *; omega⟩
      · simp only [backE, ev, if_neg hd]
        exact ⟨f2, h1, h2⟩
/-- an owned object is written: all else stays -/
theorem own_upd {f : Fp} {p : Addr} {o u : HO} (G : Good Kp F H (fadd f (f1 p))) (hp : H p = some u) (hu : ¬ stab u) : (∀ a o', H a = some o' → F a ∨ Kp a ∨ 1 ≤ f a ∨ stab o' → upd H p o a = some o') ∧ Good Kp F (upd H p o) (fadd f (f1 p)) := by
  have h1 := G.own p (by rw [fadd_at, f1_self]; omega)
  have h2 := G.lin p
  rw [fadd_at, f1_self] at h2
  have key : ∀ a o', H a = some o' → F a ∨ Kp a ∨ 1 ≤ f a ∨ stab o' → a ≠ p := fun a o' e c z => by
    subst z
    rcases c with c | c | c | c
    · exact h1.1 c
    · exact h1.2.1 c
    · omega
    · rw [hp] at e
      obtain rfl := Option.some.inj e
      exact hu c
  have tr : ∀ a, H a ≠ none → upd H p o a ≠ none := fun a x => by
    by_cases e : a = p
    · rw [e, upd_same]; exact fun z => nomatch z
    · rw [upd_ne e]; exact x
  exact ⟨fun a o' e c => by rw [upd_ne (key a o' e c)]; exact e, G.lin, fun a x => ⟨(G.own a x).1, (G.own a x).2.1, tr a (G.own a x).2.2⟩, fun a x => tr a (G.kp a x), fun a x => tr a (G.fr a x)⟩
end

/-! ### comprehensions -/
def lcL (vs : List Nat) (gm : GM) (c : TM) (f : EM) : List D → List D → Env → Option (List D × Env)
  | [], acc, ρ => some (acc, ρ)
  | d :: ds, acc, ρ => match gm d ρ with
    | none => none
    | some ρ1 => match c ρ1 with
      | .ok b ρ2 => if b = true then match f ρ2 with
          | .ok y ρ3 => if acc.length < sizeLine then lcL vs gm c f ds (acc ++ [y]) (wipeE vs ρ3) else none
          | _ => none
        else lcL vs gm c f ds acc (wipeE vs ρ2)
      | _ => none
def lcR (vs : List Nat) (gm : GM) (c : TM) (f : EM) (o : Option (List D)) (ρ1 : Env) : R D := match o with
  | some ds => match lcL vs gm c f ds [] (wipeE vs ρ1) with
    | some x => .ok (.lst true x.1) (backE ρ1 vs x.2)
    | none => .bad
  | none => .bad
def lcM (it : D → Option (List D)) (src : EM) (vs : List Nat) (gm : GM) (c : TM) (f : EM) : EM := fun ρ => (src ρ).bind fun d ρ1 => lcR vs gm c f (it d) ρ1
def lcQ (it : List AV → Option (List D)) (src : AM) (vs : List Nat) (gm : GM) (c : TM) (f : EM) : EM := fun ρ => (src ρ).bind fun d ρ1 => lcR vs gm c f (it d) ρ1
abbrev W0 : WX := fun _ _ _ _ => False
def yesM : TM := fun ρ => .ok true ρ
section
variable {L : Ly} {W : WX} {gm : GM} {tc : TM} {fa : EM} {vs : List Nat}
theorem Reps.snoc {F : AP} {H : Hp} : ∀ {ds : List D} {ws : List V} {f : Fp} {d : D} {v : V} {g : Fp}, Reps L F H ds ws f → Rep L F H d v g → Reps L F H (ds ++ [d]) (ws ++ [v]) (fadd f g)
  | [], ws, f, d, v, g, ⟨e, ef⟩, r => by rw [e, ef]; exact ⟨v, [], g, f0, rfl, fadd_comm _ _, r, rfl, rfl⟩
  | d0 :: ds, ws, f, d, v, g, ⟨v0, w0, g0, h0, e, ef, r0, r1⟩, r => by
    rw [e, ef]
    exact ⟨v0, w0 ++ [v], g0, fadd h0 g, rfl, fadd_assoc _ _ _, r0, Reps.snoc r1 r⟩
theorem lc_coreH {J : It} {ds : List D} {Kp F : AP} {ρ1 : Env} {σ : L2.St} {H1 : Hp} {g1 kt : Fp} {Q : VK} {res : List D × Env} (hold : AP → Hp → Prop) (sr : Src L J hold ds) (hs : ∀ F H F' H', hold F H → Stp (plus Kp kt) F H F' H' → hold F' H')
    (h0 : hold F H1) (E : EnvR L F H1 ρ1 σ g1) (G : Good Kp F H1 (fadd g1 kt)) (el : lcL vs gm tc fa ds [] (wipeE vs ρ1) = some res)
    (p : ∀ F' H' f v k, EnvR L F' H' (backE ρ1 vs res.2) σ f → Stp Kp F H1 F' H' → Rep L F' H' (.lst true res.1) v k → Good Kp F' H' (fadd (fadd f k) kt) → hold F' H' → Q v H') :
    ∀ T, H1 T = none → ∃ Wv : Nat → Nat → Hp → Prop, (∃ n, Wv 0 n (upd H1 T (.lst []))) ∧ ∀ i n H, Wv i n H → (J.stop i H ∧ Q (.ref T) H) ∨ (J.go i H ∧ ∃ Nx : Hp → Prop, (∀ H', Nx H' → ∃ n', n' < n ∧ Wv (i + 1) n' H') ∧
      ∀ x H', J.yld i H x H' → tGt L (wipeRl vs) gm x (wipe σ vs) H' fun σ2 H2 => wipe σ2 vs = wipe σ vs ∧ tT L W0 tc σ2 H2 fun b H3 =>
        if b = true then tD L W0 fa σ2 H3 fun y H4 => ∃ acc, H4 T = some (.lst acc) ∧ acc.length < sizeLine ∧ Nx (upd H4 T (.lst (acc ++ [y]))) else Nx H3) := by
    intro T nT
    have sT : Same H1 (upd H1 T (.lst [])) := same_upd nT
    obtain ⟨g0, E0, l0⟩ := E.wipe vs
    have GT : Good Kp F (upd H1 T (.lst [])) (fadd (fadd g1 kt) (f1 T)) := G.new sT (New.one nT)
    let Inv' : Nat → Hp → Prop := fun i H => ∃ F' ρ g acc ws ka, EnvR L F' H ρ (wipe σ vs) g ∧ (∀ v ∈ vs, ρ.at v = none) ∧ H T = some (.lst ws) ∧ Reps L F' H acc ws ka ∧ Good Kp F' H (fadd (fadd (fadd g ka) kt) (f1 T)) ∧ hold F' H ∧ Stp Kp F H1 F' H ∧ lcL vs gm tc fa (ds.drop i) acc ρ = some res
    refine ⟨fun i n H => n = ds.length - i ∧ i ≤ ds.length ∧ Inv' i H, ⟨ds.length, by simp, Nat.zero_le _, F, wipeE vs ρ1, g0, [], [], f0, E0.same sT, fun v hv => by rw [wipeE_at, if_pos hv], upd_same, ⟨rfl, rfl⟩,
      GT.le fun a => by have := l0 a; rw [fadd_f0, fadd_at, fadd_at, fadd_at, fadd_at]; omega, hs F H1 F _ h0 (Stp.same sT), Stp.same sT, by simpa using el⟩, ?_⟩
    rintro i n H ⟨rfl, hi, F', ρ, g, acc, ws, ka, E', hw, eT, RA, G', hh, s', ll⟩
    by_cases hlt : i < ds.length
    · refine .inr ⟨sr.go F' H i hh hlt, fun H' => Inv' (i + 1) H', fun H' hN => ⟨ds.length - (i + 1), by omega, rfl, hlt, hN⟩, ?_⟩
      intro x H' hy
      obtain ⟨s1, q⟩ := sr.yld F' H i x H' hh hy
      have hd : ds[i]? = some ds[i] := List.getElem?_eq_getElem hlt
      obtain ⟨k, r1, n1⟩ := q _ hd
      rw [List.drop_eq_getElem_cons hlt] at ll
      cases eg : gm ds[i] ρ with
      | none => simp only [lcL, eg] at ll; exact nomatch ll
      | some ρa =>
        simp only [lcL, eg] at ll
        have G2 := G'.new s1 n1
        -- what is held through the turn: what was made, the new list, the source
        have G3 : Good Kp F' H' (fadd (fadd g k) (fadd (fadd ka kt) (f1 T))) := G2.le fun a => by simp only [fadd_at]; omega
        refine ⟨plus Kp (fadd (fadd ka kt) (f1 T)), F', ρ, g, ds[i], k, E'.same s1, r1, G3.split, ρa, eg, fun σ2 g2 Ea Ga hrl => ?_⟩
        have hw2 : wipe σ2 vs = wipe σ vs := Eq.trans hrl (wipe_wipe σ vs)
        refine ⟨hw2, plus Kp (fadd (fadd ka kt) (f1 T)), F', ρa, g2, Ea, Ga, ?_⟩
        have RA1 := RA.same s1
        have eT1 : H' T = some (.lst ws) := s1 _ _ eT
        have hh1 : hold F' H' := hs F' H F' H' hh (Stp.same s1)
        have st1 : Stp Kp F H1 F' H' := s'.trans (Stp.same s1) fun _ y => y
        cases ec : tc ρa with
        | bad => simp only [ec] at ll; exact nomatch ll
        | exc y ρb => simp only [ec] at ll; exact nomatch ll
        | ok b ρb =>
          simp only [ec] at ll
          intro F3 H3 g3 E3 s3 b' kb rb G4
          obtain ⟨rfl, rfl⟩ := rb
          rw [fadd_f0] at G4
          cases b' with
          | false =>
            rw [if_neg Bool.false_ne_true] at ll ⊢
            -- the item is left out
            have G5 : Good Kp F3 H3 (fadd g3 (fadd (fadd ka kt) (f1 T))) := G3.join s3 G4
            obtain ⟨g4, E4, l4⟩ := E3.wipe vs
            rw [hw2] at E4
            have kT : H3 T = some (.lst ws) := s3.st _ _ eT1 (.inr (.inl (.inr (by simp only [fadd_at, f1_self]; omega))))
            have RA3 : Reps L F3 H3 acc ws ka := RA1.mono s3.fz (fun a o e c => s3.st a o e (by
              rcases c with c | c
              · exact .inl c
              · exact .inr (.inr c))) acc fun a o y e => s3.st a o e (.inr (.inl (.inr (by simp only [fadd_at]; omega))))
            have skt : Stp (plus Kp kt) F' H' F3 H3 := ⟨fun a o e c => s3.st a o e (by
              rcases c with c | (c | c) | c
              · exact .inl c
              · exact .inr (.inl (.inl c))
              · exact .inr (.inl (.inr (by simp only [fadd_at]; omega)))
              · exact .inr (.inr c)), s3.fz, fun a z => (s3.nf a z).imp id fun y w => y (w.imp id fun w => by simp only [fadd_at]; omega)⟩
            exact ⟨F3, wipeE vs ρb, g4, acc, ws, ka, E4, fun v hv => by rw [wipeE_at, if_pos hv], kT, RA3, G5.le fun a => by have := l4 a; simp only [fadd_at]; omega, hs _ _ _ _ hh1 skt, st1.trans s3.plus fun _ y => y, ll⟩
          | true =>
            rw [if_pos rfl] at ll ⊢
            refine ⟨plus Kp (fadd (fadd ka kt) (f1 T)), F3, ρb, g3, E3, G4, ?_⟩
            cases ef : fa ρb with
            | bad => simp only [ef] at ll; exact nomatch ll
            | exc y ρc => simp only [ef] at ll; exact nomatch ll
            | ok y ρc =>
              simp only [ef] at ll
              intro F4 H4 g4 E4 s4 v kv rv G5
              have s34 : Stp (plus Kp (fadd (fadd ka kt) (f1 T))) F' H' F4 H4 := s3.trans s4 fun _ y => y
              by_cases hz : acc.length < sizeLine
              · rw [if_pos hz] at ll
                have kT : H4 T = some (.lst ws) := s34.st _ _ eT1 (.inr (.inl (.inr (by simp only [fadd_at, f1_self]; omega))))
                have RA3 : Reps L F4 H4 acc ws ka := RA1.mono s34.fz (fun a o e c => s34.st a o e (by
                  rcases c with c | c
                  · exact .inl c
                  · exact .inr (.inr c))) acc fun a o y e => s34.st a o e (.inr (.inl (.inr (by simp only [fadd_at]; omega))))
                have G6 : Good Kp F4 H4 (fadd (fadd g4 kv) (fadd (fadd ka kt) (f1 T))) := G3.join s34 G5
                have G7 : Good Kp F4 H4 (fadd (fadd (fadd g4 kv) (fadd ka kt)) (f1 T)) := G6.le fun a => by simp only [fadd_at]; omega
                obtain ⟨ku, gu⟩ := own_upd (o := .lst (ws ++ [v])) G7 kT (fun z => z)
                refine ⟨ws, kT, by rw [← RA3.length]; exact hz, ?_⟩
                obtain ⟨g5, E5, l5⟩ := E4.wipe vs
                rw [hw2] at E5
                have E6 : EnvR L F4 (upd H4 T (.lst (ws ++ [v]))) (wipeE vs ρc) (wipe σ vs) g5 := E5.mono (fun _ x => x) (fun a o e c => ku a o e (by
                  rcases c with c | c
                  · exact .inl c
                  · exact .inr (.inr (.inr c)))) fun a o x e => ku a o e (.inr (.inr (.inl (by have := l5 a; simp only [fadd_at]; omega))))
                have RA4 : Reps L F4 (upd H4 T (.lst (ws ++ [v]))) (acc ++ [y]) (ws ++ [v]) (fadd ka kv) := Reps.snoc (RA3.mono (fun _ x => x) (fun a o e c => ku a o e (by
                  rcases c with c | c
                  · exact .inl c
                  · exact .inr (.inr (.inr c)))) acc fun a o x e => ku a o e (.inr (.inr (.inl (by simp only [fadd_at]; omega))))) (rv.mono (fun _ x => x) (fun a o e c => ku a o e (by
                  rcases c with c | c
                  · exact .inl c
                  · exact .inr (.inr (.inr c)))) y fun a o x e => ku a o e (.inr (.inr (.inl (by simp only [fadd_at]; omega)))))
                have skt : Stp (plus Kp kt) F' H' F4 (upd H4 T (.lst (ws ++ [v]))) := ⟨fun a o e c => ku a o (s34.st a o e (by
                  rcases c with c | (c | c) | c
                  · exact .inl c
                  · exact .inr (.inl (.inl c))
                  · exact .inr (.inl (.inr (by simp only [fadd_at]; omega)))
                  · exact .inr (.inr c))) (by
                  rcases c with c | (c | c) | c
                  · exact .inl (s34.fz a c)
                  · exact .inr (.inl c)
                  · exact .inr (.inr (.inl (by simp only [fadd_at]; omega)))
                  · exact .inr (.inr (.inr c))), s34.fz, fun a z => (s34.nf a z).imp id fun y w => y (w.imp id fun w => by simp only [fadd_at]; omega)⟩
                exact ⟨F4, wipeE vs ρc, g5, acc ++ [y], ws ++ [v], fadd ka kv, E6, fun v hv => by rw [wipeE_at, if_pos hv], upd_same, RA4, gu.le fun a => by have := l5 a; simp only [fadd_at]; omega, hs _ _ _ _ hh1 skt, st1.trans skt.plus fun _ y => y, ll⟩
              · rw [if_neg hz] at ll
                exact nomatch ll
    · have e : i = ds.length := by omega
      subst e
      rw [List.drop_length] at ll
      obtain rfl := Option.some.inj ll
      refine .inl ⟨sr.stop F' H hh, ?_⟩
      obtain ⟨f', e1, e2⟩ := EnvR.back E s' (vs := vs) (E'.unwipe hw)
      exact p F' H f' (.ref T) (fadd (f1 T) ka) e1 s' ⟨T, ws, ka, rfl, eT, rfl, RA⟩ (G'.le fun a => by have := e2 a; simp only [fadd_at]; omega) hh
theorem lc_coreM {J : It} {ds : List D} {Kp F : AP} {ρ1 : Env} {σ : L2.St} {H1 : Hp} {g1 kt : Fp} {Q : VK} (hold : AP → Hp → Prop) (sr : Src L J hold ds) (hs : ∀ F H F' H', hold F H → Stp (plus Kp kt) F H F' H' → hold F' H')
    (h0 : hold F H1) (E : EnvR L F H1 ρ1 σ g1) (G : Good Kp F H1 (fadd g1 kt))
    (p : Post L W Kp F H1 σ (lcR vs gm tc fa (some ds) ρ1) fun d _ F' H' g' => ∀ v k, Rep L F' H' d v k → Good Kp F' H' (fadd g' k) → Q v H') :
    ∀ T, H1 T = none → ∃ Wv : Nat → Nat → Hp → Prop, (∃ n, Wv 0 n (upd H1 T (.lst []))) ∧ ∀ i n H, Wv i n H → (J.stop i H ∧ Q (.ref T) H) ∨ (J.go i H ∧ ∃ Nx : Hp → Prop, (∀ H', Nx H' → ∃ n', n' < n ∧ Wv (i + 1) n' H') ∧
      ∀ x H', J.yld i H x H' → tGt L (wipeRl vs) gm x (wipe σ vs) H' fun σ2 H2 => wipe σ2 vs = wipe σ vs ∧ tT L W0 tc σ2 H2 fun b H3 =>
        if b = true then tD L W0 fa σ2 H3 fun y H4 => ∃ acc, H4 T = some (.lst acc) ∧ acc.length < sizeLine ∧ Nx (upd H4 T (.lst (acc ++ [y]))) else Nx H3) := by
  simp only [lcR] at p
  cases el : lcL vs gm tc fa ds [] (wipeE vs ρ1) with
  | none => rw [el] at p; exact p.elim
  | some res =>
    rw [el] at p
    exact lc_coreH hold sr hs h0 E G el fun F' H' f v k e s r g _ => p F' H' f e s v k r (g.le le_l)
end
end VL
end
section
set_option Elab.async false
set_option linter.all false
set_option maxRecDepth 100000
namespace VL
open PySem L2

/-! ### comprehensions: the rules -/
section
variable {X : Cx} {L : Ly} {W : WX} {S : List Nat} {elt tg iter e e2 : Expr} {ifs : List Expr} {scope : Scope} {own : List (Str × Nat)} {pos p : Pos} {fa fe : EM} {q : AM} {gm : GM} {tc : TM}
theorem etts_nil : PTs X [] (tT L W yesM) := ⟨fun pins s σ H Q I ⟨Kp, F, ρ, g, E, G, p⟩ => (pts_nil (X := X)).run pins s σ H Q I (p F H g E Stp.refl true f0 ⟨rfl, rfl⟩ (by rw [fadd_f0]; exact G))⟩
theorem etts_one {c : Expr} (h : PT X c (tT L W tc)) : PTs X [c] (tT L W tc) := pts_one h
theorem imp_lcL (hL : L.K = X.K) {vs : List Nat} : ∀ σ H Q, tD L W (lcM itL fa vs gm tc fe) σ H Q → tLc (iList X.K (tD L W fa)) (tGt L (wipeRl vs) gm) (tT L W0 tc) (tD L W0 fe) vs σ H Q := fun σ H Q ⟨Kp, F, ρ, g, E, G, p⟩ =>
  bD0 (L := L) E G p fun d ρ1 F1 H1 g1 v k1 E1 r1 G1 s1 p1 => by
    cases ei : itL d with
    | none => simp only [ei] at p1; exact p1.elim
    | some ds =>
      simp only [ei] at p1
      cases d with
      | lst o es =>
        obtain ⟨a, ws, gg, rfl, sq, _⟩ := Rep.list r1
        refine ⟨a, rfl, ⟨ws, by rw [← hL]; exact sq⟩, ?_⟩
        rw [← hL]
        exact lc_coreM (fun F H => Rep L F H (.lst o es) (.ref a) k1) (src_list ei) (fun F H F' H' r s => r.step s) r1 E1 G1 p1
      | _ => exact nomatch ei
theorem imp_lcT (hL : L.K = X.K) {vs : List Nat} : ∀ σ H Q, tD L W (lcM itT fa vs gm tc fe) σ H Q → tLc (iTup X.K (tD L W fa)) (tGt L (wipeRl vs) gm) (tT L W0 tc) (tD L W0 fe) vs σ H Q := fun σ H Q ⟨Kp, F, ρ, g, E, G, p⟩ =>
  bD0 (L := L) E G p fun d ρ1 F1 H1 g1 v k1 E1 r1 G1 s1 p1 => by
    cases ei : itT d with
    | none => simp only [ei] at p1; exact p1.elim
    | some ds =>
      simp only [ei] at p1
      cases d with
      | tup es =>
        obtain ⟨a, ws, rfl, sq, _⟩ := id r1
        refine ⟨a, rfl, ⟨ws, by rw [← hL]; exact SqT.of sq⟩, ?_⟩
        rw [← hL]
        exact lc_coreM (fun F H => Rep L F H (.tup es) (.ref a) k1) (src_tup ei) (fun F H F' H' r s => r.step s) r1 E1 G1 p1
      | _ => exact nomatch ei
theorem imp_lcE (hL : L.K = X.K) {vs : List Nat} : ∀ σ H Q, tD L W (lcM itE fa vs gm tc fe) σ H Q → tLc (iEnum X.K (tCons (tD L W fa) tNil)) (tGt L (wipeRl vs) gm) (tT L W0 tc) (tD L W0 fe) vs σ H Q := fun σ H Q ⟨Kp, F, ρ, g, E, G, p⟩ =>
  bD0 (L := L) E G p fun d ρ1 F1 H1 g1 v k1 E1 r1 G1 s1 p1 => by
    cases ei : itE d with
    | none => simp only [ei] at p1; exact p1.elim
    | some ds =>
      simp only [ei] at p1
      cases d with
      | lst o es =>
        obtain ⟨a, ws, gg, rfl, sq, _⟩ := Rep.list r1
        refine ⟨a, ws, rfl, by rw [← hL]; exact sq, ?_⟩
        rw [← hL]
        exact lc_coreM (fun F H => Rep L F H (.lst o es) (.ref a) k1) (src_enum ei) (fun F H F' H' r s => r.step s) r1 E1 G1 p1
      | _ => exact nomatch ei
theorem imp_lcR1 {vs : List Nat} : ∀ σ H Q, tD L W (lcQ itR1 q vs gm tc fe) σ H Q → tLc (iRng1 (tA L W q)) (tGt L (wipeRl vs) gm) (tT L W0 tc) (tD L W0 fe) vs σ H Q := fun σ H Q ⟨Kp, F, ρ, g, E, G, p⟩ =>
  bA0 (L := L) E G p fun as ρ1 F1 H1 g1 ws k1 E1 r1 G1 s1 p1 => by
    cases ei : itR1 as with
    | none => simp only [ei] at p1; exact p1.elim
    | some ds =>
      simp only [ei] at p1
      obtain ⟨js, e1, e2⟩ := Option.bind_eq_some_iff.mp ei
      have ev := intsOf_vs r1 e1
      match js, e2 with
      | [j], e2 =>
        by_cases hj : inR j
        · simp only [if_pos hj] at e2
          obtain rfl := Option.some.inj e2; exact ⟨j, ev, hj.1, hj.2, lc_coreM (kt := f0) (fun _ _ => True) src_rng (fun _ _ _ _ _ _ => trivial) trivial E1 (by rw [fadd_f0]; exact G1.le le_l) p1⟩
        · simp only [if_neg hj] at e2
          exact nomatch e2
theorem imp_lcR2 {vs : List Nat} : ∀ σ H Q, tD L W (lcQ itR2 q vs gm tc fe) σ H Q → tLc (iRng2 (tA L W q)) (tGt L (wipeRl vs) gm) (tT L W0 tc) (tD L W0 fe) vs σ H Q := fun σ H Q ⟨Kp, F, ρ, g, E, G, p⟩ =>
  bA0 (L := L) E G p fun as ρ1 F1 H1 g1 ws k1 E1 r1 G1 s1 p1 => by
    cases ei : itR2 as with
    | none => simp only [ei] at p1; exact p1.elim
    | some ds =>
      simp only [ei] at p1
      obtain ⟨js, e1, e2⟩ := Option.bind_eq_some_iff.mp ei
      have ev := intsOf_vs r1 e1
      match js, e2 with
      | [i, j], e2 =>
        by_cases hj : inR i ∧ inR j
        · simp only [if_pos hj] at e2
          obtain rfl := Option.some.inj e2; exact ⟨i, j, ev, ⟨hj.1.1, hj.1.2, hj.2.1, hj.2.2⟩, lc_coreM (kt := f0) (fun _ _ => True) src_rng (fun _ _ _ _ _ _ => trivial) trivial E1 (by rw [fadd_f0]; exact G1.le le_l) p1⟩
        · simp only [if_neg hj] at e2
          exact nomatch e2
/-- the block's parts -/
structure Blk (X : Cx) (L : Ly) (scope : Scope) (own : List (Str × Nat)) (tg elt : Expr) (ifs : List Expr) (gm : GM) (tc : TM) (fe : EM) : Prop where
  ok : BlkOk X.N X.env.scope scope own
  hg : ∀ (s : Shared) (H : Hp) (C : Addr) (cl : List (Str × Addr)) (fp : List Addr), PG (X.blk s H scope (compEnvC scope cl C X.env) fp) tg (tGt L (wipeRl (own.map (·.2))) gm)
  ht : ∀ (s : Shared) (H : Hp) (C : Addr) (cl : List (Str × Addr)) (fp : List Addr), PTs (X.blk s H scope (compEnvC scope cl C X.env) fp) ifs (tT L W0 tc)
  he : ∀ (s : Shared) (H : Hp) (C : Addr) (cl : List (Str × Addr)) (fp : List Addr), PE (X.blk s H scope (compEnvC scope cl C X.env) fp) elt (tD L W0 fe)
theorem ee_lc {wi : TI} {f : EM} (hc : X.calm = true) (hN : X.N.Nodup) (hi : PI X tg iter wi) (B : Blk X L scope own tg elt ifs gm tc fe) (w : ∀ σ H Q, tD L W f σ H Q → tLc wi (tGt L (wipeRl (own.map (·.2))) gm) (tT L W0 tc) (tD L W0 fe) (own.map (·.2)) σ H Q)
    (hs : ∀ x, foldedSetIterable iter X.env x = pure x := by intro _; rfl) : PE X (.ListComp elt [⟨tg, iter, ifs, 0⟩] scope pos) (tD L W f) := (pe_lc hc hN hi B.ok B.hg B.ht B.he hs).imp w
theorem ss_setLc {wi : TI} {f : EM} {i : Nat} {y : Str} {py spos : Pos} (hS : i ∉ S) (hc : X.calm = true) (hN : X.N.Nodup) (hy : X.N[i]? = some y) (hyl : X.env.scope.names.lookup y = some .local) (hsw : swapsWith (.ListComp elt [⟨tg, iter, ifs, 0⟩] scope pos) (some (.Name y py)) spos.line X.env = pure true)
    (hi : PI X tg iter wi) (B : Blk X L scope own tg elt ifs gm tc fe) (w : ∀ σ H Q, tD L W f σ H Q → tLc wi (tGt L (wipeRl (own.map (·.2))) gm) (tT L W0 tc) (tD L W0 fe) (own.map (·.2)) σ H Q)
    (hs : ∀ x, foldedSetIterable iter X.env x = pure x := by intro _; rfl) : PS X (.Assign [.Name y py] (.ListComp elt [⟨tg, iter, ifs, 0⟩] scope pos) spos) (tS L W S (setM i f)) :=
  (ps_setLc hc hN hy hyl hsw hi B.ok B.hg B.ht B.he hs).imp fun D σ H h => w σ H _ (imp_set hS D σ H h)
end

/-! ### while -/
def whL (c : TM) (m : SM) : Nat → Env → SR
  | 0, _ => .bad
  | n + 1, ρ => (c ρ).then fun b ρ1 => if b = true then (match m ρ1 with
    | .nx ρ2 => whL c m n ρ2
    | .ct ρ2 => whL c m n ρ2
    | .bk ρ2 => .nx ρ2
    | .rt d ρ2 => .rt d ρ2
    | .exc e ρ2 => .exc e ρ2
    | .bad => .bad) else .nx ρ1
open Classical in
noncomputable def whM (c : TM) (m : SM) : SM := fun ρ => if h : ∃ n, whL c m n ρ ≠ .bad then whL c m h.choose ρ else .bad
theorem whL_mono (c : TM) (m : SM) : ∀ (n k : Nat) (ρ : Env), whL c m n ρ ≠ .bad → whL c m (n + k) ρ = whL c m n ρ
  | 0, k, ρ, h => absurd rfl h
  | n + 1, k, ρ, h => by
    rw [show n + 1 + k = (n + k) + 1 by omega]
    unfold whL at h ⊢
    cases ec : c ρ with
    | bad => rfl
    | exc e ρ1 => rfl
    | ok b ρ1 =>
      rw [ec] at h
      simp only [R.then] at h ⊢
      cases b with
      | false => rfl
      | true =>
        simp only [if_pos] at h ⊢
        cases em : m ρ1 with
        | nx ρ2 => rw [em] at h; exact whL_mono c m n k ρ2 h
        | ct ρ2 => rw [em] at h; exact whL_mono c m n k ρ2 h
        | bk ρ2 => rfl
        | rt d ρ2 => rfl
        | exc e ρ2 => rfl
        | bad => rfl
theorem whM_eq {c : TM} {m : SM} {ρ : Env} {r : SR} (n : Nat) (h : whL c m n ρ = r) (hr : r ≠ .bad) : whM c m ρ = r := by
  have hn : ∃ n, whL c m n ρ ≠ .bad := ⟨n, by rw [h]; exact hr⟩
  unfold whM
  rw [dif_pos hn]
  have h1 := hn.choose_spec
  have e1 := whL_mono c m hn.choose n ρ h1
  have e2 := whL_mono c m n hn.choose ρ (by rw [h]; exact hr)
  rw [Nat.add_comm] at e2
  rw [← e1, e2, h]
section
variable {X : Cx} {L : Ly} {W : WX} {S : List Nat} {c : Expr} {body : List Stmt} {pos : Pos} {tc : TM} {m : SM}
theorem ss_while (hp : PassesOwn (model X.prog X.w) X.A X.env X.xe) (hc : PT X c (tT L W tc)) (hb : PSs X body (tS L W S m)) : PS X (.While c body [] pos) (tS L W S (whM tc m)) := (ps_while hp hc hb).imp fun D σ H ⟨Kp, F, ρ, g, E, G, p⟩ => by
  unfold whM at p
  by_cases hn : ∃ n, whL tc m n ρ ≠ .bad
  · rw [dif_pos hn] at p
    generalize hn.choose = n at p
    refine ⟨fun n σ H => ∃ F ρ g, EnvR L F H ρ σ g ∧ Good Kp F H g ∧ PostS L W S Kp F H σ D (whL tc m n ρ), ⟨n, F, ρ, g, E, G, p⟩, ?_⟩
    rintro n σ H ⟨F, ρ, g, E, G, p⟩
    cases n with
    | zero => exact p.elim
    | succ n =>
      unfold whL at p
      refine dT (L := L) E G p fun b ρ1 F1 H1 g1 E1 G1 p1 => ?_
      cases b with
      | false =>
        rw [if_neg Bool.false_ne_true] at p1 ⊢
        exact p1 F1 H1 σ g1 E1 G1 Stp.refl KeepS.refl
      | true =>
        rw [if_pos rfl] at p1 ⊢
        refine ⟨fun σ' H' => ∃ F' ρ' g', EnvR L F' H' ρ' σ' g' ∧ Good Kp F' H' g' ∧ PostS L W S Kp F' H' σ' D (whL tc m n ρ'), fun σ' H' h => ⟨n, Nat.lt_succ_self n, h⟩, Kp, F1, ρ1, g1, E1, G1, ?_⟩
        cases em : m ρ1 with
        | nx ρ2 => rw [em] at p1; exact fun F' H' σ' f E' G' s' k' => ⟨F', ρ2, f, E', G', p1.from s' k'⟩
        | ct ρ2 => rw [em] at p1; exact fun F' H' σ' f E' G' s' k' => ⟨F', ρ2, f, E', G', p1.from s' k'⟩
        | bk ρ2 => rw [em] at p1; exact p1
        | rt d ρ2 => rw [em] at p1; exact p1
        | exc e ρ2 => rw [em] at p1; exact p1
        | bad => rw [em] at p1; exact p1
  · rw [dif_neg hn] at p
    exact p.elim
end
end VL
end
section
set_option Elab.async false
set_option linter.all false
set_option maxRecDepth 100000
namespace VL
open PySem L2

/-! ### places within what is owned -/
def D.kid : D → Nat → Option D
  | .lst true ds, j => ds[j]?
  | .obj true _ _ ds, j => ds[j]?
  | .dct true _ ds, j => ds[j]?
  | _, _ => none
def D.setKid : D → Nat → D → D
  | .lst true ds, j, c => .lst true (ds.set j c)
  | .obj true k ns ds, j, c => .obj true k ns (ds.set j c)
  | .dct true ks ds, j, c => .dct true ks (ds.set j c)
  | d, _, _ => d
def D.sub : D → List Nat → Option D
  | d, [] => some d
  | d, j :: p => (d.kid j).bind fun k => k.sub p
def D.put : D → List Nat → D → D
  | _, [], c => c
  | d, j :: p, c => match d.kid j with
    | some k => d.setKid j (k.put p c)
    | none => d
def Env.sub (ρ : Env) (i : Nat) (p : List Nat) : Option D := (ρ.at i).bind fun d => d.sub p
def Env.putAt (ρ : Env) (i : Nat) (p : List Nat) (c : D) : Env := match ρ.at i with
  | some d => ρ.set i (some (d.put p c))
  | none => ρ
theorem D.sub_snoc : ∀ (d : D) (p : List Nat) (j : Nat), d.sub (p ++ [j]) = (d.sub p).bind fun k => k.kid j
  | d, [], j => by simp [D.sub]
  | d, i :: p, j => by
    show (d.kid i).bind (fun k => k.sub (p ++ [j])) = ((d.kid i).bind fun k => k.sub p).bind _
    cases e : d.kid i with
    | none => rfl
    | some k => exact D.sub_snoc k p j
theorem D.put_snoc : ∀ (d : D) (p : List Nat) (j : Nat) (c n : D), d.sub p = some n → (∃ k, n.kid j = some k) → d.put (p ++ [j]) c = d.put p (n.setKid j c)
  | d, [], j, c, n, h, ⟨k, hk⟩ => by
    obtain rfl := Option.some.inj h
    show (match D.kid d j with | some k => d.setKid j c | none => d) = _
    rw [hk]; rfl
  | d, i :: p, j, c, n, h, hk => by
    obtain ⟨k, h1, h2⟩ := Option.bind_eq_some_iff.mp h
    show (match D.kid d i with | some k => d.setKid i (k.put (p ++ [j]) c) | none => d) = (match D.kid d i with | some k => d.setKid i (k.put p (n.setKid j c)) | none => d)
    rw [h1]
    show d.setKid i (k.put (p ++ [j]) c) = _
    rw [D.put_snoc k p j c n h2 hk]
section
variable {L : Ly} {F F' : AP} {H H' : Hp}
theorem Reps.lens : ∀ {ds : List D} {vs : List V} {f : Fp} {j : Nat} {c : D}, Reps L F H ds vs f → ds[j]? = some c → ∃ v g h, vs[j]? = some v ∧ (∀ a, f a = g a + h a) ∧ Rep L F H c v g ∧
    ∀ (F' : AP) (H' : Hp) (c' : D) (v' : V) (g' : Fp), (∀ a, F a → F' a) → (∀ a o, H a = some o → F a ∨ stab o ∨ 1 ≤ h a → H' a = some o) → Rep L F' H' c' v' g' → Reps L F' H' (ds.set j c') (vs.set j v') (fadd g' h)
  | [], _, _, j, c, _, h => by simp at h
  | d :: ds, _, _, 0, c, ⟨v, ws, g, h, e, ef, r1, r2⟩, hc => by
    have e0 : d = c := by simpa using hc
    subst e0
    exact ⟨v, g, h, by rw [e]; rfl, fun a => by rw [ef]; rfl, r1, fun F' H' c' v' g' hF hS r => ⟨v', ws, g', h, by rw [e]; rfl, rfl, r, r2.mono hF (fun a o x c => hS a o x (c.imp id .inl)) ds fun a o x y => hS a o y (.inr (.inr x))⟩⟩
  | d :: ds, _, _, j + 1, c, ⟨v0, ws, g0, h0, e, ef, r1, r2⟩, hc => by
    obtain ⟨v, g, h, q1, q2, q3, q4⟩ := Reps.lens (j := j) r2 (by simpa using hc)
    refine ⟨v, g, fadd g0 h, by rw [e]; simpa using q1, fun a => ?_, q3, fun F' H' c' v' g' hF hS r => ?_⟩
    · have := q2 a
      rw [ef, fadd_at, fadd_at]; omega
    · refine ⟨v0, ws.set j v', g0, fadd g' h, by rw [e]; rfl, funext fun a => by simp only [fadd_at]; omega, r1.mono hF (fun a o x c => hS a o x (c.imp id .inl)) d fun a o x y => hS a o y (.inr (.inr (by rw [fadd_at]; omega))), ?_⟩
      exact q4 F' H' c' v' g' hF (fun a o x c => hS a o x (c.imp id (.imp id fun z => by rw [fadd_at]; omega))) r
/-- v stands at the place p of the name i, where c is; another datum may stand there -/
def Lens (L : Ly) (F : AP) (H : Hp) (σ : L2.St) (ρ : Env) (f : Fp) (i : Nat) (p : List Nat) (c : D) (v : V) : Prop := ∃ g h, (∀ a, f a = g a + h a) ∧ Rep L F H c v g ∧
  ∀ (F' : AP) (H' : Hp) (c' : D) (g' : Fp), (∀ a, F a → F' a) → (∀ a o, H a = some o → F a ∨ stab o ∨ 1 ≤ h a → H' a = some o) → Rep L F' H' c' v g' → EnvR L F' H' (ρ.putAt i p c') σ (fadd g' h)
theorem Lens.same {σ : L2.St} {ρ : Env} {f : Fp} {i : Nat} {p : List Nat} {c : D} {v : V} (l : Lens L F H σ ρ f i p c v) (s : Same H H') : Lens L F H' σ ρ f i p c v := by
  obtain ⟨g, h, e, r, k⟩ := l
  exact ⟨g, h, e, r.same s, fun F' H2 c' g' hF hS r' => k F' H2 c' g' hF (fun a o x y => hS a o (s a o x) y) r'⟩
theorem EnvR.lens {ρ : Env} {σ : L2.St} {f : Fp} {i : Nat} {d : D} (E : EnvR L F H ρ σ f) (e : ρ.at i = some d) : ∃ v, σ[i]? = some (some v) ∧ Lens L F H σ ρ f i [] d v := by
  obtain ⟨v, g, h, h1, h2, h3, h4, _⟩ := E.get e
  refine ⟨v, h1, g, h, fun a => by rw [h2]; rfl, h3, fun F' H' c' g' hF hS r => ?_⟩
  have : ρ.putAt i [] c' = List.set ρ i (some c') := by unfold Env.putAt; rw [e]; rfl
  rw [this]
  exact (h4.mono hF (fun a o x c => hS a o x (c.imp id .inl)) fun a o x y => hS a o y (.inr (.inr x))).fill h1 r
/-- from an owned list to its item -/
theorem Lens.item {σ : L2.St} {ρ : Env} {f : Fp} {i : Nat} {p : List Nat} {ds : List D} {v : V} {j : Nat} {c : D} (l : Lens L F H σ ρ f i p (.lst true ds) v) (hs : ρ.sub i p = some (.lst true ds)) (hj : ds[j]? = some c) :
    ∃ a vs v', v = .ref a ∧ H a = some (.lst vs) ∧ ds.length = vs.length ∧ vs[j]? = some v' ∧ Lens L F H σ ρ f i (p ++ [j]) c v' := by
  obtain ⟨g, h, e, ⟨a, vs, g0, rfl, q, eg, r⟩, k⟩ := l
  obtain ⟨v', gj, hj', h1, h2, h3, h4⟩ := r.lens hj
  refine ⟨a, vs, v', rfl, q, r.length, h1, gj, fadd (fadd (f1 a) hj') h, fun b => ?_, h3, fun F' H' c' g' hF hS r' => ?_⟩
  · have := h2 b
    rw [e, eg]
    simp only [fadd_at]; omega
  · have hv : vs.set j v' = vs := by
      obtain ⟨x, y⟩ := List.getElem?_eq_some_iff.mp h1
      rw [← y]; exact List.set_getElem_self x
    have r2 := h4 F' H' c' v' g' hF (fun b o x y => hS b o x (y.imp id (.imp id fun z => by simp only [fadd_at]; omega))) r'
    rw [hv] at r2
    have rn : Rep L F' H' (.lst true (ds.set j c')) (.ref a) (fadd (f1 a) (fadd g' hj')) := ⟨a, vs, _, rfl, hS a _ q (.inr (.inr (by simp only [fadd_at, f1_self]; omega))), rfl, r2⟩
    have := k F' H' _ _ hF (fun b o x y => hS b o x (y.imp id (.imp id fun z => by simp only [fadd_at]; omega))) rn
    have ep : ρ.putAt i (p ++ [j]) c' = ρ.putAt i p (.lst true (ds.set j c')) := by
      unfold Env.putAt
      unfold Env.sub at hs
      cases ei : ρ.at i with
      | none => rfl
      | some d =>
        rw [ei] at hs
        show List.set ρ i _ = List.set ρ i _
        rw [D.put_snoc d p j c' _ hs ⟨c, hj⟩]
        rfl
    rw [ep]
    rw [show fadd g' (fadd (fadd (f1 a) hj') h) = fadd (fadd (f1 a) (fadd g' hj')) h from funext fun b => by simp only [fadd_at]; omega]
    exact this
/-- from an owned instance to its attribute -/
theorem Lens.attr {σ : L2.St} {ρ : Env} {f : Fp} {i : Nat} {p : List Nat} {cl : Str} {ns : List Str} {ds : List D} {v : V} {j : Nat} {c : D} (l : Lens L F H σ ρ f i p (.obj true cl ns ds) v) (hs : ρ.sub i p = some (.obj true cl ns ds)) (hj : ds[j]? = some c) :
    ∃ a dx vs v', v = .ref a ∧ H a = some (.ins (L.CT cl) dx (ns.zip vs)) ∧ ns.length = ds.length ∧ ds.length = vs.length ∧ vs[j]? = some v' ∧ Lens L F H σ ρ f i (p ++ [j]) c v' := by
  obtain ⟨g, h, e, ⟨a, dx, vs, g0, rfl, q, hl, eg, r⟩, k⟩ := l
  obtain ⟨v', gj, hj', h1, h2, h3, h4⟩ := r.lens hj
  refine ⟨a, dx, vs, v', rfl, q, hl, r.length, h1, gj, fadd (fadd (f1 a) hj') h, fun b => ?_, h3, fun F' H' c' g' hF hS r' => ?_⟩
  · have := h2 b
    rw [e, eg]
    simp only [fadd_at]; omega
  · have hv : vs.set j v' = vs := by
      obtain ⟨x, y⟩ := List.getElem?_eq_some_iff.mp h1
      rw [← y]; exact List.set_getElem_self x
    have r2 := h4 F' H' c' v' g' hF (fun b o x y => hS b o x (y.imp id (.imp id fun z => by simp only [fadd_at]; omega))) r'
    rw [hv] at r2
    have rn : Rep L F' H' (.obj true cl ns (ds.set j c')) (.ref a) (fadd (f1 a) (fadd g' hj')) := ⟨a, dx, vs, _, rfl, hS a _ q (.inr (.inr (by simp only [fadd_at, f1_self]; omega))), by rw [List.length_set]; exact hl, rfl, r2⟩
    have := k F' H' _ _ hF (fun b o x y => hS b o x (y.imp id (.imp id fun z => by simp only [fadd_at]; omega))) rn
    have ep : ρ.putAt i (p ++ [j]) c' = ρ.putAt i p (.obj true cl ns (ds.set j c')) := by
      unfold Env.putAt
      unfold Env.sub at hs
      cases ei : ρ.at i with
      | none => rfl
      | some d =>
        rw [ei] at hs
        show List.set ρ i _ = List.set ρ i _
        rw [D.put_snoc d p j c' _ hs ⟨c, hj⟩]
        rfl
    rw [ep]
    rw [show fadd g' (fadd (fadd (f1 a) hj') h) = fadd (fadd (f1 a) (fadd g' hj')) h from funext fun b => by simp only [fadd_at]; omega]
    exact this
end
abbrev LM := Env → Option (Nat × List Nat)
def nmL (i : Nat) : LM := fun _ => some (i, [])
def ixL (pl : LM) (pb : PM) : LM := fun ρ => (pl ρ).bind fun x => (pb ρ).bind fun b => (ρ.sub x.1 x.2).bind fun n => match b, n with
  | .int k, .lst true ds => (ixN ds.length k).map fun j => (x.1, x.2 ++ [j])
  | _, _ => none
def fldL (cs : List Str) (f : Str) (pl : LM) : LM := fun ρ => (pl ρ).bind fun x => (ρ.sub x.1 x.2).bind fun n => match n with
  | .obj true c ns _ => if c ∈ cs ∧ f ∈ ns then some (x.1, x.2 ++ [ns.idxOf f]) else none
  | _ => none
def tLoc (L : Ly) (pl : LM) : TE := fun σ H Q => ∃ F ρ g i p c, EnvR L F H ρ σ g ∧ pl ρ = some (i, p) ∧ ρ.sub i p = some c ∧ ∀ v H', Same H H' → Lens L F H' σ ρ g i p c v → Q v H'
/-- o[i] = e: e, o, i -/
def stoM (pl : LM) (pb : PM) (f : EM) : SM := fun ρ => (f ρ).then fun d ρ1 => match pl ρ1, pb ρ1 with
  | some (i, p), some (.int k) => match ρ1.sub i p with
    | some (.lst true ds) => match ixN ds.length k with
      | some j => .nx (ρ1.putAt i p (.lst true (ds.set j d)))
      | none => .bad
    | _ => .bad
  | _, _ => .bad
/-- o.f = e: e, o -/
def stfM (cs : List Str) (f : Str) (pl : LM) (fe : EM) : SM := fun ρ => (fe ρ).then fun d ρ1 => match pl ρ1 with
  | some (i, p) => match ρ1.sub i p with
    | some (.obj true c ns ds) => if c ∈ cs ∧ ns.length < 900 then .nx (ρ1.putAt i p (if f ∈ ns then .obj true c ns (ds.set (ns.idxOf f) d) else .obj true c (ns ++ [f]) (ds ++ [d]))) else .bad
    | _ => .bad
  | none => .bad
/-- a method of a list by data: the items and the arguments to the items and what is handed back -/
abbrev MopL := List D → List D → Option (List D × D)
def MutR (L : Ly) (r : V → List V → Hp → VK → Prop) (mop : MopL) : Prop := ∀ F H l xs ds as vs ds' d' g ka Q, H l = some (.lst xs) → Reps L F H ds xs g → Reps L F H as vs ka → mop ds as = some (ds', d') →
  (∀ xs' v' g' k', Reps L F H ds' xs' g' → Rep L F H d' v' k' → (∀ a, g' a + k' a ≤ g a + ka a) → Q v' (upd H l (.lst xs'))) → r (.ref l) vs H Q
/-- at a place, the arguments read and locked -/
def mtdM (mop : MopL) (pl : LM) (q : PA') : EM := fun ρ => match pl ρ, q ρ with
  | some (i, p), some as => if froL as = true then (match ρ.sub i p with
    | some (.lst true ds) => match mop ds as with
      | some (ds', d') => .ok d' (ρ.putAt i p (.lst true ds'))
      | none => .bad
    | _ => .bad) else .bad
  | _, _ => .bad
/-- of a name, the arguments whatever they do -/
def mtdN (mop : MopL) (i : Nat) (q : AM) : EM := fun ρ => match ρ.at i with
  | some (.lst true _) => (q ρ).bind fun as ρ1 => match valsOf as, ρ1.at i with
    | some as, some (.lst true ds) => match mop ds as with
      | some (ds', d') => .ok d' (ρ1.set i (some (.lst true ds')))
      | none => .bad
    | _, _ => .bad
  | _ => .bad
end VL
end
section
set_option Elab.async false
set_option linter.all false
set_option maxRecDepth 100000
namespace VL
open PySem L2

theorem ixN_lt {n : Nat} {k : Int} {j : Nat} (h : ixN n k = some j) : j < n := (ixN_seq h).2.1
section
variable {X : Cx} {L : Ly} {W : WX} {S : List Nat} {a b e o : Expr} {es : List Expr} {pos : Pos} {pl : LM} {pb : PM} {fa : EM} {q : AM}
theorem loc_name {i : Nat} (h : PE X e (tVar i)) : PE X e (tLoc L (nmL i)) := h.imp fun σ H Q ⟨F, ρ, g, i', p, c, E, hp, hc, k⟩ => by
  obtain ⟨rfl, rfl⟩ := Prod.mk.inj (Option.some.inj hp)
  have hc' : ρ.at i = some c := by
    unfold Env.sub at hc
    cases ei : ρ.at i with
    | none => rw [ei] at hc; exact nomatch hc
    | some d => rw [ei] at hc; exact hc
  obtain ⟨v, h1, l⟩ := E.lens hc'
  exact ⟨v, h1, k v H (Same.refl H) l⟩
theorem loc_ix (hL : L.K = X.K) (ha : PE X a (tLoc L pl)) (hb : PE X b (tP L pb)) (hs : PlainIx b) : PE X (.Subscript a b pos) (tLoc L (ixL pl pb)) := (pe_ix ix_list ha hb hs).imp fun σ H Q ⟨F, ρ, g, i, p, c, E, hp, hc, k⟩ => by
  obtain ⟨⟨i0, p0⟩, h1, hp⟩ := Option.bind_eq_some_iff.mp hp
  obtain ⟨db, h2, hp⟩ := Option.bind_eq_some_iff.mp hp
  obtain ⟨n, h3, hp⟩ := Option.bind_eq_some_iff.mp hp
  cases db with
  | int kk =>
    cases n with
    | lst ow ds =>
      cases ow with
      | true =>
        obtain ⟨j, h4, h5⟩ := Option.map_eq_some_iff.mp hp
        obtain ⟨rfl, rfl⟩ := Prod.mk.inj h5
        refine ⟨F, ρ, g, i0, p0, _, E, h1, h3, fun v1 H1 s1 l1 => ⟨F, ρ, g, .int kk, E.same s1, h2, fun v2 H2 k2 s2 r2 => ?_⟩⟩
        have hcj : ds[j]? = some c := by
          unfold Env.sub at h3 hc
          cases ei : ρ.at i0 with
          | none => rw [ei] at h3; exact nomatch h3
          | some d =>
            rw [ei] at h3 hc
            have h3' : d.sub p0 = some (.lst true ds) := h3
            have hc' : d.sub (p0 ++ [j]) = some c := hc
            rw [D.sub_snoc, h3'] at hc'
            exact hc'
        obtain ⟨ad, vs, v', rfl, q, hl, hv, l2⟩ := (l1.same s2).item h3 hcj
        refine ⟨ad, vs, kk, v', rfl, r2.1, SqL.of q, ?_, k v' H2 (s1.trans s2) l2⟩
        unfold atI
        rw [← hl, h4]
        exact hv
      | false => exact nomatch hp
    | _ => exact nomatch hp
  | _ => cases n <;> exact nomatch hp
theorem zip_at : ∀ {ns : List Str} {vs : List V} {f : Str} {v : V}, f ∈ ns → ns.length = vs.length → vs[ns.idxOf f]? = some v → (ns.zip vs).lookup f = some v
  | [], _, _, _, h, _, _ => nomatch h
  | n :: ns, [], _, _, _, hl, _ => nomatch hl
  | n :: ns, w :: vs, f, v, h, hl, hv => by
    show List.lookup f ((n, w) :: ns.zip vs) = some v
    rw [List.lookup_cons]
    by_cases e : f = n
    · subst e
      rw [List.idxOf_cons_self] at hv
      simp only [beq_self_eq_true]
      simpa using hv
    · have h1 : (f == n) = false := beq_eq_false_iff_ne.mpr e
      have h2 : (n == f) = false := beq_eq_false_iff_ne.mpr fun z => e z.symm
      rw [h1]
      have hm : f ∈ ns := (List.mem_cons.mp h).resolve_left e
      rw [List.idxOf_cons, h2] at hv
      exact zip_at hm (by simpa using hl) (by simpa using hv)
theorem idx_lt {ns : List Str} {f : Str} (h : f ∈ ns) : ns.idxOf f < ns.length := List.idxOf_lt_length_iff.mpr h
/-- an attribute read -/
def fldP (cs : List Str) (f : Str) (pa : PM) : PM := unP (fun d => match d with
  | .obj _ c ns ds => if c ∈ cs ∧ f ∈ ns then ds[ns.idxOf f]? else none
  | _ => none) pa
theorem pp_fld {cs : List Str} {f : Str} {pa : PM} (hL : L.K = X.K) (hcs : ∀ c ∈ cs, Cls X.K (L.CT c) ∧ NoAttr X.K (L.CT c) f) (ha : PE X a (tP L pa)) (hb : attributeBase a f X.env (eval a X.env) = eval a X.env := by rfl) : PE X (.Attribute a f pos) (tP L (fldP cs f pa)) :=
  (pe_fld ha hb).imp fun σ H Q ⟨F, ρ, g, d, E, hp, k⟩ => by
    obtain ⟨d1, h1, hp⟩ := Option.bind_eq_some_iff.mp hp
    refine ⟨F, ρ, g, d1, E, h1, fun v1 H1 k1 s1 r1 => ?_⟩
    cases d1 with
    | obj ow c ns ds =>
      by_cases hc : c ∈ cs ∧ f ∈ ns
      · simp only [if_pos hc] at hp
        obtain ⟨ad, dx, vs, h, rfl, q, hl, r⟩ := r1.ins
        obtain ⟨v, g', h2, h3, _⟩ := r.get hp
        exact ⟨ad, L.CT c, dx, _, v, rfl, q, (hcs c hc.1).1, (hcs c hc.1).2, zip_at hc.2 (hl.trans r.length) h2, k v H1 g' s1 h3⟩
      · simp only [if_neg hc] at hp
        exact nomatch hp
    | _ => exact nomatch hp
theorem loc_fld {cs : List Str} {f : Str} (hL : L.K = X.K) (hcs : ∀ c ∈ cs, Cls X.K (L.CT c) ∧ NoAttr X.K (L.CT c) f) (ha : PE X a (tLoc L pl)) (hb : attributeBase a f X.env (eval a X.env) = eval a X.env := by rfl) : PE X (.Attribute a f pos) (tLoc L (fldL cs f pl)) :=
  (pe_fld ha hb).imp fun σ H Q ⟨F, ρ, g, i, p, c, E, hp, hc, k⟩ => by
    obtain ⟨⟨i0, p0⟩, h1, hp⟩ := Option.bind_eq_some_iff.mp hp
    obtain ⟨n, h3, hp⟩ := Option.bind_eq_some_iff.mp hp
    cases n with
    | obj ow cl ns ds =>
      cases ow with
      | true =>
        by_cases hcf : cl ∈ cs ∧ f ∈ ns
        · simp only [if_pos hcf] at hp
          obtain ⟨rfl, rfl⟩ := Prod.mk.inj (Option.some.inj hp)
          refine ⟨F, ρ, g, i0, p0, _, E, h1, h3, fun v1 H1 s1 l1 => ?_⟩
          have hcj : ds[ns.idxOf f]? = some c := by
            unfold Env.sub at h3 hc
            cases ei : ρ.at i0 with
            | none => rw [ei] at h3; exact nomatch h3
            | some d =>
              rw [ei] at h3 hc
              have h3' : d.sub p0 = some (.obj true cl ns ds) := h3
              have hc' : d.sub (p0 ++ [ns.idxOf f]) = some c := hc
              rw [D.sub_snoc, h3'] at hc'
              exact hc'
          obtain ⟨ad, dx, vs, v', rfl, q, hl, hl2, hv, l2⟩ := l1.attr h3 hcj
          exact ⟨ad, L.CT cl, dx, _, v', rfl, q, (hcs cl hcf.1).1, (hcs cl hcf.1).2, zip_at hcf.2 (hl.trans hl2) hv, k v' H1 s1 l2⟩
        · simp only [if_neg hcf] at hp
          exact nomatch hp
      | false => exact nomatch hp
    | _ => exact nomatch hp
/-- the owned list at a place, and what a write there leaves and hands back -/
theorem Lens.open {F : AP} {H : Hp} {σ : L2.St} {ρ : Env} {f : Fp} {i : Nat} {p : List Nat} {ds : List D} {v : V} (l : Lens L F H σ ρ f i p (.lst true ds) v) : ∃ ad vs g0, v = .ref ad ∧ H ad = some (.lst vs) ∧ Reps L F H ds vs g0 ∧
    ∀ {Kp : AP} {kx : Fp} {vs' : List V} {ds' : List D} {d' : D} {v' : V} {g' kr : Fp}, Good Kp F H (fadd f kx) → Reps L F H ds' vs' g' → Rep L F H d' v' kr → (∀ x, g' x + kr x ≤ g0 x + kx x) →
      ∃ f', EnvR L F (upd H ad (.lst vs')) (ρ.putAt i p (.lst true ds')) σ f' ∧ Rep L F (upd H ad (.lst vs')) d' v' kr ∧ Good Kp F (upd H ad (.lst vs')) (fadd f' kr) ∧ Stp Kp F H F (upd H ad (.lst vs')) := by
  obtain ⟨g, h, e, ⟨ad, vs, g0, ea, hv, eg, r⟩, k⟩ := l
  refine ⟨ad, vs, g0, ea, hv, r, fun {Kp kx vs' ds' d' v' g' kr} G r' rd hg' => ?_⟩
  subst ea
  have G2 : Good Kp F H (fadd (fadd h (fadd g0 kx)) (f1 ad)) := G.le fun x => by have := e x; rw [eg] at this; simp only [fadd_at] at *; omega
  obtain ⟨ku, gu⟩ := own_upd (o := .lst vs') G2 hv (fun z => z)
  have rn : Rep L F (upd H ad (.lst vs')) (.lst true ds') (.ref ad) (fadd (f1 ad) g') := ⟨ad, vs', g', rfl, upd_same, rfl, r'.mono (fun _ x => x) (fun x o y c => ku x o y (c.imp id fun z => .inr (.inr z))) ds' fun x o y z => ku x o z (.inr (.inr (.inl (by have := hg' x; simp only [fadd_at]; omega))))⟩
  refine ⟨_, k F _ _ _ (fun _ x => x) (fun x o y c => ku x o y (by
    rcases c with c | c | c
    · exact .inl c
    · exact .inr (.inr (.inr c))
    · exact .inr (.inr (.inl (by simp only [fadd_at]; omega))))) rn, rd.mono (fun _ x => x) (fun x o y c => ku x o y (c.imp id fun z => .inr (.inr z))) d' (fun x o y z => ku x o z (.inr (.inr (.inl (by have := hg' x; simp only [fadd_at]; omega))))), gu.le fun x => by have := hg' x; simp only [fadd_at]; omega, ⟨fun x o y c => ku x o y (by
    rcases c with c | c | c
    · exact .inl c
    · exact .inr (.inl c)
    · exact .inr (.inr (.inr c))), fun _ x => x, fun _ x => .inl x⟩⟩
theorem Reps.set {F : AP} {H : Hp} {ds : List D} {vs : List V} {f : Fp} {j : Nat} {d : D} {v : V} {g : Fp} (r : Reps L F H ds vs f) (hj : j < ds.length) (rd : Rep L F H d v g) : ∃ f', Reps L F H (ds.set j d) (vs.set j v) f' ∧ ∀ a, f' a ≤ f a + g a := by
  obtain ⟨v0, g0, h, _, e, _, k⟩ := r.lens (List.getElem?_eq_getElem hj)
  exact ⟨fadd g h, k F H d v g (fun _ x => x) (fun _ _ x _ => x) rd, fun a => by have := e a; simp only [fadd_at]; omega⟩
theorem ss_store (hL : L.K = X.K) (he : PE X e (tD L W fa)) (ho : PE X a (tLoc L pl)) (hb : PE X b (tP L pb))
    (hsub : ∀ v, assign (.Subscript a b pos) X.env v = (do
      let ov ← holding [v] (eval a X.env)
      let iv ← holding [v, ov] (eval b X.env)
      standAt pos; holding [v, ov, iv] (setItem ov iv v)
      release [v, ov, iv] []) := by intro _; rfl)
    {spos : Pos} (hs : swapsWithSole [.Subscript a b pos] e spos.line X.env = pure false := by rfl) (hw : swappedStores [.Subscript a b pos] e X.env = pure none := by rfl)
    (h1 : (assignEach [.Subscript a b pos] X.env).map (·.2) = [assign (.Subscript a b pos) X.env] := by rfl) : PS X (.Assign [.Subscript a b pos] e spos) (tS L W S (stoM pl pb fa)) :=
  (ps_asg he (pg_sub ho hb set_list hsub) hs hw h1).imp fun D σ H ⟨Kp, F, ρ, g, E, G, p⟩ =>
  dS (L := L) E G p fun d ρ1 F1 H1 g1 v k1 E1 r1 G1 p1 => by
    cases e1 : pl ρ1 with
    | none => simp only [e1] at p1; exact p1.elim
    | some x =>
      obtain ⟨i, pp⟩ := x
      cases e2 : pb ρ1 with
      | none => simp only [e1, e2] at p1; exact p1.elim
      | some db =>
        cases db with
        | int k =>
          simp only [e1, e2] at p1
          cases e3 : ρ1.sub i pp with
          | none => simp only [e3] at p1; exact p1.elim
          | some n =>
            cases n with
            | lst ow ds =>
              cases ow with
              | true =>
                simp only [e3] at p1
                cases e4 : ixN ds.length k with
                | none => simp only [e4] at p1; exact p1.elim
                | some j =>
                  simp only [e4] at p1
                  refine ⟨F1, ρ1, g1, i, pp, _, E1, e1, e3, fun vo H2 s2 l2 => ⟨F1, ρ1, g1, .int k, E1.same s2, e2, fun vi H3 k3 s3 r3 => ?_⟩⟩
                  have l3 := l2.same s3
                  have s23 := s2.trans s3
                  obtain ⟨ad, vs, g0, rfl, hv, rr, kk⟩ := l3.open
                  obtain ⟨f2, h1, h2⟩ := rr.set (ixN_lt e4) (r1.same s23)
                  obtain ⟨f', E', _, G', S'⟩ := kk (kx := k1) (d' := .non) (v' := .non) (kr := f0) (G1.same s23) h1 ⟨rfl, rfl⟩ (fun x => by have := h2 x; rw [f0_at]; omega)
                  exact ⟨ad, vs, k, j, rfl, r3.1, hv, by rw [← rr.length]; exact e4, p1 F1 _ σ f' E' (G'.le le_l) ((Stp.same s23).trans S' fun _ y => y) KeepS.refl⟩
              | false => simp only [e3] at p1; exact p1.elim
            | _ => simp only [e3] at p1; exact p1.elim
        | _ => simp only [e1, e2] at p1; exact p1.elim
/-! ### methods of lists -/
variable {name : Str} {id : String} {apos cpos : Pos} {r : V → List V → Hp → VK → Prop} {mop : MopL}
theorem imp_mtdM (hL : L.K = X.K) (hmut : MutR L r mop) {qp : PA'} : ∀ σ H Q, tD L W (mtdM mop pl qp) σ H Q → tBM X.K "list" r (tLoc L pl) (tAP L qp) σ H Q := fun σ H Q ⟨Kp, F, ρ, g, E, G, p⟩ => by
  unfold mtdM at p
  cases e1 : pl ρ with
  | none => simp only [e1] at p; exact p.elim
  | some x =>
    obtain ⟨i, pp⟩ := x
    cases e2 : qp ρ with
    | none => simp only [e1, e2] at p; exact p.elim
    | some as =>
      simp only [e1, e2] at p
      by_cases hf : froL as = true
      · simp only [if_pos hf] at p
        cases e3 : ρ.sub i pp with
        | none => simp only [e3] at p; exact p.elim
        | some n =>
          cases n with
          | lst ow ds =>
            cases ow with
            | true =>
              simp only [e3] at p
              cases e4 : mop ds as with
              | none => simp only [e4] at p; exact p.elim
              | some y =>
                obtain ⟨ds', d'⟩ := y
                simp only [e4] at p
                refine ⟨F, ρ, g, i, pp, _, E, e1, e3, fun vo H2 s2 l2 => ?_⟩
                obtain ⟨ad0, vs0, _, ev0, hv0, _, _⟩ := l2.open
                subst ev0
                refine ⟨.inl ⟨rfl, vs0, SqL.of hv0⟩, F, ρ, g, as, E.same s2, e2, fun ws H3 k3 s3 r3 => ?_⟩
                have ek := Reps.fro0 as hf r3
                subst ek
                have s23 := s2.trans s3
                obtain ⟨ad, vs, g0, eva, hv, rr, kk⟩ := (l2.same s3).open
                obtain rfl := V.ref.inj eva
                refine hmut F H3 ad0 vs ds as ws ds' d' g0 f0 Q hv rr r3 e4 fun xs' v' g' k' h1 h2 h3 => ?_
                obtain ⟨f', E', R', G', S'⟩ := kk (kx := f0) (by rw [fadd_f0]; exact G.same s23) h1 h2 h3
                exact p F _ f' E' ((Stp.same s23).trans S' fun _ y => y) v' k' R' G'
            | false => simp only [e3] at p; exact p.elim
          | _ => simp only [e3] at p; exact p.elim
      · simp only [if_neg hf] at p
        exact p.elim
theorem putAt_nil {ρ : Env} {i : Nat} {c d : D} (h : ρ.at i = some d) : ρ.putAt i [] c = List.set ρ i (some c) := by unfold Env.putAt; rw [h]; rfl
theorem sub_nil {ρ : Env} {i : Nat} {d : D} (h : ρ.at i = some d) : ρ.sub i [] = some d := by unfold Env.sub; rw [h]; rfl
theorem imp_mtdN (hmut : MutR L r mop) {i : Nat} : ∀ σ H Q, tD L W (mtdN mop i q) σ H Q → tBM X.K "list" r (tVar i) (tA L W q) σ H Q := fun σ H Q ⟨Kp, F, ρ, g, E, G, p⟩ => by
  unfold mtdN at p
  cases e0 : ρ.at i with
  | none => simp only [e0] at p; exact p.elim
  | some d0 =>
    cases d0 with
    | lst ow ds0 =>
      cases ow with
      | true =>
        simp only [e0] at p
        obtain ⟨v, hv0, l0⟩ := E.lens e0
        obtain ⟨ad, vs0, _, rfl, hv, _, _⟩ := l0.open
        refine ⟨.ref ad, hv0, .inl ⟨rfl, vs0, SqL.of hv⟩, bA0 (L := L) E G p fun as ρ1 F1 H1 g1 ws k1 E1 r1 G1 s1 p1 => ?_⟩
        cases e1 : valsOf as with
        | none => simp only [e1] at p1; exact p1.elim
        | some as' =>
          cases e2 : ρ1.at i with
          | none => simp only [e1, e2] at p1; exact p1.elim
          | some d1 =>
            cases d1 with
            | lst ow ds =>
              cases ow with
              | true =>
                simp only [e1, e2] at p1
                cases e4 : mop ds as' with
                | none => simp only [e4] at p1; exact p1.elim
                | some y =>
                  obtain ⟨ds', d'⟩ := y
                  simp only [e4] at p1
                  obtain ⟨v1, hv1, l1⟩ := E1.lens e2
                  obtain ⟨ad1, vs, g0, rfl, hv2, rr, kk⟩ := l1.open
                  rw [hv0] at hv1
                  obtain rfl := V.ref.inj (Option.some.inj (Option.some.inj hv1))
                  refine hmut F1 H1 ad vs ds as' ws ds' d' g0 k1 Q hv2 rr (valsOf_reps r1 e1) e4 fun xs' v' g' k' h1 h2 h3 => ?_
                  obtain ⟨f', E', R', G', S'⟩ := kk G1 h1 h2 h3
                  rw [putAt_nil e2] at E'
                  exact p1 F1 _ f' E' S' v' k' R' G'
              | false => simp only [e1, e2] at p1; exact p1.elim
            | _ => simp only [e1, e2] at p1; exact p1.elim
      | false => simp only [e0] at p; exact p.elim
    | _ => simp only [e0] at p; exact p.elim
theorem ee_mtd (hL : L.K = X.K) (pa : PlainAttrs "list") (slot : Slot "list" name id) (hty : typeOf (.builtin id) = pure (.type "method_descriptor")) (hm : MtR X id r) (hmut : MutR L r mop) (ho : PE X o (tLoc L pl)) {qp : PA'} (ha : PA X (e :: es) (tAP L qp)) (hbase : attributeBase o name X.env (eval o X.env) = eval o X.env := by rfl) (hfew : ((backTo cpos (starEach (e :: es) X.env)).all (fun x => !x.1) && (backToKw cpos (keywordEach [] X.env)).all (fun x => x.1.isSome) && decide ((e :: es).length + ([] : List Keyword).length + (if ([] : List Keyword).isEmpty then 0 else 1) < 30)) = true := by rfl) (hline : (apos.endLine == cpos.line) = true := by rfl) (hs : starEach (e :: es) X.env = (false, eval e X.env) :: starEach es X.env := by rfl) (hplain : (backTo cpos (starEach es X.env)).any (·.1) = false := by rfl) :
    PE X (.Call (.Attribute o name apos) (e :: es) [] cpos) (tD L W (mtdM mop pl qp)) := (pe_bm pa slot hty hm ho ha hbase hfew hline hs hplain).imp (imp_mtdM hL hmut)
theorem ee_mtd0 (hL : L.K = X.K) (pa : PlainAttrs "list") (slot : Slot "list" name id) (hty : typeOf (.builtin id) = pure (.type "method_descriptor")) (hm : MtR X id r) (hmut : MutR L r mop) (ho : PE X o (tLoc L pl))
    (hbase : attributeBase o name X.env (eval o X.env) = eval o X.env := by rfl) (hline : (apos.endLine == cpos.line) = true := by rfl) :
    PE X (.Call (.Attribute o name apos) [] [] cpos) (tD L W (mtdM mop pl nilP)) := (pe_bm0 pa slot hty hm ho hbase hline).imp fun σ H Q h => by
  obtain ⟨F, ρ, g, i, p, c, E, h1, h2, k⟩ := imp_mtdM (X := X) hL hmut σ H Q h
  refine ⟨F, ρ, g, i, p, c, E, h1, h2, fun v H' s l => ?_⟩
  obtain ⟨ty, F2, ρ2, g2, ds, E2, e2, k2⟩ := k v H' s l
  obtain rfl := Option.some.inj e2; exact ⟨ty, k2 [] H' f0 (Same.refl _) ⟨rfl, rfl⟩⟩
theorem ee_mtdN {i : Nat} (pa : PlainAttrs "list") (slot : Slot "list" name id) (hty : typeOf (.builtin id) = pure (.type "method_descriptor")) (hm : MtR X id r) (hmut : MutR L r mop) (ho : PE X o (tVar i)) (ha : PA X (e :: es) (tA L W q)) (hbase : attributeBase o name X.env (eval o X.env) = eval o X.env := by rfl) (hfew : ((backTo cpos (starEach (e :: es) X.env)).all (fun x => !x.1) && (backToKw cpos (keywordEach [] X.env)).all (fun x => x.1.isSome) && decide ((e :: es).length + ([] : List Keyword).length + (if ([] : List Keyword).isEmpty then 0 else 1) < 30)) = true := by rfl) (hline : (apos.endLine == cpos.line) = true := by rfl) (hs : starEach (e :: es) X.env = (false, eval e X.env) :: starEach es X.env := by rfl) (hplain : (backTo cpos (starEach es X.env)).any (·.1) = false := by rfl) :
    PE X (.Call (.Attribute o name apos) (e :: es) [] cpos) (tD L W (mtdN mop i q)) := (pe_bm pa slot hty hm ho ha hbase hfew hline hs hplain).imp (imp_mtdN hmut)
end

/-! ### the methods -/
def moAppend : MopL := fun ds as => match as with
  | [d] => if ds.length < sizeLine then some (ds ++ [d], .non) else none
  | _ => none
theorem mut_append {L : Ly} : MutR L rAppend moAppend := fun F H l xs ds as vs ds' d' g ka Q hl r ra h k => by
  match as, h with
  | [d], h =>
    by_cases hz : ds.length < sizeLine
    · simp only [moAppend, if_pos hz] at h
      obtain ⟨rfl, rfl⟩ := Prod.mk.inj (Option.some.inj h)
      obtain ⟨v, ws, g1, h1, rfl, e1, r1, rfl, rfl⟩ := ra
      exact ⟨l, xs, v, rfl, rfl, hl, by rw [← r.length]; exact hz, k (xs ++ [v]) .non (fadd g g1) f0 (r.snoc r1) ⟨rfl, rfl⟩ fun a => by rw [e1]; simp only [fadd_at, f0_at]; omega⟩
    · simp only [moAppend, if_neg hz] at h
      exact nomatch h
def moPop : MopL := fun ds as => match as with
  | [] => match ds[ds.length - 1]? with
    | some d => some (ds.dropLast, d)
    | none => none
  | _ => none
theorem Reps.split_last {L : Ly} {F : AP} {H : Hp} : ∀ {ds : List D} {vs : List V} {f : Fp} {d : D}, Reps L F H ds vs f → ds[ds.length - 1]? = some d → ∃ v g h, vs[vs.length - 1]? = some v ∧ Rep L F H d v g ∧ Reps L F H ds.dropLast vs.dropLast h ∧ ∀ a, h a + g a = f a
  | [], vs, f, d, _, h => by simp at h
  | [d0], vs, f, d, ⟨v, ws, g, h, e, ef, r, e2, e3⟩, hd => by
    have e0 : d0 = d := by simpa using hd
    subst e0
    subst e e2 e3
    exact ⟨v, g, f0, rfl, r, ⟨rfl, rfl⟩, fun a => by rw [ef]; simp only [fadd_at, f0_at]; omega⟩
  | d0 :: d1 :: ds, vs, f, d, ⟨v, ws, g, h, e, ef, r, r2⟩, hd => by
    obtain ⟨v1, g1, h1, q1, q2, q3, q4⟩ := Reps.split_last (ds := d1 :: ds) r2 (by simpa using hd)
    obtain ⟨w, ws', _, _, ew, _, _, _⟩ := id r2
    subst ew
    subst e
    refine ⟨v1, g1, fadd g h1, by simpa using q1, q2, ⟨v, _, g, h1, rfl, rfl, r, q3⟩, fun a => ?_⟩
    have := q4 a
    rw [ef]; simp only [fadd_at]; omega
theorem mut_pop {L : Ly} : MutR L rPop moPop := fun F H l xs ds as vs ds' d' g ka Q hl r ra h k => by
  match as, h with
  | [], h =>
    cases e : ds[ds.length - 1]? with
    | none => simp only [moPop, e] at h; exact nomatch h
    | some d =>
      simp only [moPop, e] at h
      obtain ⟨rfl, rfl⟩ := Prod.mk.inj (Option.some.inj h)
      obtain ⟨v, g1, h1, q1, q2, q3, q4⟩ := r.split_last e
      obtain ⟨rfl, rfl⟩ := ra
      exact ⟨l, xs, v, rfl, rfl, hl, q1, k xs.dropLast v h1 g1 q3 q2 fun a => by have := q4 a; rw [f0_at]; omega⟩
def moPopAt : MopL := fun ds as => match as with
  | [.int i] => if inR i then (match ixN ds.length i with
    | some j => match ds[j]? with
      | some d => some (ds.eraseIdx j, d)
      | none => none
    | none => none) else none
  | _ => none
theorem Reps.erase {L : Ly} {F : AP} {H : Hp} : ∀ {ds : List D} {vs : List V} {f : Fp} {j : Nat} {d : D}, Reps L F H ds vs f → ds[j]? = some d → ∃ v g h, vs[j]? = some v ∧ Rep L F H d v g ∧ Reps L F H (ds.eraseIdx j) (vs.eraseIdx j) h ∧ ∀ a, h a + g a = f a
  | [], vs, f, j, d, _, h => by simp at h
  | d0 :: ds, vs, f, 0, d, ⟨v, ws, g, h, e, ef, r, r2⟩, hd => by
    have e0 : d0 = d := by simpa using hd
    subst e0
    exact ⟨v, g, h, by rw [e]; rfl, r, by rw [e]; exact r2, fun a => by rw [ef, fadd_at]; omega⟩
  | d0 :: ds, vs, f, j + 1, d, ⟨v0, ws, g0, h0, e, ef, r, r2⟩, hd => by
    obtain ⟨v, g, h, q1, q2, q3, q4⟩ := Reps.erase (j := j) r2 (by simpa using hd)
    exact ⟨v, g, fadd g0 h, by rw [e]; simpa using q1, q2, by rw [e]; exact ⟨v0, _, g0, h, rfl, rfl, r, q3⟩, fun a => by have := q4 a; rw [ef]; simp only [fadd_at]; omega⟩
theorem mut_popAt {L : Ly} : MutR L rPopAt moPopAt := fun F H l xs ds as vs ds' d' g ka Q hl r ra h k => by
  match as, h with
  | [.int i], h =>
    by_cases hi : inR i
    · simp only [moPopAt, if_pos hi] at h
      cases e : ixN ds.length i with
      | none => simp only [e] at h; exact nomatch h
      | some j =>
        cases e2 : ds[j]? with
        | none => simp only [e, e2] at h; exact nomatch h
        | some d =>
          simp only [e, e2] at h
          obtain ⟨rfl, rfl⟩ := Prod.mk.inj (Option.some.inj h)
          obtain ⟨v, ws, g1, h1, rfl, e1, r1, rfl, rfl⟩ := ra
          obtain ⟨w, g2, h2, q1, q2, q3, q4⟩ := r.erase e2
          have hz := r.length
          obtain ⟨n1, n2, n3, n4⟩ := ixN_seq e
          have hr := hi
          unfold inR at hr
          exact ⟨l, xs, i, j, w, rfl, by rw [r1.1], hl, by omega, by omega, by rw [← hz]; exact n1, q1, k _ w h2 g2 q3 q2 fun a => by have := q4 a; omega⟩
    · simp only [moPopAt, if_neg hi] at h
      exact nomatch h
end VL
end
section
set_option Elab.async false
set_option linter.all false
set_option maxRecDepth 100000
namespace VL
open PySem L2

/-! ### ints -/
def intOp (g : Int → Int → D) : D → D → Option D
  | .int i, .int j => some (g i j)
  | _, _ => none
def intOpC (C : Int → Int → Prop) [∀ i j, Decidable (C i j)] (g : Int → Int → D) : D → D → Option D
  | .int i, .int j => if C i j then some (g i j) else none
  | _, _ => none
section
variable {L : Ly}
theorem eff_int {gv : Int → Int → V} {gd : Int → Int → D} (h : ∀ F H i j, Rep L F H (gd i j) (gv i j) f0) : OpEff L (rI0 gv) (intOp gd) := fun F H d1 d2 d v1 v2 g1 g2 Q r1 r2 e k => by
  cases d1 with
  | int i =>
    cases d2 with
    | int j =>
      obtain rfl := Option.some.inj e
      exact ⟨i, j, r1.1, r2.1, k _ H f0 (Same.refl H) New.zero (h F H i j)⟩
    | _ => exact nomatch e
  | _ => cases d2 <;> exact nomatch e
theorem eff_intC {C : Int → Int → Prop} [∀ i j, Decidable (C i j)] {gv : Int → Int → V} {gd : Int → Int → D} (h : ∀ F H i j, Rep L F H (gd i j) (gv i j) f0) : OpEff L (rI C gv) (intOpC C gd) := fun F H d1 d2 d v1 v2 g1 g2 Q r1 r2 e k => by
  cases d1 with
  | int i =>
    cases d2 with
    | int j =>
      by_cases c : C i j
      · simp only [intOpC, if_pos c] at e
        obtain rfl := Option.some.inj e
        exact ⟨i, j, r1.1, r2.1, c, k _ H f0 (Same.refl H) New.zero (h F H i j)⟩
      · simp only [intOpC, if_neg c] at e
        exact nomatch e
    | _ => exact nomatch e
  | _ => cases d2 <;> exact nomatch e
end
instance (i j : Int) : Decidable (CMul i j) := inferInstanceAs (Decidable (_ ∨ _))
instance (i j : Int) : Decidable (CDivW i j) := inferInstanceAs (Decidable (_ ∧ _))
instance (i j : Int) : Decidable (CPow i j) := inferInstanceAs (Decidable (_ ∧ _ ∧ _))
abbrev addD := intOp fun i j => .int (i + j)
abbrev subD := intOp fun i j => .int (i - j)
abbrev mulD := intOpC CMul fun i j => .int (i * j)
abbrev modD := intOpC (fun _ j => 0 < j) fun i j => .int (i % j)
abbrev fdivD := intOpC CDivW fun i j => .int (i / j)
abbrev powD := intOpC CPow fun i j => .int (i ^ j.toNat)
abbrev ltD := intOp fun i j => .bl (decide (i < j))
abbrev leD := intOp fun i j => .bl (decide (i ≤ j))
abbrev gtD := intOp fun i j => .bl (decide (j < i))
abbrev geD := intOp fun i j => .bl (decide (j ≤ i))
def negD : D → Option D
  | .int i => some (.int (-i))
  | _ => none
section
variable {L : Ly}
theorem eff_add : OpEff L (rI0 fun i j => .int (i + j)) addD := eff_int fun _ _ _ _ => ⟨rfl, rfl⟩
theorem eff_sub : OpEff L (rI0 fun i j => .int (i - j)) subD := eff_int fun _ _ _ _ => ⟨rfl, rfl⟩
theorem eff_mul : OpEff L (rI CMul fun i j => .int (i * j)) mulD := eff_intC fun _ _ _ _ => ⟨rfl, rfl⟩
theorem eff_mod : OpEff L (rI (fun _ j => 0 < j) fun i j => .int (i % j)) modD := eff_intC fun _ _ _ _ => ⟨rfl, rfl⟩
theorem eff_fdiv : OpEff L (rI CDivW fun i j => .int (i / j)) fdivD := eff_intC fun _ _ _ _ => ⟨rfl, rfl⟩
theorem eff_pow : OpEff L (rI CPow fun i j => .int (i ^ j.toNat)) powD := eff_intC fun _ _ _ _ => ⟨rfl, rfl⟩
theorem eff_lt : OpEff L (rI0 fun i j => .bl (decide (i < j))) ltD := eff_int fun _ _ _ _ => ⟨rfl, rfl⟩
theorem eff_le : OpEff L (rI0 fun i j => .bl (decide (i ≤ j))) leD := eff_int fun _ _ _ _ => ⟨rfl, rfl⟩
theorem eff_gt : OpEff L (rI0 fun i j => .bl (decide (j < i))) gtD := eff_int fun _ _ _ _ => ⟨rfl, rfl⟩
theorem eff_ge : OpEff L (rI0 fun i j => .bl (decide (j ≤ i))) geD := eff_int fun _ _ _ _ => ⟨rfl, rfl⟩
theorem eff_neg : UnEff L (rU fun i => .int (-i)) negD := fun F H d1 d v1 g1 Q r1 e k => by
  cases d1 with
  | int i =>
    obtain rfl := Option.some.inj e
    exact ⟨i, r1.1, k _ H f0 (Same.refl H) New.zero ⟨rfl, rfl⟩⟩
  | _ => exact nomatch e
end

/-! ### None, truth values -/
def D.isNon : D → Bool
  | .non => true
  | _ => false
theorem Rep.isNon {L : Ly} {F : AP} {H : Hp} {d : D} {v : V} {f : Fp} (r : Rep L F H d v f) : decide (v = .non) = d.isNon := by
  cases d with
  | non => rw [r.1]; rfl
  | bl _ => rw [r.1]; rfl
  | int _ => rw [r.1]; rfl
  | str _ => rw [r.1]; rfl
  | cls _ => rw [r.1]; rfl
  | ty _ => rw [r.1]; rfl
  | tup _ => obtain ⟨_, _, rfl, _⟩ := r; rfl
  | lst o _ => cases o <;> (obtain ⟨_, _, _, _⟩ := r; simp_all [D.isNon])
  | ext _ => obtain ⟨_, _, rfl, _⟩ := r; rfl
  | dct o _ _ => cases o <;> (obtain ⟨_, _, _, _⟩ := r; simp_all [D.isNon])
  | obj o _ _ _ => obtain ⟨_, _, _, _, rfl, _⟩ := r.ins; rfl
  | exn _ _ _ => obtain ⟨_, _, _, rfl, _⟩ := r; rfl
def isNonD : D → D → Option D
  | a, .non => some (.bl a.isNon)
  | _, _ => none
def notNonD : D → D → Option D
  | a, .non => some (.bl (!a.isNon))
  | _, _ => none
def isBlD : D → D → Option D
  | .bl a, .bl b => some (.bl (decide (a = b)))
  | _, _ => none
def notBlD : D → D → Option D
  | .bl a, .bl b => some (.bl (!decide (a = b)))
  | _, _ => none
section
variable {L : Ly}
theorem eff_isN : OpEff L (fun x y H Q => y = .non ∧ Q (.bl (decide (x = .non))) H) isNonD := fun F H d1 d2 d v1 v2 g1 g2 Q r1 r2 e k => by
  cases d2 with
  | non =>
    have e' : some (D.bl d1.isNon) = some d := by cases d1 <;> exact e
    obtain rfl := Option.some.inj e'; refine ⟨r2.1, ?_⟩
    rw [r1.isNon]
    exact k _ H f0 (Same.refl H) New.zero ⟨rfl, rfl⟩
  | _ => cases d1 <;> exact nomatch e
theorem eff_notN : OpEff L (fun x y H Q => y = .non ∧ Q (.bl (!decide (x = .non))) H) notNonD := fun F H d1 d2 d v1 v2 g1 g2 Q r1 r2 e k => by
  cases d2 with
  | non =>
    have e' : some (D.bl (!d1.isNon)) = some d := by cases d1 <;> exact e
    obtain rfl := Option.some.inj e'; refine ⟨r2.1, ?_⟩
    rw [r1.isNon]
    exact k _ H f0 (Same.refl H) New.zero ⟨rfl, rfl⟩
  | _ => cases d1 <;> exact nomatch e
theorem eff_isBl : OpEff L rIsB isBlD := fun F H d1 d2 d v1 v2 g1 g2 Q r1 r2 e k => by
  cases d1 with
  | bl a =>
    cases d2 with
    | bl b =>
      obtain rfl := Option.some.inj e
      exact ⟨a, b, r1.1, r2.1, k _ H f0 (Same.refl H) New.zero ⟨rfl, rfl⟩⟩
    | _ => exact nomatch e
  | _ => cases d2 <;> exact nomatch e
theorem eff_notBl : OpEff L rNotB notBlD := fun F H d1 d2 d v1 v2 g1 g2 Q r1 r2 e k => by
  cases d1 with
  | bl a =>
    cases d2 with
    | bl b =>
      obtain rfl := Option.some.inj e
      exact ⟨a, b, r1.1, r2.1, k _ H f0 (Same.refl H) New.zero ⟨rfl, rfl⟩⟩
    | _ => exact nomatch e
  | _ => cases d2 <;> exact nomatch e
end

/-! ### == of data -/
mutual
def D.pd : D → Option PyData
  | .non => some .none
  | .bl b => some (.bool b)
  | .int i => some (.int i)
  | .str x => some (.str x)
  | .tup ds => (pdL ds).map .tuple
  | .lst _ ds => (pdL ds).map .list
  | .ext ds => (pdL ds).map .list
  | _ => none
def pdL : List D → Option (List PyData)
  | [] => some []
  | d :: ds => match d.pd, pdL ds with
    | some x, some xs => some (x :: xs)
    | _, _ => none
end
mutual
theorem Rep.dp {L : Ly} {F : AP} {H : Hp} : ∀ (d : D) {v : V} {f : Fp} {x : PyData}, Rep L F H d v f → d.pd = some x → Dp L.K H v x
  | .non, _, _, _, r, e => by obtain rfl := Option.some.inj e; rw [r.1]; exact .non
  | .bl b, _, _, _, r, e => by obtain rfl := Option.some.inj e; rw [r.1]; exact .bl b
  | .int i, _, _, _, r, e => by obtain rfl := Option.some.inj e; rw [r.1]; exact .int i
  | .str x, _, _, _, r, e => by obtain rfl := Option.some.inj e; rw [r.1]; exact .str x
  | .cls _, _, _, _, _, e => nomatch e
  | .ty _, _, _, _, _, e => nomatch e
  | .tup ds, _, _, _, ⟨a, vs, e1, q, r⟩, e => by
      obtain ⟨xs, h1, h2⟩ := Option.map_eq_some_iff.mp e
      subst h2 e1
      exact .tup (SqT.of q) (Reps.dp ds r h1)
  | .lst true ds, _, _, _, ⟨a, vs, g, e1, q, _, r⟩, e => by
      obtain ⟨xs, h1, h2⟩ := Option.map_eq_some_iff.mp e
      subst h2 e1
      exact .lst (SqL.of q) (Reps.dp ds r h1)
  | .lst false ds, _, _, _, ⟨a, vs, e1, q, r⟩, e => by
      obtain ⟨xs, h1, h2⟩ := Option.map_eq_some_iff.mp e
      subst h2 e1
      exact .lst (SqL.of q.1) (Reps.dp ds r h1)
  | .ext ds, _, _, _, ⟨a, vs, e1, q, r⟩, e => by
      obtain ⟨xs, h1, h2⟩ := Option.map_eq_some_iff.mp e
      subst h2 e1
      exact .lst q.sq (Reps.dp ds r h1)
  | .dct _ _ _, _, _, _, _, e => nomatch e
  | .obj _ _ _ _, _, _, _, _, e => nomatch e
  | .exn _ _ _, _, _, _, _, e => nomatch e
theorem Reps.dp {L : Ly} {F : AP} {H : Hp} : ∀ (ds : List D) {vs : List V} {f : Fp} {xs : List PyData}, Reps L F H ds vs f → pdL ds = some xs → DpAll L.K H vs xs
  | [], _, _, _, r, e => by obtain rfl := Option.some.inj e; rw [r.1]; exact .nil
  | d :: ds, _, _, xs, ⟨v, ws, g, h, e1, _, r1, r2⟩, e => by
      unfold pdL at e
      cases h1 : d.pd with
      | none => rw [h1] at e; exact nomatch e
      | some x =>
        cases h2 : pdL ds with
        | none => rw [h1, h2] at e; exact nomatch e
        | some ys =>
          rw [h1, h2] at e
          obtain rfl := Option.some.inj e
          subst e1
          exact .cons (Rep.dp d r1 h1) (Reps.dp ds r2 h2)
end
/-- what == says of data: None if it is not known -/
def eqB (a b : D) : Option Bool := match a, b with
  | .int i, .int j => some (decide (i = j))
  | .str x, .str y => some (decide (x = y))
  | .bl x, .bl y => some (decide (x = y))
  | a, b => match a.pd, b.pd with
    | some x, some y => if (SeqAt.shaped x && SeqAt.shaped y) = true then some (PyData.eqv x y) else none
    | _, _ => none
def eqD (a b : D) : Option D := (eqB a b).map .bl
def neD (a b : D) : Option D := (eqB a b).map fun k => .bl (!k)
section
variable {X : Cx} {L : Ly}
def rEqA (K : PySem.W.Frag) : R2 := fun x y H Q => rEq x y H Q ∨ rEqD K x y H Q
def rNeA (K : PySem.W.Frag) : R2 := fun x y H Q => rNe x y H Q ∨ rNeD K x y H Q
theorem op_eqA (hu : X.A.units + 64 < cLine) : OpR X (compareOp .Eq) (rEqA X.K) := op_eq.or (op_eqD hu)
theorem op_neA (hu : X.A.units + 64 < cLine) : OpR X (compareOp .NotEq) (rNeA X.K) := op_ne.or (op_neD hu)
theorem eqB_ok {F : AP} {H : Hp} {d1 d2 : D} {v1 v2 : V} {g1 g2 : Fp} {k : Bool} (r1 : Rep L F H d1 v1 g1) (r2 : Rep L F H d2 v2 g2) (e : eqB d1 d2 = some k) :
    (scal v1 v2 = true ∧ decide (v1 = v2) = k) ∨ ∃ x y, Dp L.K H v1 x ∧ Dp L.K H v2 y ∧ SeqAt.shaped x = true ∧ SeqAt.shaped y = true ∧ PyData.eqv x y = k := by
  have gen : (match d1.pd, d2.pd with | some x, some y => if (SeqAt.shaped x && SeqAt.shaped y) = true then some (PyData.eqv x y) else none | _, _ => none) = some k → ∃ x y, Dp L.K H v1 x ∧ Dp L.K H v2 y ∧ SeqAt.shaped x = true ∧ SeqAt.shaped y = true ∧ PyData.eqv x y = k := fun e => by
    cases h1 : d1.pd with
    | none => rw [h1] at e; exact nomatch e
    | some x =>
      cases h2 : d2.pd with
      | none => rw [h1, h2] at e; exact nomatch e
      | some y =>
        rw [h1, h2] at e
        by_cases hs : (SeqAt.shaped x && SeqAt.shaped y) = true
        · simp only [if_pos hs] at e
          have hs' := Bool.and_eq_true_iff.mp hs
          exact ⟨x, y, r1.dp d1 h1, r2.dp d2 h2, hs'.1, hs'.2, Option.some.inj e⟩
        · simp only [if_neg hs] at e
          exact nomatch e
  cases d1 with
  | int i =>
    cases d2 with
    | int j =>
      obtain rfl := Option.some.inj e
      refine .inl ⟨by rw [r1.1, r2.1]; rfl, by rw [r1.1, r2.1]; exact decide_eq_decide.mpr ⟨fun z => V.int.inj z, fun z => congrArg _ z⟩⟩
    | _ => exact .inr (gen e)
  | str i =>
    cases d2 with
    | str j =>
      obtain rfl := Option.some.inj e
      refine .inl ⟨by rw [r1.1, r2.1]; rfl, by rw [r1.1, r2.1]; exact decide_eq_decide.mpr ⟨fun z => V.str.inj z, fun z => congrArg _ z⟩⟩
    | _ => exact .inr (gen e)
  | bl i =>
    cases d2 with
    | bl j =>
      obtain rfl := Option.some.inj e
      refine .inl ⟨by rw [r1.1, r2.1]; rfl, by rw [r1.1, r2.1]; exact decide_eq_decide.mpr ⟨fun z => V.bl.inj z, fun z => congrArg _ z⟩⟩
    | _ => exact .inr (gen e)
  | _ => exact .inr (gen e)
theorem eff_eq : OpEff L (rEqA L.K) eqD := fun F H d1 d2 d v1 v2 g1 g2 Q r1 r2 e k => by
  obtain ⟨c, h1, h2⟩ := Option.map_eq_some_iff.mp e
  subst h2
  have q := k (.bl c) H f0 (Same.refl H) New.zero ⟨rfl, rfl⟩
  rcases eqB_ok r1 r2 h1 with ⟨h2, h3⟩ | ⟨x, y, a1, a2, a3, a4, a5⟩
  · exact .inl ⟨h2, by rw [h3]; exact q⟩
  · exact .inr ⟨x, y, a1, a2, a3, a4, by rw [a5]; exact q⟩
theorem eff_ne : OpEff L (rNeA L.K) neD := fun F H d1 d2 d v1 v2 g1 g2 Q r1 r2 e k => by
  obtain ⟨c, h1, h2⟩ := Option.map_eq_some_iff.mp e
  subst h2
  have q := k (.bl !c) H f0 (Same.refl H) New.zero ⟨rfl, rfl⟩
  rcases eqB_ok r1 r2 h1 with ⟨h2, h3⟩ | ⟨x, y, a1, a2, a3, a4, a5⟩
  · exact .inl ⟨h2, by rw [h3]; exact q⟩
  · exact .inr ⟨x, y, a1, a2, a3, a4, by rw [a5]; exact q⟩

/-! ### in -/
def D.flat : D → Bool
  | .non => true
  | .bl _ => true
  | .int _ => true
  | .str _ => true
  | _ => false
def D.toV : D → V
  | .non => .non
  | .bl b => .bl b
  | .int i => .int i
  | .str x => .str x
  | _ => .non
theorem Rep.flat {F : AP} {H : Hp} {d : D} {v : V} {f : Fp} (r : Rep L F H d v f) (h : d.flat = true) : v = d.toV ∧ flatV v = true := by
  cases d <;> first | (exfalso; exact Bool.noConfusion h) | exact ⟨r.1, by rw [r.1]; rfl⟩
theorem Reps.flat {F : AP} {H : Hp} : ∀ {ds : List D} {vs : List V} {f : Fp}, Reps L F H ds vs f → ds.all D.flat = true → vs = ds.map D.toV ∧ vs.all flatV = true
  | [], vs, f, ⟨e, _⟩, _ => by rw [e]; exact ⟨rfl, rfl⟩
  | d :: ds, vs, f, ⟨v, ws, g, h, e, _, r1, r2⟩, q => by
    have q' : d.flat = true ∧ ds.all D.flat = true := by simpa using q
    obtain ⟨h1, h2⟩ := r1.flat q'.1
    obtain ⟨h3, h4⟩ := Reps.flat r2 q'.2
    rw [e, h3, List.map_cons, List.all_cons, ← h3, h4, h2, ← h1]
    exact ⟨rfl, rfl⟩
def seqOf : D → Option (List D)
  | .lst _ ds => some ds
  | .tup ds => some ds
  | .ext ds => some ds
  | _ => none
theorem Rep.seq {F : AP} {H : Hp} {d : D} {v : V} {f : Fp} {ds : List D} (r : Rep L F H d v f) (h : seqOf d = some ds) : ∃ a vs g, v = .ref a ∧ (SqL L.K H a vs ∨ SqT L.K H a vs) ∧ Reps L F H ds vs g := by
  cases d with
  | lst o es =>
    obtain rfl := Option.some.inj h
    obtain ⟨a, vs, g, e, q, r⟩ := r.list
    exact ⟨a, vs, g, e, .inl q, r⟩
  | tup es =>
    obtain rfl := Option.some.inj h
    obtain ⟨a, vs, e, q, r⟩ := r
    exact ⟨a, vs, _, e, .inr (SqT.of q), r⟩
  | ext es =>
    obtain rfl := Option.some.inj h
    obtain ⟨a, vs, e, q, r⟩ := r
    exact ⟨a, vs, _, e, .inl q.sq, r⟩
  | _ => exact nomatch h
def inD (neg : Bool) (a b : D) : Option D := match seqOf b with
  | some ds => if (a.flat && ds.all D.flat) = true then some (.bl (if neg then !inV a.toV (ds.map D.toV) else inV a.toV (ds.map D.toV))) else none
  | none => none
theorem eff_in {neg : Bool} : OpEff L (rIn L.K neg) (inD neg) := fun F H d1 d2 d v1 v2 g1 g2 Q r1 r2 e k => by
  unfold inD at e
  cases es : seqOf d2 with
  | none => rw [es] at e; exact nomatch e
  | some ds =>
    simp only [es] at e
    by_cases hf : (d1.flat && ds.all D.flat) = true
    · rw [if_pos hf] at e
      obtain rfl := Option.some.inj e
      have hf' := Bool.and_eq_true_iff.mp hf
      obtain ⟨a, vs, g, rfl, hq, rr⟩ := r2.seq es
      obtain ⟨h1, h2⟩ := r1.flat hf'.1
      obtain ⟨h3, h4⟩ := rr.flat hf'.2
      refine ⟨a, vs, rfl, hq, h2, h4, ?_⟩
      rw [h1, h3]
      exact k _ H f0 (Same.refl H) New.zero ⟨rfl, rfl⟩
    · rw [if_neg hf] at e
      exact nomatch e

/-! ### subscripts -/
def ixD (a b : D) : Option D := match seqOf a, b with
  | some ds, .int i => atI ds i
  | _, _ => none
theorem Reps.atI {F : AP} {H : Hp} {ds : List D} {vs : List V} {f : Fp} {i : Int} {d : D} (r : Reps L F H ds vs f) (h : L2.atI ds i = some d) : ∃ v g, L2.atI vs i = some v ∧ Rep L F H d v g := by
  unfold L2.atI at h ⊢
  obtain ⟨j, h1, h2⟩ := Option.bind_eq_some_iff.mp h
  obtain ⟨v, g, h3, h4, _⟩ := r.get h2
  rw [← r.length, h1]
  exact ⟨v, g, h3, h4⟩
theorem pure_ix : OpPure L (rIx L.K) ixD := fun F H d1 d2 d v1 v2 g1 g2 Q r1 r2 e k => by
  unfold ixD at e
  cases es : seqOf d1 with
  | none => rw [es] at e; exact nomatch e
  | some ds =>
    cases d2 with
    | int i =>
      simp only [es] at e
      obtain ⟨a, vs, g, rfl, hq, rr⟩ := r1.seq es
      obtain ⟨v, gk, h1, h2⟩ := rr.atI e
      rcases hq with hq | hq
      · exact .inl ⟨a, vs, i, v, rfl, r2.1, hq, h1, k v H gk (Same.refl H) h2⟩
      · exact .inr (.inl ⟨a, vs, i, v, rfl, r2.1, hq, h1, k v H gk (Same.refl H) h2⟩)
    | _ => simp only [es] at e; exact nomatch e
end
end VL
end
section
set_option Elab.async false
set_option linter.all false
set_option maxRecDepth 100000
namespace VL
open PySem L2

/-! ### built-ins -/
def lenD : List D → Option D
  | [d] => match d with
    | .str x => if x.length ≤ sizeLine then some (.int x.length) else none
    | d => (seqOf d).map fun ds => .int ds.length
  | _ => none
def absD : List D → Option D
  | [.int i] => some (.int (if i < 0 then -i else i))
  | _ => none
def toIntD : List D → Option D
  | [.int i] => some (.int i)
  | [.bl k] => some (.int (if k then 1 else 0))
  | _ => none
def max2D : List D → Option D
  | [.int i, .int j] => some (.int (if j > i then j else i))
  | _ => none
def min2D : List D → Option D
  | [.int i, .int j] => some (.int (if j < i then j else i))
  | _ => none
def intsD : List D → Option (List Int)
  | [] => some []
  | .int i :: r => (intsD r).map (i :: ·)
  | _ :: _ => none
def maxLD : List D → Option D
  | [d] => (seqOfL d).bind fun ds => (intsD ds).bind fun ns => ns.max?.map .int
  | _ => none
where seqOfL : D → Option (List D)
  | .lst _ ds => some ds
  | .ext ds => some ds
  | _ => none
def minLD : List D → Option D
  | [d] => (maxLD.seqOfL d).bind fun ds => (intsD ds).bind fun ns => ns.min?.map .int
  | _ => none
def sumLD : List D → Option D
  | [d] => (maxLD.seqOfL d).bind fun ds => (intsD ds).map fun ns => .int ns.sum
  | _ => none
def listD : List D → Option D
  | [d] => (seqOf d).bind fun ds => if froL ds = true then some (.lst true ds) else none
  | _ => none
def tupleD : List D → Option D
  | [d] => (seqOf d).bind fun ds => if froL ds = true then some (.tup ds) else none
  | _ => none
def pairD (p : Int × Int) : D := .tup [.int p.1, .int p.2]
def pairsD : List D → Option (List (Int × Int))
  | [] => some []
  | .tup [.int i, .int j] :: r => (pairsD r).map ((i, j) :: ·)
  | _ :: _ => none
def lexLe (p q : Int × Int) : Bool := decide (p.1 < q.1 ∨ (p.1 = q.1 ∧ p.2 ≤ q.2))
def sortP (ps : List (Int × Int)) : List (Int × Int) := ps.mergeSort lexLe
def sortedPD : List D → Option D
  | [d] => (maxLD.seqOfL d).bind fun ds => (pairsD ds).map fun ps => .lst true ((sortP ps).map pairD)
  | _ => none
section
variable {X : Cx} {L : Ly}
theorem Reps.one {F : AP} {H : Hp} {d : D} {vs : List V} {f : Fp} (r : Reps L F H [d] vs f) : ∃ v, vs = [v] ∧ Rep L F H d v f := by
  obtain ⟨v, ws, g, h, e, ef, r, e2, e3⟩ := r
  subst e2 e3
  rw [fadd_f0] at ef
  subst ef
  exact ⟨v, e, r⟩
theorem Reps.two {F : AP} {H : Hp} {d d' : D} {vs : List V} {f : Fp} (r : Reps L F H [d, d'] vs f) : ∃ v v' g g', vs = [v, v'] ∧ Rep L F H d v g ∧ Rep L F H d' v' g' := by
  obtain ⟨v, ws, g, h, e, ef, r, r2⟩ := r
  obtain ⟨v', e', r'⟩ := Reps.one r2
  exact ⟨v, v', g, h, by rw [e, e'], r, r'⟩
theorem eff_len : CallEff L (fun xs H Q => ∃ x n, xs = [x] ∧ LenV L.K x H n ∧ Q (.int n) H) lenD := fun F H ds d vs g1 Q r e k => by
  match ds, e with
  | [d0], e =>
    obtain ⟨v, ev, rd⟩ := Reps.one r
    subst ev
    clear r
    have r := rd
    have fin : ∀ n : Nat, d = .int n → Q (.int n) H := fun n h => k _ H f0 (Same.refl H) New.zero (by rw [h]; exact ⟨rfl, rfl⟩)
    have seq : ∀ es, seqOf d0 = some es → d = .int es.length → ∃ x n, [v] = [x] ∧ LenV L.K x H n ∧ Q (.int n) H := fun es hs hd => by
      obtain ⟨a, ws, g, rfl, hq, rr⟩ := r.seq hs
      refine ⟨.ref a, ws.length, rfl, ?_, fin _ (by rw [hd, rr.length])⟩
      rcases hq with hq | hq
      · exact .inl ⟨ws, hq, rfl⟩
      · exact .inr ⟨ws, hq, rfl⟩
    cases d0 with
    | str x =>
      by_cases hx : x.length ≤ sizeLine
      · simp only [lenD, if_pos hx] at e
        have ed := Option.some.inj e
        exact ⟨v, x.length, rfl, by rw [r.1]; exact ⟨hx, rfl⟩, fin _ ed.symm⟩
      · simp only [lenD, if_neg hx] at e
        exact nomatch e
    | lst o es => exact seq es rfl (Option.some.inj e).symm
    | tup es => exact seq es rfl (Option.some.inj e).symm
    | ext es => exact seq es rfl (Option.some.inj e).symm
    | _ => exact nomatch e
theorem eff_abs : CallEff L (fun xs H Q => ∃ i, xs = [.int i] ∧ Q (.int (if i < 0 then -i else i)) H) absD := fun F H ds d vs g1 Q r e k => by
  match ds, e with
  | [.int i], e =>
    obtain rfl := Option.some.inj e
    obtain ⟨v, ev, rd⟩ := Reps.one r
    subst ev
    clear r
    have r := rd
    exact ⟨i, by rw [r.1], k _ H f0 (Same.refl H) New.zero ⟨rfl, rfl⟩⟩
theorem eff_int1 : CallEff L (fun xs H Q => (∃ i, xs = [.int i] ∧ Q (.int i) H) ∨ ∃ k, xs = [.bl k] ∧ Q (.int (if k then 1 else 0)) H) toIntD := fun F H ds d vs g1 Q r e k => by
  match ds, e with
  | [.int i], e =>
    obtain rfl := Option.some.inj e
    obtain ⟨v, ev, rd⟩ := Reps.one r
    subst ev
    clear r
    have r := rd
    exact .inl ⟨i, by rw [r.1], k _ H f0 (Same.refl H) New.zero ⟨rfl, rfl⟩⟩
  | [.bl i], e =>
    obtain rfl := Option.some.inj e
    obtain ⟨v, ev, rd⟩ := Reps.one r
    subst ev
    clear r
    have r := rd
    exact .inr ⟨i, by rw [r.1], k _ H f0 (Same.refl H) New.zero ⟨rfl, rfl⟩⟩
theorem eff_max2 : CallEff L (fun xs H Q => ∃ i j, xs = [.int i, .int j] ∧ Q (.int (if j > i then j else i)) H) max2D := fun F H ds d vs g1 Q r e k => by
  match ds, e with
  | [.int i, .int j], e =>
    obtain rfl := Option.some.inj e
    obtain ⟨v, v', g, g', rfl, r1, r2⟩ := r.two
    exact ⟨i, j, by rw [r1.1, r2.1], k _ H f0 (Same.refl H) New.zero ⟨rfl, rfl⟩⟩
theorem eff_min2 : CallEff L (fun xs H Q => ∃ i j, xs = [.int i, .int j] ∧ Q (.int (if j < i then j else i)) H) min2D := fun F H ds d vs g1 Q r e k => by
  match ds, e with
  | [.int i, .int j], e =>
    obtain rfl := Option.some.inj e
    obtain ⟨v, v', g, g', rfl, r1, r2⟩ := r.two
    exact ⟨i, j, by rw [r1.1, r2.1], k _ H f0 (Same.refl H) New.zero ⟨rfl, rfl⟩⟩
theorem intsD_vs {F : AP} {H : Hp} : ∀ {ds : List D} {vs : List V} {f : Fp} {ns : List Int}, Reps L F H ds vs f → intsD ds = some ns → vs = ns.map V.int
  | [], vs, f, ns, ⟨e, _⟩, h => by obtain rfl := Option.some.inj h; rw [e]; rfl
  | d :: ds, vs, f, ns, ⟨v, ws, g, h', e, _, r1, r2⟩, h => by
    cases d with
    | int i =>
      obtain ⟨ms, h1, h2⟩ := Option.map_eq_some_iff.mp h
      subst h2
      rw [e, r1.1, intsD_vs r2 h1]; rfl
    | _ => exact nomatch h
theorem Rep.seqL {F : AP} {H : Hp} {d : D} {v : V} {f : Fp} {ds : List D} (r : Rep L F H d v f) (h : maxLD.seqOfL d = some ds) : ∃ a vs g, v = .ref a ∧ SqL L.K H a vs ∧ Reps L F H ds vs g := by
  cases d with
  | lst o es =>
    obtain rfl := Option.some.inj h
    obtain ⟨a, vs, g, e, q, r⟩ := r.list
    exact ⟨a, vs, g, e, q, r⟩
  | ext es =>
    obtain rfl := Option.some.inj h
    obtain ⟨a, vs, e, q, r⟩ := r
    exact ⟨a, vs, _, e, q.sq, r⟩
  | _ => exact nomatch h
theorem eff_maxL : CallEff L (rMax L.K) maxLD := fun F H ds d vs g1 Q r e k => by
  match ds, e with
  | [d0], e =>
    obtain ⟨v, ev, rd⟩ := Reps.one r
    subst ev
    clear r
    have r := rd
    obtain ⟨es, h1, e⟩ := Option.bind_eq_some_iff.mp e
    obtain ⟨ns, h2, e⟩ := Option.bind_eq_some_iff.mp e
    obtain ⟨m, h3, rfl⟩ := Option.map_eq_some_iff.mp e
    obtain ⟨a, ws, g, rfl, hq, rr⟩ := r.seqL h1
    obtain ⟨hm, hle⟩ := List.max?_eq_some_iff.mp h3
    refine ⟨a, ns, rfl, by rw [← intsD_vs rr h2]; exact hq, List.length_pos_of_mem hm, fun m' hm' hle' => ?_⟩
    have e1 := hle m' hm'
    have e2 := hle' m hm
    have : m' = m := by omega
    subst this
    exact k _ H f0 (Same.refl H) New.zero ⟨rfl, rfl⟩
theorem eff_minL : CallEff L (rMin L.K) minLD := fun F H ds d vs g1 Q r e k => by
  match ds, e with
  | [d0], e =>
    obtain ⟨v, ev, rd⟩ := Reps.one r
    subst ev
    clear r
    have r := rd
    obtain ⟨es, h1, e⟩ := Option.bind_eq_some_iff.mp e
    obtain ⟨ns, h2, e⟩ := Option.bind_eq_some_iff.mp e
    obtain ⟨m, h3, rfl⟩ := Option.map_eq_some_iff.mp e
    obtain ⟨a, ws, g, rfl, hq, rr⟩ := r.seqL h1
    obtain ⟨hm, hle⟩ := List.min?_eq_some_iff.mp h3
    refine ⟨a, ns, rfl, by rw [← intsD_vs rr h2]; exact hq, List.length_pos_of_mem hm, fun m' hm' hle' => ?_⟩
    have e1 := hle m' hm'
    have e2 := hle' m hm
    have : m' = m := by omega
    subst this
    exact k _ H f0 (Same.refl H) New.zero ⟨rfl, rfl⟩
theorem eff_sumL : CallEff L (rSum L.K) sumLD := fun F H ds d vs g1 Q r e k => by
  match ds, e with
  | [d0], e =>
    obtain ⟨v, ev, rd⟩ := Reps.one r
    subst ev
    clear r
    have r := rd
    obtain ⟨es, h1, e⟩ := Option.bind_eq_some_iff.mp e
    obtain ⟨ns, h2, rfl⟩ := Option.map_eq_some_iff.mp e
    obtain ⟨a, ws, g, rfl, hq, rr⟩ := r.seqL h1
    exact ⟨a, ns, rfl, by rw [← intsD_vs rr h2]; exact hq, k _ H f0 (Same.refl H) New.zero ⟨rfl, rfl⟩⟩
theorem eff_list : CallEff L (fun xs H Q => ∃ p ys, xs = [.ref p] ∧ (SqL L.K H p ys ∨ SqT L.K H p ys) ∧ ∀ l, H l = none → Q (.ref l) (upd H l (.lst ys))) listD := fun F H ds d vs g1 Q r e k => by
  match ds, e with
  | [d0], e =>
    obtain ⟨v, ev, rd⟩ := Reps.one r
    subst ev
    clear r
    have r := rd
    obtain ⟨es, h1, e⟩ := Option.bind_eq_some_iff.mp e
    by_cases hf : froL es = true
    · rw [if_pos hf] at e
      obtain rfl := Option.some.inj e
      obtain ⟨a, ws, g, rfl, hq, rr⟩ := r.seq h1
      have eg := Reps.fro0 es hf rr
      subst eg
      exact ⟨a, ws, rfl, hq, fun l nl => k _ _ (f1 l) (same_upd nl) (New.one nl) ⟨l, ws, f0, rfl, upd_same, (fadd_f0 _).symm, rr.same (same_upd nl)⟩⟩
    · rw [if_neg hf] at e
      exact nomatch e
theorem eff_tuple : CallEff L (fun xs H Q => ∃ p ys, xs = [.ref p] ∧ ((SqL L.K H p ys ∧ ∀ l, H l = none → Q (.ref l) (upd H l (.tup ys))) ∨ (SqT L.K H p ys ∧ Q (.ref p) H))) tupleD := fun F H ds d vs g1 Q r e k => by
  match ds, e with
  | [d0], e =>
    obtain ⟨v, ev, rd⟩ := Reps.one r
    subst ev
    clear r
    have r := rd
    obtain ⟨es, h1, e⟩ := Option.bind_eq_some_iff.mp e
    by_cases hf : froL es = true
    · rw [if_pos hf] at e
      obtain rfl := Option.some.inj e
      have lst : (∃ a vs g, v = .ref a ∧ SqL L.K H a vs ∧ Reps L F H es vs g) → ∃ p ys, [v] = [V.ref p] ∧ ((SqL L.K H p ys ∧ ∀ l, H l = none → Q (.ref l) (upd H l (.tup ys))) ∨ (SqT L.K H p ys ∧ Q (.ref p) H)) := fun h => by
        obtain ⟨a, ws, g, rfl, hq, rr⟩ := h
        have eg := Reps.fro0 es hf rr
        subst eg
        exact ⟨a, ws, rfl, .inl ⟨hq, fun l nl => k _ _ f0 (same_upd nl) New.zero ⟨l, ws, rfl, upd_same, rr.same (same_upd nl)⟩⟩⟩
      cases d0 with
      | lst o es' => exact lst (r.seqL h1)
      | ext es' => exact lst (r.seqL h1)
      | tup es' =>
        obtain rfl := Option.some.inj h1
        have eg := Rep.fro0 (.tup es') hf r
        subst eg
        obtain ⟨a, ws, rfl, q, rr⟩ := id r
        exact ⟨a, ws, rfl, .inr ⟨SqT.of q, k _ H f0 (Same.refl H) New.zero r⟩⟩
      | _ => exact nomatch h1
    · rw [if_neg hf] at e
      exact nomatch e
/-! ### sorted -/
def kOf (H : Hp) : V → Int × Int
  | .ref t => match H t with
    | some (.tup [.int i, .int j]) => (i, j)
    | _ => (0, 0)
  | _ => (0, 0)
theorem pairs_vs {F : AP} {H : Hp} : ∀ {ds : List D} {vs : List V} {f : Fp} {ps : List (Int × Int)}, Reps L F H ds vs f → pairsD ds = some ps → ds = ps.map pairD ∧ (∀ x ∈ vs, ∃ t, x = V.ref t ∧ H t = some (.tup [.int (kOf H x).1, .int (kOf H x).2])) ∧ vs.map (kOf H) = ps
  | [], vs, f, ps, ⟨e, _⟩, h => by obtain rfl := Option.some.inj h; rw [e]; exact ⟨rfl, fun x hx => absurd hx List.not_mem_nil, rfl⟩
  | d :: ds, vs, f, ps, ⟨v, ws, g, h', e, _, r1, r2⟩, h => by
    cases d with
    | tup es =>
      match es, h with
      | [.int i, .int j], h =>
        obtain ⟨qs, h1, h2⟩ := Option.map_eq_some_iff.mp h
        obtain ⟨q1, q2, q3⟩ := pairs_vs r2 h1
        obtain ⟨a, us, rfl, q, rr⟩ := r1
        obtain ⟨u1, u2, g1, g2, rfl, ra, rb⟩ := rr.two
        have hk : kOf H (.ref a) = (i, j) := by
          show (match H a with | some (.tup [.int i, .int j]) => (i, j) | _ => (0, 0)) = (i, j)
          rw [q, ra.1, rb.1]
        subst h2 e
        refine ⟨by rw [q1]; rfl, fun x hx => ?_, by rw [List.map_cons, hk, q3]⟩
        rcases List.mem_cons.mp hx with rfl | hy
        · exact ⟨a, rfl, by rw [hk, q, ra.1, rb.1]⟩
        · exact q2 x hy
    | _ => exact nomatch h
theorem reps_pairs {F : AP} {H : Hp} : ∀ {vs : List V}, (∀ x ∈ vs, ∃ t, x = V.ref t ∧ H t = some (.tup [.int (kOf H x).1, .int (kOf H x).2])) → Reps L F H ((vs.map (kOf H)).map pairD) vs f0
  | [], _ => ⟨rfl, rfl⟩
  | v :: vs, h => by
    obtain ⟨t, e, ht⟩ := h v List.mem_cons_self
    exact ⟨v, vs, f0, f0, rfl, rfl, ⟨t, _, e, ht, .int (kOf H v).1, [.int (kOf H v).2], f0, f0, rfl, rfl, ⟨rfl, rfl⟩, .int (kOf H v).2, [], f0, f0, rfl, rfl, ⟨rfl, rfl⟩, rfl, rfl⟩, reps_pairs fun x hx => h x (List.mem_cons_of_mem _ hx)⟩
theorem lexLe_iff {p q : Int × Int} : lexLe p q = true ↔ (p.1 < q.1 ∨ (p.1 = q.1 ∧ p.2 ≤ q.2)) := by unfold lexLe; exact decide_eq_true_iff
theorem sortP_sorted (ps : List (Int × Int)) : (sortP ps).Pairwise fun a b => lexLe a b = true := by
  unfold sortP
  exact List.pairwise_mergeSort (fun a b c h1 h2 => by rw [lexLe_iff] at *; omega) (fun a b => by
    rw [Bool.or_eq_true, lexLe_iff, lexLe_iff]; omega) ps
theorem sortP_perm (ps : List (Int × Int)) : (sortP ps).Perm ps := List.mergeSort_perm ps _
theorem sorted_uniq : ∀ {l m : List (Int × Int)}, l.Perm m → l.Pairwise (fun a b => lexLe a b = true) → m.Pairwise (fun a b => lexLe a b = true) → l = m
  | [], m, h, _, _ => (List.Perm.eq_nil h.symm).symm
  | x :: l, [], h, _, _ => absurd h.length_eq (by simp)
  | x :: l, y :: m, h, hl, hm => by
    have e : x = y := by
      have h1 : x ∈ y :: m := h.mem_iff.mp List.mem_cons_self
      have h2 : y ∈ x :: l := h.mem_iff.mpr List.mem_cons_self
      rcases List.mem_cons.mp h1 with e | h1
      · exact e
      · rcases List.mem_cons.mp h2 with e | h2
        · exact e.symm
        · have a := lexLe_iff.mp ((List.pairwise_cons.mp hl).1 y h2)
          have b := lexLe_iff.mp ((List.pairwise_cons.mp hm).1 x h1)
          exact Prod.ext (by omega) (by omega)
    subst e
    rw [sorted_uniq h.cons_inv (List.pairwise_cons.mp hl).2 (List.pairwise_cons.mp hm).2]
theorem eff_sortedP : CallEff L (rSortedPO L.K) sortedPD := fun F H ds d vs g1 Q r e k => by
  match ds, e with
  | [d0], e =>
    obtain ⟨v, ev, rd⟩ := Reps.one r
    subst ev
    clear r
    obtain ⟨es, h1, e⟩ := Option.bind_eq_some_iff.mp e
    obtain ⟨ps, h2, rfl⟩ := Option.map_eq_some_iff.mp e
    obtain ⟨a, ws, g, rfl, hq, rr⟩ := rd.seqL h1
    obtain ⟨q1, q2, q3⟩ := pairs_vs rr h2
    refine ⟨a, ws, kOf H, rfl, hq, q2, fun ys p hs hb np => ?_⟩
    have hp : (ys.map (kOf H)).Perm ps := by rw [← q3]; exact hb.perm.map _
    have hsort : (ys.map (kOf H)).Pairwise fun a b => lexLe a b = true := by
      rw [List.pairwise_map]
      refine List.Pairwise.imp ?_ hs
      intro x y hxy
      have := SrtO.lexB_no.mp hxy
      rw [lexLe_iff]
      omega
    have ee : ys.map (kOf H) = sortP ps := sorted_uniq (hp.trans (sortP_perm ps).symm) hsort (sortP_sorted ps)
    have rr2 : Reps L F H ((sortP ps).map pairD) ys f0 := by
      rw [← ee]
      exact reps_pairs fun x hx => q2 x (hb.perm.mem_iff.mp hx)
    exact k (.ref p) _ (f1 p) (same_upd np) (New.one np) ⟨p, ys, f0, rfl, upd_same, (fadd_f0 _).symm, rr2.same (same_upd np)⟩
end

/-! ### slices -/
def cutD (ds : List D) (lo hi : Option Int) : List D := (ds.drop (HT.sIx ds.length 0 lo)).take (HT.sIx ds.length ds.length hi - HT.sIx ds.length 0 lo)
/-- a bound: none, or an int -/
abbrev OM := Env → Option (Option Int)
def noB : OM := fun _ => some none
def atB (p : PM) : OM := fun ρ => (p ρ).bind fun d => match d with
  | .int i => some (some i)
  | _ => none
def sliceE (pa : PM) (pl ph : OM) : EM := fun ρ => match pa ρ, pl ρ, ph ρ with
  | some d, some lo, some hi => match d with
    | .lst _ ds => if froL ds = true then .ok (.lst true (cutD ds lo hi)) ρ else .bad
    | .ext ds => if froL ds = true then .ok (.lst true (cutD ds lo hi)) ρ else .bad
    | _ => .bad
  | _, _, _ => .bad
def tOM (L : Ly) (p : OM) : TO := fun σ H Q => ∃ F ρ g o, EnvR L F H ρ σ g ∧ p ρ = some o ∧ ∀ H', Same H H' → Q o H'
section
variable {X : Cx} {L : Ly} {W : WX} {e : Expr} {lo hi : Option Expr} {pos p2 : Pos} {pa : PM} {pl ph : OM}
theorem _root_.L2.PO.imp {e : Option Expr} {t t' : TO} (h : PO X e t) (w : ∀ σ H Q, t' σ H Q → t σ H Q) : PO X e t' := ⟨fun pins s σ H Q I q => h.run pins s σ H Q I (w σ H Q q)⟩
theorem om_none : PO X none (tOM L noB) := po_none.imp fun σ H Q ⟨F, ρ, g, o, E, h, k⟩ => by
  obtain rfl := Option.some.inj h
  exact k H (Same.refl H)
theorem om_some (h : PE X e (tP L pa)) : PO X (some e) (tOM L (atB pa)) := (po_some h).imp fun σ H Q ⟨F, ρ, g, o, E, h, k⟩ => by
  obtain ⟨d, h1, h2⟩ := Option.bind_eq_some_iff.mp h
  refine ⟨F, ρ, g, d, E, h1, fun v H' kk s r => ?_⟩
  cases d with
  | int i =>
    obtain rfl := Option.some.inj h2
    exact ⟨i, r.1, k H' s⟩
  | _ => exact nomatch h2
theorem Reps.drop0 {F : AP} {H : Hp} : ∀ {ds : List D} {vs : List V} (n : Nat), froL ds = true → Reps L F H ds vs f0 → Reps L F H (ds.drop n) (vs.drop n) f0
  | [], vs, n, _, ⟨e, _⟩ => by rw [e]; simp; exact ⟨rfl, rfl⟩
  | d :: ds, vs, 0, _, r => r
  | d :: ds, vs, n + 1, q, ⟨v, ws, g, h, e, ef, r1, r2⟩ => by
    have q' : d.fro = true ∧ froL ds = true := by simpa [froL] using q
    have := Reps.fro0 ds q'.2 r2
    subst this
    rw [e]
    exact Reps.drop0 n q'.2 r2
theorem Reps.take0 {F : AP} {H : Hp} : ∀ {ds : List D} {vs : List V} (n : Nat), froL ds = true → Reps L F H ds vs f0 → Reps L F H (ds.take n) (vs.take n) f0
  | [], vs, n, _, ⟨e, _⟩ => by rw [e]; simp; exact ⟨rfl, rfl⟩
  | d :: ds, vs, 0, _, r => ⟨by simp, rfl⟩
  | d :: ds, vs, n + 1, q, ⟨v, ws, g, h, e, ef, r1, r2⟩ => by
    have q' : d.fro = true ∧ froL ds = true := by simpa [froL] using q
    have e1 := Rep.fro0 d q'.1 r1
    have e2 := Reps.fro0 ds q'.2 r2
    subst e1 e2
    rw [e]
    exact ⟨v, ws.take n, f0, f0, rfl, rfl, r1, Reps.take0 n q'.2 r2⟩
theorem froL_drop : ∀ {ds : List D} (n : Nat), froL ds = true → froL (ds.drop n) = true
  | [], n, h => by simp [froL]
  | d :: ds, 0, h => h
  | d :: ds, n + 1, h => froL_drop n (by have : d.fro = true ∧ froL ds = true := by simpa [froL] using h
                                         exact this.2)
theorem ee_slice (hL : L.K = X.K) (he : PE X e (tP L pa)) (hl : PO X lo (tOM L pl)) (hu : PO X hi (tOM L ph)) : PE X (.Subscript e (.Slice lo hi none p2) pos) (tD L W (sliceE pa pl ph)) := (pe_slice sl_list he hl hu).imp fun σ H Q ⟨Kp, F, ρ, g, E, G, p⟩ => by
  unfold sliceE at p
  cases e1 : pa ρ with
  | none => simp only [e1] at p; exact p.elim
  | some d =>
    cases e2 : pl ρ with
    | none => simp only [e1, e2] at p; exact p.elim
    | some l =>
      cases e3 : ph ρ with
      | none => simp only [e1, e2, e3] at p; exact p.elim
      | some u =>
        simp only [e1, e2, e3] at p
        refine ⟨F, ρ, g, d, E, e1, fun v H1 k1 s1 r1 => ⟨F, ρ, g, l, E.same s1, e2, fun H2 s2 => ⟨F, ρ, g, u, (E.same s1).same s2, e3, fun H3 s3 => ?_⟩⟩⟩
        have s13 := s1.trans (s2.trans s3)
        have main : ∀ ds, (∃ a vs gg, v = .ref a ∧ SqL L.K H3 a vs ∧ Reps L F H3 ds vs gg) → (Post L W Kp F H σ (if froL ds = true then .ok (.lst true (cutD ds l u)) ρ else .bad) fun d _ F' H' g' => ∀ v k, Rep L F' H' d v k → Good Kp F' H' (fadd g' k) → Q v H') → rSlL X.K v l u H3 Q := fun ds h p => by
          obtain ⟨a, vs, gg, rfl, sq, rr⟩ := h
          by_cases hf : froL ds = true
          · rw [if_pos hf] at p
            have eg := Reps.fro0 ds hf rr
            subst eg
            refine ⟨a, vs, rfl, by rw [← hL]; exact sq, fun q nq => ?_⟩
            have sq' := s13.trans (same_upd (o := .lst (cutV vs l u)) nq)
            have rc : Reps L F H3 (cutD ds l u) (cutV vs l u) f0 := by
              unfold cutD cutV
              rw [rr.length]
              exact Reps.take0 _ (froL_drop _ hf) (Reps.drop0 _ hf rr)
            exact p F _ g (E.same sq') (Stp.same sq') (.ref q) (f1 q) ⟨q, _, f0, rfl, upd_same, (fadd_f0 _).symm, rc.same (same_upd nq)⟩ ((G.same s13).new (same_upd nq) (New.one nq))
          · rw [if_neg hf] at p
            exact p.elim
        have r3 := (r1.same s2).same s3
        cases d with
        | lst o ds => exact main ds r3.list p
        | ext ds =>
          obtain ⟨a, vs, e, q, r⟩ := r3
          exact main ds ⟨a, vs, _, e, q.sq, r⟩ p
        | _ => exact p.elim
end
end VL
end
section
set_option Elab.async false
set_option linter.all false
set_option maxRecDepth 100000
namespace VL
open PySem L2

/-! ### + on numbers, lists and tuples -/
def addX (a b : D) : Option D := match a, b with
  | .int i, .int j => some (.int (i + j))
  | .lst _ xs, .lst _ ys => if froL xs = true ∧ froL ys = true ∧ xs.length + ys.length ≤ 1000 then some (.lst true (xs ++ ys)) else none
  | .tup xs, .tup ys => if froL xs = true ∧ froL ys = true ∧ xs.length + ys.length ≤ 1000 then some (.tup (xs ++ ys)) else none
  | _, _ => none
def rAddX (K : PySem.W.Frag) : R2 := fun x y H Q => (rI0 (fun i j => .int (i + j))) x y H Q ∨ rCat x y H Q ∨ rCatA K x y H Q
theorem op_addX {X : Cx} : OpR X (binaryOp .Add) (rAddX X.K) := op_add.or (op_cat.or op_catA)
section
variable {L : Ly}
theorem Reps.app {F : AP} {H : Hp} : ∀ {xs ys : List D} {vs ws : List V}, Reps L F H xs vs f0 → Reps L F H ys ws f0 → froL xs = true → Reps L F H (xs ++ ys) (vs ++ ws) f0
  | [], ys, vs, ws, ⟨e, _⟩, r2, _ => by rw [e]; exact r2
  | d :: xs, ys, vs, ws, ⟨v, vs', g, h, e, ef, r, rr⟩, r2, q => by
      have q' : d.fro = true ∧ froL xs = true := by simpa [froL] using q
      have e1 := Rep.fro0 d q'.1 r
      have e2 := Reps.fro0 xs q'.2 rr
      rw [e1] at r; rw [e2] at rr
      rw [e]
      exact ⟨v, vs' ++ ws, f0, f0, rfl, rfl, r, Reps.app rr r2 q'.2⟩
theorem Rep.lstH {F : AP} {H : Hp} {o : Bool} {ds : List D} {v : V} {g : Fp} (r : Rep L F H (.lst o ds) v g) (q : froL ds = true) : ∃ a vs, v = .ref a ∧ H a = some (.lst vs) ∧ Reps L F H ds vs f0 := by
  cases o with
  | true =>
    obtain ⟨a, vs, g', rfl, e, _, rr⟩ := r
    have := Reps.fro0 ds q rr
    subst this
    exact ⟨a, vs, rfl, e, rr⟩
  | false =>
    obtain ⟨a, vs, rfl, e, rr⟩ := r
    have := Reps.fro0 ds q rr
    subst this
    exact ⟨a, vs, rfl, e.1, rr⟩
theorem eff_addX : OpEff L (rAddX L.K) addX := fun F H d1 d2 d v1 v2 g1 g2 Q r1 r2 e k => by
  cases d1 with
  | int i =>
    cases d2 with
    | int j =>
      obtain rfl := Option.some.inj e
      exact .inl ⟨i, j, r1.1, r2.1, k _ H f0 (Same.refl H) New.zero ⟨rfl, rfl⟩⟩
    | _ => exact nomatch e
  | lst o xs =>
    cases d2 with
    | lst o' ys =>
      simp only [addX] at e
      split at e
      next hc =>
        obtain rfl := Option.some.inj e
        obtain ⟨a, vs, rfl, ha, ra⟩ := r1.lstH hc.1
        obtain ⟨b, ws, rfl, hb, rb⟩ := r2.lstH hc.2.1
        refine .inr (.inl ⟨a, b, vs, ws, rfl, rfl, ha, hb, ?_, fun p np => k _ _ (f1 p) (same_upd np) (New.one np) ⟨p, vs ++ ws, f0, rfl, upd_same, (fadd_f0 _).symm, (Reps.app ra rb hc.1).same (same_upd np)⟩⟩)
        rw [← ra.length, ← rb.length]
        exact le1000 hc.2.2
      next => exact nomatch e
    | _ => exact nomatch e
  | tup xs =>
    cases d2 with
    | tup ys =>
      simp only [addX] at e
      split at e
      next hc =>
        obtain rfl := Option.some.inj e
        obtain ⟨a, vs, rfl, ha, ra⟩ := r1
        obtain ⟨b, ws, rfl, hb, rb⟩ := r2
        have e1 := Reps.fro0 xs hc.1 ra
        have e2 := Reps.fro0 ys hc.2.1 rb
        subst e1 e2
        refine .inr (.inr ⟨a, b, vs, ws, rfl, rfl, SqT.of ha, SqT.of hb, ?_, ?_, ?_, fun _ _ p np => k _ _ f0 (same_upd np) New.zero ⟨p, vs ++ ws, rfl, upd_same, (Reps.app ra rb hc.1).same (same_upd np)⟩⟩)
        · rw [← ra.length, ← rb.length]
          exact le1000 hc.2.2
        · intro z
          subst z
          have : xs = [] := List.eq_nil_of_length_eq_zero ra.length
          subst this
          exact k _ H f0 (Same.refl H) New.zero ⟨b, ws, rfl, hb, rb⟩
        · intro _ z
          subst z
          have : ys = [] := List.eq_nil_of_length_eq_zero rb.length
          subst this
          exact k _ H f0 (Same.refl H) New.zero ⟨a, vs, rfl, ha, by rw [List.append_nil]; exact ra⟩
      next => exact nomatch e
    | _ => exact nomatch e
  | _ => cases d2 <;> exact nomatch e
end

/-! ### isinstance -/
abbrev Tag := String ⊕ Str
def D.tag : D → Option Tag
  | .non => some (.inl "NoneType")
  | .bl _ => some (.inl "bool")
  | .int _ => some (.inl "int")
  | .str _ => some (.inl "str")
  | .tup _ => some (.inl "tuple")
  | .lst _ _ => some (.inl "list")
  | .ext _ => some (.inl "list")
  | .dct _ _ _ => some (.inl "dict")
  | .obj _ c _ _ => some (.inr c)
  | _ => none
def D.ctag : D → Option Tag
  | .ty n => some (.inl n)
  | .cls c => some (.inr c)
  | _ => none
def Tag.val (L : Ly) : Tag → Value
  | .inl n => .type n
  | .inr c => .ref (L.CT c)
abbrev Tab := List ((Tag × Tag) × Bool)
def tabGet : Tab → Tag → Tag → Option Bool
  | [], _, _ => none
  | (x, b) :: r, t, u => if x.1 = t ∧ x.2 = u then some b else tabGet r t u
/-- what the table must say rightly -/
structure TabOk (L : Ly) (T : Tab) : Prop where
  ok : ∀ x ∈ T, PySem.W.kitOne L.K (Tag.val L x.1.1) (Tag.val L x.1.2) = some x.2
structure OwnC (L : Ly) (c : Str) : Prop where
  cl : Cls L.K (L.CT c)
  ha : PySem.W.findIn L.K (.ref (L.CT c)) "__class__" = some (some (.builtin "object.__class__"))
  hn : PySem.W.specialIn L.K (.builtin "object.__class__") "__get__" = some (some (.builtin "getset_descriptor.__get__"))
  htk : PySem.W.takesIn L.K (.builtin "object.__class__") = some true
  hm : PySem.W.mroIn L.K (L.CT c) (.type "object") = some true
def isiD (T : Tab) : List D → Option D
  | [d, k] => d.tag.bind fun t => match k with
    | .tup ks => (anyD T t ks).map .bl
    | k => (k.ctag.bind fun u => tabGet T t u).map .bl
  | _ => none
where anyD (T : Tab) (t : Tag) : List D → Option Bool
  | [] => none
  | [k] => k.ctag.bind fun u => tabGet T t u
  | k :: ks => (k.ctag.bind fun u => tabGet T t u).bind fun b => (anyD T t ks).map fun r => b || r
theorem lookup_mem {t u : Tag} {b : Bool} : ∀ {T : Tab}, tabGet T t u = some b → ((t, u), b) ∈ T
  | [], h => nomatch h
  | (x, b') :: r, h => by
    simp only [tabGet] at h
    split at h
    next e =>
      obtain rfl := Option.some.inj h
      obtain ⟨rfl, rfl⟩ := e
      exact List.mem_cons_self
    next => exact List.mem_cons_of_mem _ (lookup_mem h)
section
variable {L : Ly} {T : Tab}
theorem Rep.tyx {F : AP} {H : Hp} {d : D} {v : V} {f : Fp} {t : Tag} (ow : ∀ c, (∃ u b, ((Sum.inr c, u), b) ∈ T) → OwnC L c) (r : Rep L F H d v f) (h : d.tag = some t) (hT : ∃ u b, ((t, u), b) ∈ T) : TyX L.K H v (Tag.val L t) := by
  cases d with
  | non => obtain rfl := Option.some.inj h; rw [r.1]; exact .base .non
  | bl b => obtain rfl := Option.some.inj h; rw [r.1]; exact .base (.bl b)
  | int i => obtain rfl := Option.some.inj h; rw [r.1]; exact .base (.int i)
  | str x => obtain rfl := Option.some.inj h; rw [r.1]; exact .base (.str x)
  | tup ds =>
    obtain rfl := Option.some.inj h
    obtain ⟨a, vs, rfl, e, _⟩ := r
    exact .base (.tup e)
  | lst o ds =>
    obtain rfl := Option.some.inj h
    cases o with
    | true => obtain ⟨a, vs, g, rfl, e, _⟩ := r; exact .base (.lst e)
    | false => obtain ⟨a, vs, rfl, e, _⟩ := r; exact .base (.lst e.1)
  | ext ds =>
    obtain rfl := Option.some.inj h
    obtain ⟨a, vs, rfl, e, _⟩ := r
    rcases e.sq with (e | ⟨o, e⟩) | ⟨o, its, n, e, c, _⟩
    · exact .base (.lst e)
    · exact .base (.frz e)
    · exact .kList e c
  | dct o ks ds =>
    obtain rfl := Option.some.inj h
    cases o with
    | true => obtain ⟨a, vs, g, rfl, e, _⟩ := r; exact .base (.dK e)
    | false => obtain ⟨a, vs, rfl, e, _⟩ := r; exact .base (.dK e)
  | obj o c ns ds =>
    obtain rfl := Option.some.inj h
    obtain ⟨a, dx, vs, g, rfl, e, _⟩ := r.ins
    obtain ⟨cl, ha, hn, htk, hm⟩ := ow c hT
    exact .base (.ins e cl ha hn htk hm)
  | cls c => exact nomatch h
  | ty n => exact nomatch h
  | exn c ns ds => exact nomatch h
theorem Rep.clsv {F : AP} {H : Hp} {d : D} {v : V} {f : Fp} {t : Tag} (r : Rep L F H d v f) (h : d.ctag = some t) : ClsV v (Tag.val L t) := by
  cases d with
  | ty n => obtain rfl := Option.some.inj h; rw [r.1]; exact .ty n
  | cls c => obtain rfl := Option.some.inj h; rw [r.1]; exact .own _
  | _ => exact nomatch h
theorem any_ok {F : AP} {H : Hp} {t : Tag} (tk : TabOk L T) : ∀ {ks : List D} {vs : List V} {f : Fp} {b : Bool}, Reps L F H ks vs f → isiD.anyD T t ks = some b → (∃ u b, ((t, u), b) ∈ T) ∧ ∃ us, Paired ClsV vs us ∧ PySem.W.kitAny L.K (Tag.val L t) us = some b
  | [], vs, f, b, ⟨e, _⟩, h => nomatch h
  | [k], vs, f, b, ⟨v, ws, g, g', e, _, r1, e2, _⟩, h => by
      obtain ⟨u, h0, h1⟩ := Option.bind_eq_some_iff.mp h
      subst e2
      rw [e]
      refine ⟨⟨_, _, lookup_mem h1⟩, [_], .cons (r1.clsv h0) .nil, kitAny_cons (tk.ok _ (lookup_mem h1)) (fun z => ?_) fun z => z⟩
      dsimp only at z
      rw [z]
      exact kitAny_nil
  | k :: k2 :: ks, vs, f, b, ⟨v, ws, g, g', e, _, r1, r2⟩, h => by
      obtain ⟨b1, h1, h⟩ := Option.bind_eq_some_iff.mp h
      obtain ⟨u, h0, h1⟩ := Option.bind_eq_some_iff.mp h1
      obtain ⟨b2, h2, h⟩ := Option.map_eq_some_iff.mp h
      obtain ⟨_, us, p, q⟩ := any_ok tk r2 h2
      rw [e]
      refine ⟨⟨_, _, lookup_mem h1⟩, _ :: us, .cons (r1.clsv h0) p, kitAny_cons (tk.ok _ (lookup_mem h1)) (fun z => ?_) fun z => ?_⟩
      · dsimp only at z
        rw [z] at h
        rw [← h]
        exact q
      · dsimp only at z
        rw [z] at h
        exact h.symm
def rIsiA (K : PySem.W.Frag) : List V → Hp → VK → Prop := fun xs H Q => rIsi K xs H Q ∨ rIsiT K xs H Q
theorem call_isiA {X : Cx} : CallR X (.builtin "isinstance") (rIsiA X.K) := call_isi.or call_isiT
theorem eff_isi (tk : TabOk L T) (ow : ∀ c, (∃ u b, ((Sum.inr c, u), b) ∈ T) → OwnC L c) : CallEff L (rIsiA L.K) (isiD T) := fun F H ds d vs g1 Q r e k => by
  match ds, e with
  | [d0, k0], e =>
    obtain ⟨v, v', g, g', rfl, rd, rk⟩ := Reps.two r
    obtain ⟨t, ht, e⟩ := Option.bind_eq_some_iff.mp e
    have one : ∀ k0 : D, Rep L F H k0 v' g' → ((k0.ctag.bind fun u => tabGet T t u).map .bl = some d) → rIsi L.K [v, v'] H Q := fun k0 rk e => by
      obtain ⟨b, h1, rfl⟩ := Option.map_eq_some_iff.mp e
      obtain ⟨u, h0, h1⟩ := Option.bind_eq_some_iff.mp h1
      have m := lookup_mem h1
      exact ⟨v, v', _, _, b, rfl, rk.clsv h0, rd.tyx ow ht ⟨_, _, m⟩, tk.ok _ m, k _ H f0 (Same.refl H) New.zero ⟨rfl, rfl⟩⟩
    cases k0 with
    | tup ks =>
      obtain ⟨b, h1, rfl⟩ := Option.map_eq_some_iff.mp e
      obtain ⟨a, ws, rfl, hq, rr⟩ := rk
      obtain ⟨m, us, p, q⟩ := any_ok tk rr h1
      exact .inr ⟨v, a, ws, _, us, b, rfl, hq, p, rd.tyx ow ht m, q, k _ H f0 (Same.refl H) New.zero ⟨rfl, rfl⟩⟩
    | _ => exact .inl (one _ rk e)
end
end VL
end
section
set_option Elab.async false
set_option linter.all false
set_option maxRecDepth 100000
namespace VL
open PySem L2

/-! ### expressions that only read, and make something new -/
def tN (L : Ly) (p : PM) : TE := fun σ H Q => ∃ F ρ g d, EnvR L F H ρ σ g ∧ p ρ = some d ∧ ∀ v H' k, Same H H' → New H H' k → Rep L F H' d v k → Q v H'
def froP (p : PM) : PM := fun ρ => froO (p ρ)
def liftN (p : PM) : EM := fun ρ => match p ρ with
  | some d => .ok d ρ
  | none => .bad
/-- a call that changes nothing: its arguments are looked at alone -/
def callN (m : List D → FR) (q : PA') : PM := fun ρ => (q ρ).bind fun ds => match m (frzL ds) with
  | .rt d _ => if d.own = true then some d else none
  | _ => none
def methN (c : Str) (mth : Str) (pa : PM) (m : List D → FR) (q : PA') : PM := fun ρ => (pa ρ).bind fun d => match d with
  | .obj o c' ns ds => if c' = c ∧ mth ∉ ns then (q ρ).bind fun es => match m (frzL (.obj o c' ns ds :: es)) with
      | .rt d _ => if d.own = true then some d else none
      | _ => none
    else none
  | _ => none
def lstN (q : PA') : PM := fun ρ => (q ρ).bind fun ds => if ds.length ≤ 1000 ∧ froL ds = true then some (.lst true ds) else none

section
variable {L : Ly} {F F' : AP} {H H' : Hp}
mutual
/-- only tracked places count as locked -/
theorem Rep.re (hF : ∀ a o, H a = some o → F a → F' a) : ∀ (d : D) {v : V} {f : Fp}, Rep L F H d v f → Rep L F' H d v f
  | .non, _, _, h => h
  | .bl _, _, _, h => h
  | .int _, _, _, h => h
  | .str _, _, _, h => h
  | .cls _, _, _, h => h
  | .ty _, _, _, h => h
  | .tup ds, _, _, ⟨a, vs, e, q, r⟩ => ⟨a, vs, e, q, Reps.re hF ds r⟩
  | .lst true ds, _, _, ⟨a, vs, g, e, q, ef, r⟩ => ⟨a, vs, g, e, q, ef, Reps.re hF ds r⟩
  | .lst false ds, _, _, ⟨a, vs, e, q, r⟩ => ⟨a, vs, e, ⟨q.1, hF _ _ q.1 q.2⟩, Reps.re hF ds r⟩
  | .ext ds, _, _, ⟨a, vs, e, q, r⟩ => ⟨a, vs, e, q, Reps.re hF ds r⟩
  | .dct true ks ds, _, _, ⟨a, vs, g, e, q, hl, ef, r⟩ => ⟨a, vs, g, e, q, hl, ef, Reps.re hF ds r⟩
  | .dct false ks ds, _, _, ⟨a, vs, e, q, hf, hl, r⟩ => ⟨a, vs, e, q, hF _ _ q hf, hl, Reps.re hF ds r⟩
  | .obj true c ns ds, _, _, ⟨a, dx, vs, g, e, q, hl, ef, r⟩ => ⟨a, dx, vs, g, e, q, hl, ef, Reps.re hF ds r⟩
  | .obj false c ns ds, _, _, ⟨a, dx, vs, e, q, hf, hl, r⟩ => ⟨a, dx, vs, e, q, hF _ _ q hf, hl, Reps.re hF ds r⟩
  | .exn c ns ds, _, _, ⟨a, d0, e1, e2, h⟩ => ⟨a, d0, e1, e2, by
      rcases h with ⟨dd, vs, ed, q, hl, r⟩ | h
      · exact .inl ⟨dd, vs, ed, q, hl, Reps.re hF ds r⟩
      · exact .inr h⟩
theorem Reps.re (hF : ∀ a o, H a = some o → F a → F' a) : ∀ (ds : List D) {vs : List V} {f : Fp}, Reps L F H ds vs f → Reps L F' H ds vs f
  | [], _, _, h => h
  | d :: ds, _, _, ⟨v, ws, g, h, e, ef, r1, r2⟩ => ⟨v, ws, g, h, e, ef, Rep.re hF d r1, Reps.re hF ds r2⟩
end
theorem EnvR.re (hF : ∀ a o, H a = some o → F a → F' a) : ∀ {ρ : Env} {σ : L2.St} {f : Fp}, EnvR L F H ρ σ f → EnvR L F' H ρ σ f
  | [], _, _, h => h
  | none :: ρ, _, _, ⟨x, t, e, h⟩ => ⟨x, t, e, EnvR.re hF h⟩
  | some d :: ρ, _, _, ⟨v, σ, g, h, e, ef, r1, r2⟩ => ⟨v, σ, g, h, e, ef, Rep.re hF d r1, EnvR.re hF r2⟩
end

section
variable {X : Cx} {L : Ly} {W : WX} {a b c e o : Expr} {es : List Expr} {pos p apos : Pos} {pa pb : PM} {q : PA'} {k : Nat} {f : Addr} {fd : FuncData} {ps : List Str} {x mt : Str} {m : List D → FR}
theorem New.same {H H1 H' : Hp} {g : Fp} (s : Same H H1) (n : New H1 H' g) : New H H' g := fun a => ⟨(n a).1, fun x => ⟨by
  cases h : H a with
  | none => rfl
  | some o => exact absurd (s a o h) (by rw [((n a).2 x).1]; exact fun z => nomatch z), ((n a).2 x).2⟩⟩
theorem pn_pp (h : PE X e (tN L pa)) : PE X e (tP L pa) := h.imp fun σ H Q ⟨F, ρ, g, d, er, hp, k⟩ => ⟨F, ρ, g, d, er, hp, fun v H' k' s _ r => k v H' k' s r⟩
theorem pn_fro (h : PE X e (tP L pa)) : PE X e (tN L (froP pa)) := h.imp fun σ H Q ⟨F, ρ, g, d, er, hp, k⟩ => by
  obtain ⟨d', h1, h2⟩ := Option.bind_eq_some_iff.mp hp
  split at h2
  next hf =>
    obtain rfl := Option.some.inj h2
    refine ⟨F, ρ, g, d', er, h1, fun v H' k' s r => ?_⟩
    obtain rfl := Rep.fro0 d' hf r
    exact k v H' f0 s New.zero r
  next => exact nomatch h2
theorem ee_n (h : PE X e (tN L pa)) : PE X e (tD L W (liftN pa)) := h.imp fun σ H Q ⟨Kp, F, ρ, g, E, G, p⟩ => by
  unfold liftN at p
  cases e : pa ρ with
  | none => rw [e] at p; exact p.elim
  | some d =>
    rw [e] at p
    exact ⟨F, ρ, g, d, E, e, fun v H' k s n r => p F H' g (E.same s) (Stp.same s) v k r (G.new s n)⟩
theorem imp_opN {r : R2} {op : D → D → Option D} (ho : OpEff L r op) : ∀ σ H Q, tN L (opP op pa pb) σ H Q → tOp r (tP L pa) (tP L pb) σ H Q := fun σ H Q ⟨F, ρ, g, d, er, hp, k⟩ => by
  obtain ⟨d1, h1, hp⟩ := Option.bind_eq_some_iff.mp hp
  obtain ⟨d2, h2, hp⟩ := Option.bind_eq_some_iff.mp hp
  exact ⟨F, ρ, g, d1, er, h1, fun v1 H1 k1 s1 r1 => ⟨F, ρ, g, d2, er.same s1, h2, fun v2 H2 k2 s2 r2 => ho F H2 d1 d2 d v1 v2 _ _ Q (r1.same s2) r2 hp fun v H3 k3 s3 n3 r3 => k v H3 k3 (s1.trans (s2.trans s3)) (n3.same (s1.trans s2)) r3⟩⟩
theorem pn_op {o : Operator} {r : R2} {op : D → D → Option D} (hr : OpR X (binaryOp o) r) (ho : OpEff L r op) (ha : PE X a (tP L pa)) (hb : PE X b (tP L pb)) : PE X (.BinOp a o b pos) (tN L (opP op pa pb)) := (pe_op hr ha hb).imp (imp_opN ho)
theorem pn_cmp {o : CmpOp} {r : R2} {op : D → D → Option D} (hr : OpR X (compareOp o) r) (ho : OpEff L r op) (ha : PE X a (tP L pa)) (hb : PE X b (tP L pb)) (hm : behindInMarks o b = false) : PE X (.Compare a [o] [b] pos) (tN L (opP op pa pb)) := (pe_cmpR hr ha hb hm).imp (imp_opN ho)
theorem imp_callEN {r : List V → Hp → VK → Prop} {op : List D → Option D} (ho : CallEff L r op) : ∀ σ H Q, tN L (callP op q) σ H Q → tCB r (tAP L q) σ H Q := fun σ H Q ⟨F, ρ, g, d, er, hp, k⟩ => by
  obtain ⟨ds, h1, hp⟩ := Option.bind_eq_some_iff.mp hp
  exact ⟨F, ρ, g, ds, er, h1, fun vs H1 k1 s1 r1 => ho F H1 ds d vs _ Q r1 hp fun v H3 k3 s3 n3 r3 => k v H3 k3 (s1.trans s3) (n3.same s1) r3⟩
theorem pn_callB {id : String} {r : List V → Hp → VK → Prop} {op : List D → Option D} (hc : CallR X (.builtin id) r) (ho : CallEff L r op) (hg : Gl X x) (hm : X.mg x = none) (hv : bootBuiltins x = some (.builtin id)) (ha : PA X (e :: es) (tAP L q)) (hn : x ≠ "__name__" := by decide) (hdb : (x == ("__debug__" : Str)) = false := by decide)
    (he : starEach (e :: es) X.env = (false, eval e X.env) :: starEach es X.env := by rfl) (hpl : (backTo pos (starEach es X.env)).any (·.1) = false := by rfl) : PE X (.Call (.Name x p) (e :: es) [] pos) (tN L (callP op q)) := (pe_callB hc hg hm hv ha hn hdb he hpl).imp (imp_callEN ho)
theorem pn_callTy {T : String} {r : List V → Hp → VK → Prop} {op : List D → Option D} (hc : CallR X (.type T) r) (ho : CallEff L r op) (hg : Gl X x) (hm : X.mg x = none) (hv : bootBuiltins x = some (.type T)) (ha : PA X (e :: es) (tAP L q)) (hn : x ≠ "__name__" := by decide) (hdb : (x == ("__debug__" : Str)) = false := by decide)
    (he : starEach (e :: es) X.env = (false, eval e X.env) :: starEach es X.env := by rfl) (hpl : (backTo pos (starEach es X.env)).any (·.1) = false := by rfl) : PE X (.Call (.Name x p) (e :: es) [] pos) (tN L (callP op q)) := (pe_callTy hc hg hm hv ha hn hdb he hpl).imp (imp_callEN ho)
theorem pn_lst (h : PA X es (tAP L q)) : PE X (.List es pos) (tN L (lstN q)) := (pe_lst h).imp fun σ H Q ⟨F, ρ, g, d, er, hp, k⟩ => by
  obtain ⟨ds, h1, hp⟩ := Option.bind_eq_some_iff.mp hp
  split at hp
  next hl =>
    obtain rfl := Option.some.inj hp
    refine ⟨F, ρ, g, ds, er, h1, fun vs H1 k1 s1 r1 => ⟨le1000 (by rw [← r1.length]; exact hl.1), fun p np => ?_⟩⟩
    obtain rfl := Reps.fro0 ds hl.2 r1
    exact k (.ref p) _ (f1 p) (s1.trans (same_upd np)) ((New.one np).same s1) ⟨p, vs, f0, rfl, upd_same, (fadd_f0 _).symm, r1.same (same_upd np)⟩
  next => exact nomatch hp
theorem pn_if {t : PT'} (hc : PT X c (tPT L t)) (ha : PE X a (tN L pa)) (hb : PE X b (tN L pb)) : PE X (.IfExp c a b pos) (tN L (ifP t pa pb)) := (pe_ifExp hc ha hb).imp fun σ H Q ⟨F, ρ, g, d, er, hp, k⟩ => by
  obtain ⟨k1, h1, hp⟩ := Option.bind_eq_some_iff.mp hp
  refine ⟨F, ρ, g, k1, er, h1, fun H1 s1 => ?_⟩
  cases k1 with
  | true => exact ⟨F, ρ, g, d, er.same s1, hp, fun v H2 k2 s2 n2 r2 => k v H2 k2 (s1.trans s2) (n2.same s1) r2⟩
  | false => exact ⟨F, ρ, g, d, er.same s1, hp, fun v H2 k2 s2 n2 r2 => k v H2 k2 (s1.trans s2) (n2.same s1) r2⟩
/-- what a callee may do with borrowed arguments -/
theorem ranN {F : AP} {H H1 : Hp} {ds : List D} {vs : List V} {k : Fp} {d : D} {os : List (Option D)} {Q : VK} {E : XK} (s1 : Same H H1) (r1 : Reps L F H1 ds vs k) (em : m (frzL ds) = .rt d os) (hd : d.own = true) (q : ∀ v H' k, Same H H' → New H H' k → Rep L F H' d v k → Q v H') : spM L m vs H1 Q E := by
  have R1 : Reps L (fun a => H1 a ≠ none) H1 (frzL ds) vs f0 := Reps.lock (F := fun a => H1 a ≠ none) (fun _ x => x) ds (Reps.re (fun a o e _ => by rw [e]; exact fun z => nomatch z) ds r1) (Reps.trk ds r1)
  refine ⟨fun _ => False, fun a => H1 a ≠ none, frzL ds, f0, R1, ⟨fun a => Nat.zero_le _, fun a x => absurd x f0_not, fun a x => x.elim, fun a x => x⟩, ?_⟩
  rw [em]
  intro F' H' v k' g' ho hr hg hst
  have s2 : Same H1 H' := fun a o e => hst.st a o e (.inl (by rw [e]; exact fun z => nomatch z))
  refine q v H' k' (s1.trans s2) (New.same s1 fun a => ⟨?_, fun x => ?_⟩) (Rep.own d hd hr)
  · exact Nat.le_trans (Nat.le_add_left _ _) (hg.lin a)
  · have := hg.own a (Nat.le_trans x (Nat.le_add_left _ _))
    exact ⟨Classical.byContradiction fun z => this.1 (hst.fz a z), this.2.2⟩
theorem imp_callN {E : L2.St → XK} : ∀ σ H Q, tN L (callN m q) σ H Q → tCallS (spM L m) E (tAP L q) σ H Q := fun σ H Q ⟨F, ρ, g, d, er, hp, kk⟩ => by
  obtain ⟨ds, h1, hp⟩ := Option.bind_eq_some_iff.mp hp
  refine ⟨F, ρ, g, ds, er, h1, fun vs H1 k1 s1 r1 => ?_⟩
  cases em : m (frzL ds) with
  | bad => rw [em] at hp; exact nomatch hp
  | exc x os => rw [em] at hp; exact nomatch hp
  | rt d' os =>
    rw [em] at hp
    dsimp only at hp
    split at hp
    next hd =>
      obtain rfl := Option.some.inj hp
      exact ranN s1 r1 em hd kk
    next => exact nomatch hp
theorem pn_call (Fn : FnOk X.prog X.w X.K X.mg X.base (L2.CX X.prog X.w) k f fd ps (spM L m)) (hr : Room k X.A) (hg : Gl X x) (hm : X.mg x = some (.ref f)) (hk : PySem.W.keepIn X.K (.ref f) = true) (hb : Binds X.K fd ps [])
    (ha : PA X (e :: es) (tAP L q)) (hdb : (x == ("__debug__" : Str)) = false := by decide) (he : starEach (e :: es) X.env = (false, eval e X.env) :: starEach es X.env := by rfl) (hpl : (backTo pos (starEach es X.env)).any (·.1) = false := by rfl) :
    PE X (.Call (.Name x p) (e :: es) [] pos) (tN L (callN m q)) := (pe_callS Fn hr hg hm hk hb (fun σ => passAt takes0 σ) ha hdb he hpl).imp imp_callN
theorem imp_methN {c : Str} {E : L2.St → XK} : ∀ σ H Q, tN L (methN c mt pa m q) σ H Q → tMethS (L.CT c) mt (spM L m) E (tP L pa) (tAP L q) σ H Q := fun σ H Q ⟨F, ρ, g, d, er, hp0, kk⟩ => by
  obtain ⟨d0, h1, hp⟩ := Option.bind_eq_some_iff.mp hp0
  clear hp0
  refine ⟨F, ρ, g, d0, er, h1, fun v1 H1 k1 s1 r1 => ?_⟩
  cases d0 with
  | obj o c' ns ds =>
    dsimp only at hp
    by_cases hc : c' = c ∧ mt ∉ ns
    · rw [if_pos hc] at hp
      obtain ⟨es', h2, hp⟩ := Option.bind_eq_some_iff.mp hp
      obtain ⟨hcc, hn⟩ := hc
      cases hcc
      obtain ⟨a, dx, vs, h, rfl, e, hl, _⟩ := r1.ins
      refine ⟨a, dx, _, rfl, e, zip_lookup hn vs, F, ρ, g, es', er.same s1, h2, fun ws H2 k2 s2 r2 => ?_⟩
      cases em : m (frzL (.obj o c ns ds :: es')) with
      | bad => rw [em] at hp; exact nomatch hp
      | exc x os => rw [em] at hp; exact nomatch hp
      | rt d' os =>
        rw [em] at hp
        dsimp only at hp
        split at hp
        next hd =>
          obtain rfl := Option.some.inj hp
          exact ranN (ds := .obj o c ns ds :: es') (s1.trans s2) (k := fadd k1 k2) ⟨_, _, k1, k2, rfl, rfl, r1.same s2, r2⟩ em hd kk
        next => exact nomatch hp
    · rw [if_neg hc] at hp
      exact nomatch hp
  | _ => exact nomatch hp
theorem pn_meth {c : Str} {pl : Sem Bool} (ho : PE X o (tP L pa)) (cl : Cls X.K (L.CT c)) (hm : Meth X.K (L.CT c) mt f) (Fn : FnOk X.prog X.w X.K X.mg X.base (L2.CX X.prog X.w) k f fd ps (spM L m)) (hr : Room k X.A) (hb : Binds X.K fd ps [])
    (ha : PA X (e :: es) (tAP L q)) (hst : starEach (e :: es) X.env = (false, eval e X.env) :: starEach es X.env := by rfl) (hpl : (backTo pos (starEach es X.env)).any (·.1) = false := by rfl)
    (ht : eval (.Call (.Attribute o mt apos) (e :: es) [] pos) X.env = (do
      let ov ← eval o X.env
      standAt apos.atName
      let (f, first) ← holding [ov] (getMethod ov mt pl)
      callWith pos f first (backTo pos (starEach (e :: es) X.env)) (backToKw pos (keywordEach [] X.env))) := by rfl) : PE X (.Call (.Attribute o mt apos) (e :: es) [] pos) (tN L (methN c mt pa m q)) := (pe_methS ho cl hm Fn hr hb (fun σ => passAt takes0 σ) ha hst hpl ht).imp imp_methN
theorem pn_meth0 {c : Str} {pl : Sem Bool} (ho : PE X o (tP L pa)) (cl : Cls X.K (L.CT c)) (hm : Meth X.K (L.CT c) mt f) (Fn : FnOk X.prog X.w X.K X.mg X.base (L2.CX X.prog X.w) k f fd ps (spM L m)) (hr : Room k X.A) (hb : Binds X.K fd ps [])
    (ht : eval (.Call (.Attribute o mt apos) [] [] pos) X.env = (do
      let ov ← eval o X.env
      standAt apos.atName
      let (f, first) ← holding [ov] (getMethod ov mt pl)
      callWith pos f first (backTo pos (starEach [] X.env)) (backToKw pos (keywordEach [] X.env))) := by rfl) : PE X (.Call (.Attribute o mt apos) [] [] pos) (tN L (methN c mt pa m nilP)) := (pe_methS0 ho cl hm Fn hr hb (fun σ => passAt takes0 σ) ht).imp fun σ H Q h => by
  obtain ⟨F, ρ, g, d, er, hp, kk⟩ := imp_methN (E := WE W0) σ H Q h
  refine ⟨F, ρ, g, d, er, hp, fun v H1 k1 s1 r1 => ?_⟩
  obtain ⟨a, dx, fs, e1, e2, e3, F', ρ', g', ds, er', hq, h2⟩ := kk v H1 k1 s1 r1
  obtain rfl : [] = ds := Option.some.inj hq
  exact ⟨a, dx, fs, e1, e2, e3, h2 [] H1 f0 (Same.refl _) ⟨rfl, rfl⟩⟩
end
end VL
end
section
set_option Elab.async false
set_option linter.all false
set_option maxRecDepth 100000
namespace VL
open PySem L2

/-! ### targets, without the question whose places they are -/
def lstGP (n : Nat) (h : GsM) : GM := fun d ρ => match d with
  | .lst _ ds => if ds.length = n then h ds ρ else none
  | _ => none
def tGp (L : Ly) (Rl : L2.St → L2.St → Prop) (gm : GM) : TG := fun v σ H Q => ∃ F ρ g d k, EnvR L F H ρ σ g ∧ Rep L F H d v k ∧ ∃ ρ', gm d ρ = some ρ' ∧ ∀ σ' g', EnvR L F H ρ' σ' g' → Rl σ σ' → Q σ' H
def tGsp (L : Ly) (Rl : L2.St → L2.St → Prop) (gm : GsM) : TGs := fun vs σ H Q => ∃ F ρ g ds k, EnvR L F H ρ σ g ∧ Reps L F H ds vs k ∧ ∃ ρ', gm ds ρ = some ρ' ∧ ∀ σ' g', EnvR L F H ρ' σ' g' → Rl σ σ' → Q σ' H
section
variable {X : Cx} {L : Ly} {Rl : L2.St → L2.St → Prop} {e : Expr} {es : List Expr} {pos : Pos} {gm : GM} {gs : GsM}
theorem sgp_nm {i : Nat} {x : Str} (hS : ∀ σ y, Rl σ (List.set σ i y)) (hN : X.N.Nodup) (hi : X.N[i]? = some x) (hx : Loc X.env.scope x) (hf : X.fn x = true ∨ X.env.scope.names.lookup x = some .local := by first | exact .inl rfl | exact .inr rfl | assumption) : PG X (.Name x pos) (tGp L Rl (nmG i)) :=
  L2.PG.imp (pg_name hN hi hx hf) fun v σ H Q ⟨F, ρ, g, d, k, E, r, ρ', e, q⟩ => by
    obtain rfl := Option.some.inj e
    obtain ⟨f', e1, e2⟩ := E.put' (i := i) r
    exact q _ f' e1 (hS _ _)
theorem sgps_nil (R : RlOk Rl) : PGs X [] (tGsp L Rl nilG) := L2.PGs.imp pgs_nil fun vs σ H Q ⟨F, ρ, g, ds, k, E, r, ρ', e, q⟩ => by
  cases ds with
  | nil =>
    obtain rfl := Option.some.inj e
    exact ⟨r.1, q σ g E (R.refl σ)⟩
  | cons d ds => exact nomatch e
theorem sgps_cons (R : RlOk Rl) (h1 : PG X e (tGp L Rl gm)) (h2 : PGs X es (tGsp L Rl gs)) (hs : (assignEach (e :: es) X.env).map (·.2) = assign e X.env :: (assignEach es X.env).map (·.2) := by rfl) : PGs X (e :: es) (tGsp L Rl (consG gm gs)) :=
  L2.PGs.imp (pgs_cons h1 h2 hs) fun vs σ H Q ⟨F, ρ, g, ds, k, E, r, ρ', e, q⟩ => by
    cases ds with
    | nil => exact nomatch e
    | cons d ds =>
      obtain ⟨v, ws, k1, k2, rfl, ek, r1, r2⟩ := r
      obtain ⟨ρ1, e1, e2⟩ := Option.bind_eq_some_iff.mp e
      exact ⟨v, ws, rfl, F, ρ, g, d, k1, E, r1, ρ1, e1, fun σ1 g1 E1 s1 => ⟨F, ρ1, g1, ds, k2, E1, r2, ρ', e2, fun σ2 g2 E2 s2 => q σ2 g2 E2 (R.trans _ _ _ s1 s2)⟩⟩
theorem sgp_tup {n j : Nat} (hL : L.K = X.K) (hc : X.calm = true) (h : PGs X es (tGsp L Rl gs)) (hn : (assignEach es X.env).length = n := by rfl) (hst : (assignEach es X.env).findIdx? (·.1) = none := by rfl) : PG X (.Tuple es j pos) (tGp L Rl (tupG n gs)) :=
  L2.PG.imp (pg_tup hc h hn hst) fun v σ H Q ⟨F, ρ, g, d, k, E, r, ρ', e, q⟩ => by
    cases d with
    | tup ds =>
      obtain ⟨a, vs, rfl, sq, r⟩ := r
      by_cases hl : ds.length = n
      · simp only [tupG, if_pos hl] at e
        exact ⟨a, vs, rfl, by rw [← hL]; exact SqT.of sq, r.length.symm.trans hl, F, ρ, g, ds, k, E, r, ρ', e, q⟩
      · simp only [tupG, if_neg hl] at e
        exact nomatch e
    | _ => exact nomatch e
theorem sgp_lst {n j : Nat} (hL : L.K = X.K) (hc : X.calm = true) (h : PGs X es (tGsp L Rl gs)) (hn : (assignEach es X.env).length = n := by rfl) (hst : (assignEach es X.env).findIdx? (·.1) = none := by rfl) : PG X (.Tuple es j pos) (tGp L Rl (lstGP n gs)) :=
  L2.PG.imp (pg_lst hc h hn hst) fun v σ H Q ⟨F, ρ, g, d, k, E, r, ρ', e, q⟩ => by
    cases d with
    | lst o ds =>
      obtain ⟨a, vs, g', rfl, sq, r⟩ := r.list
      by_cases hl : ds.length = n
      · simp only [lstGP, if_pos hl] at e
        exact ⟨a, vs, rfl, by rw [← hL]; exact sq, r.length.symm.trans hl, F, ρ, g, ds, g', E, r, ρ', e, q⟩
      · simp only [lstGP, if_neg hl] at e
        exact nomatch e
    | _ => exact nomatch e
end

/-! ### comprehensions that only read -/
def pcL (gm : GM) (c : PT') (f : PM) : List D → List D → Env → Option (List D)
  | [], acc, _ => some acc
  | d :: ds, acc, ρ => (gm d ρ).bind fun ρ1 => (c ρ1).bind fun b => if b = true then (f ρ1).bind fun y => if acc.length < sizeLine then pcL gm c f ds (acc ++ [y]) ρ else none
      else pcL gm c f ds acc ρ
def yesP : PT' := fun _ => some true
def lcN (it : D → Option (List D)) (src : PM) (vs : List Nat) (gm : GM) (c : PT') (f : PM) : PM := fun ρ => (src ρ).bind fun d => (it d).bind fun ds => (pcL gm c f ds [] (wipeE vs ρ)).map (.lst true)
def lcNA (it : List D → Option (List D)) (src : PA') (vs : List Nat) (gm : GM) (c : PT') (f : PM) : PM := fun ρ => (src ρ).bind fun d => (it d).bind fun ds => (pcL gm c f ds [] (wipeE vs ρ)).map (.lst true)
def piL : D → Option (List D)
  | .lst _ ds => some ds
  | .ext ds => some ds
  | _ => none
def piT : D → Option (List D)
  | .tup ds => some ds
  | _ => none
def piE : D → Option (List D)
  | .lst _ ds => some (enumD 0 ds)
  | .ext ds => some (enumD 0 ds)
  | _ => none
def piR1 (ds : List D) : Option (List D) := match ds with
  | [.int j] => if inR j then some (rngD 0 j.toNat) else none
  | _ => none
def piR2 (ds : List D) : Option (List D) := match ds with
  | [.int i, .int j] => if inR i ∧ inR j then some (rngD i (j - i).toNat) else none
  | _ => none
structure SrcP (L : Ly) (F : AP) (H1 : Hp) (J : It) (ds : List D) : Prop where
  go : ∀ H i, Same H1 H → i < ds.length → J.go i H
  yld : ∀ H i x H', Same H1 H → J.yld i H x H' → Same H H' ∧ ∀ d, ds[i]? = some d → ∃ k, Rep L F H' d x k
  stop : ∀ H, Same H1 H → J.stop ds.length H
section
variable {L : Ly} {F : AP} {H1 : Hp} {d : D} {a : Addr} {k : Fp} {ds : List D}
theorem Rep.listX {H : Hp} {v : V} (r : Rep L F H d v k) (h : piL d = some ds) : ∃ a vs g, v = .ref a ∧ SqL L.K H a vs ∧ Reps L F H ds vs g := by
  cases d with
  | lst o es =>
    obtain rfl := Option.some.inj h
    exact r.list
  | ext es =>
    obtain rfl := Option.some.inj h
    obtain ⟨a, vs, rfl, sq, r⟩ := r
    exact ⟨a, vs, k, rfl, sq.sq, r⟩
  | _ => exact nomatch h
theorem srcp_list (r0 : Rep L F H1 d (.ref a) k) (h : piL d = some ds) : SrcP L F H1 (Itl L.K a) ds := by
  refine ⟨fun H i s hi => ?_, fun H i x H' s hy => ?_, fun H s => ?_⟩
  · obtain ⟨b, vs, g, e, sq, r⟩ := (r0.same s).listX h
    obtain rfl := V.ref.inj e
    obtain ⟨x, hx⟩ := get_lt r.length hi
    exact ⟨vs, x, sq, hx⟩
  · obtain ⟨rfl, hy⟩ := hy
    obtain ⟨b, vs, g, e, sq, r⟩ := (r0.same s).listX h
    obtain rfl := V.ref.inj e
    refine ⟨Same.refl _, fun d hd => ?_⟩
    obtain ⟨v, g1, h1, h2, _⟩ := r.get hd
    have ev := (hy vs sq).symm.trans h1
    obtain rfl := Option.some.inj ev
    exact ⟨g1, h2⟩
  · obtain ⟨b, vs, g, e, sq, r⟩ := (r0.same s).listX h
    obtain rfl := V.ref.inj e
    exact ⟨vs, sq, Nat.le_of_eq r.length.symm⟩
theorem srcp_tup {ds : List D} (r0 : Rep L F H1 (.tup ds) (.ref a) k) : SrcP L F H1 (Itt L.K a) ds := by
  refine ⟨fun H i s hi => ?_, fun H i x H' s hy => ?_, fun H s => ?_⟩
  · obtain ⟨b, vs, e, sq, r⟩ := r0.same s
    obtain rfl := V.ref.inj e
    obtain ⟨x, hx⟩ := get_lt r.length hi
    exact ⟨vs, x, SqT.of sq, hx⟩
  · obtain ⟨rfl, hy⟩ := hy
    obtain ⟨b, vs, e, sq, r⟩ := r0.same s
    obtain rfl := V.ref.inj e
    refine ⟨Same.refl _, fun d hd => ?_⟩
    obtain ⟨v, g1, h1, h2, _⟩ := r.get hd
    have ev := (hy vs (SqT.of sq)).symm.trans h1
    obtain rfl := Option.some.inj ev
    exact ⟨g1, h2⟩
  · obtain ⟨b, vs, e, sq, r⟩ := r0.same s
    obtain rfl := V.ref.inj e
    exact ⟨vs, SqT.of sq, Nat.le_of_eq r.length.symm⟩
theorem srcp_enum (r0 : Rep L F H1 d (.ref a) k) (h : piL d = some ds) : SrcP L F H1 (Ite L.K a) (enumD 0 ds) := by
  refine ⟨fun H i s hi => ?_, fun H i x H' s hy => ?_, fun H s => ?_⟩
  · obtain ⟨b, vs, g, e, sq, r⟩ := (r0.same s).listX h
    obtain rfl := V.ref.inj e
    obtain ⟨x, hx⟩ := get_lt r.length (by rw [enumD_length] at hi; exact hi)
    exact ⟨vs, x, sq, hx⟩
  · obtain ⟨T, y, rfl, nT, rfl, hy⟩ := hy
    obtain ⟨b, vs, g, e, sq, r⟩ := (r0.same s).listX h
    obtain rfl := V.ref.inj e
    refine ⟨same_upd nT, fun d hd => ?_⟩
    obtain ⟨z, h1, rfl⟩ := enumD_get ds 0 i d hd
    obtain ⟨v, g1, h2, h3, _⟩ := r.get h1
    have ev := (hy vs sq).symm.trans h2
    obtain rfl := Option.some.inj ev
    rw [Nat.zero_add]
    exact ⟨fadd f0 (fadd g1 f0), ⟨T, _, rfl, upd_same, .int (i : Nat), [y], f0, fadd g1 f0, rfl, rfl, ⟨rfl, rfl⟩, y, [], g1, f0, rfl, rfl, h3.same (same_upd nT), rfl, rfl⟩⟩
  · obtain ⟨b, vs, g, e, sq, r⟩ := (r0.same s).listX h
    obtain rfl := V.ref.inj e
    exact ⟨vs, sq, by rw [enumD_length]; exact Nat.le_of_eq r.length.symm⟩
theorem srcp_rng {lo : Int} {n : Nat} : SrcP L F H1 (Itr lo n) (rngD lo n) := by
  have z := src_rng (L := L) (lo := lo) (n := n)
  exact ⟨fun H i _ hi => z.go F H i trivial hi, fun H i x H' _ hy => ⟨(z.yld F H i x H' trivial hy).1, fun d hd => ((z.yld F H i x H' trivial hy).2 d hd).imp fun k h => h.1⟩, fun H _ => z.stop F H trivial⟩

theorem pc_core {J : It} {ρ1 : Env} {σ : L2.St} {g1 : Fp} {Q : VK} {res : List D} {vs : List Nat} {gm : GM} {tc : PT'} {fa : PM} (hF : ∀ a, F a → H1 a ≠ none) (sr : SrcP L F H1 J ds) (E : EnvR L F H1 ρ1 σ g1) (el : pcL gm tc fa ds [] (wipeE vs ρ1) = some res)
    (p : ∀ v H' k, Same H1 H' → New H1 H' k → Rep L F H' (.lst true res) v k → Q v H') :
    ∀ T, H1 T = none → ∃ Wv : Nat → Nat → Hp → Prop, (∃ n, Wv 0 n (upd H1 T (.lst []))) ∧ ∀ i n H, Wv i n H → (J.stop i H ∧ Q (.ref T) H) ∨ (J.go i H ∧ ∃ Nx : Hp → Prop, (∀ H', Nx H' → ∃ n', n' < n ∧ Wv (i + 1) n' H') ∧
      ∀ x H', J.yld i H x H' → tGp L (wipeRl vs) gm x (wipe σ vs) H' fun σ2 H2 => wipe σ2 vs = wipe σ vs ∧ tPT L tc σ2 H2 fun b H3 =>
        if b = true then tN L fa σ2 H3 fun y H4 => ∃ acc, H4 T = some (.lst acc) ∧ acc.length < sizeLine ∧ Nx (upd H4 T (.lst (acc ++ [y]))) else Nx H3) := by
  intro T nT
  obtain ⟨g0, E0, _⟩ := E.wipe vs
  let Inv' : Nat → Hp → Prop := fun i H => ∃ acc ws ka, Same H1 H ∧ H T = some (.lst ws) ∧ Reps L F H acc ws ka ∧ New H1 H (fadd (f1 T) ka) ∧ pcL gm tc fa (ds.drop i) acc (wipeE vs ρ1) = some res
  refine ⟨fun i n H => n = ds.length - i ∧ i ≤ ds.length ∧ Inv' i H, ⟨ds.length, by simp, Nat.zero_le _, [], [], f0, same_upd nT, upd_same, ⟨rfl, rfl⟩, by rw [fadd_f0]; exact New.one nT, by simpa using el⟩, ?_⟩
  rintro i n H ⟨rfl, hi, acc, ws, ka, s0, eT, RA, nw, ll⟩
  by_cases hlt : i < ds.length
  · refine .inr ⟨sr.go H i s0 hlt, fun H' => Inv' (i + 1) H', fun H' hN => ⟨ds.length - (i + 1), by omega, rfl, hlt, hN⟩, ?_⟩
    intro x H' hy
    obtain ⟨s1, q⟩ := sr.yld H i x H' s0 hy
    have hd : ds[i]? = some ds[i] := List.getElem?_eq_getElem hlt
    obtain ⟨k, r1⟩ := q _ hd
    rw [List.drop_eq_getElem_cons hlt] at ll
    obtain ⟨ρa, ea, ll⟩ := Option.bind_eq_some_iff.mp ll
    obtain ⟨b, eb, ll⟩ := Option.bind_eq_some_iff.mp ll
    have s01 := s0.trans s1
    refine ⟨F, wipeE vs ρ1, g0, ds[i], k, E0.same s01, r1, ρa, ea, fun σ2 g2 E2 hw2 => ⟨hw2.trans (wipe_wipe σ vs), F, ρa, g2, b, E2, eb, fun H3 s3 => ?_⟩⟩
    have s13 : Same H H3 := s1.trans s3
    have s03 := s0.trans s13
    cases b with
    | false =>
      rw [if_neg Bool.false_ne_true] at ll
      show if false = true then _ else _
      rw [if_neg Bool.false_ne_true]; exact ⟨acc, ws, ka, s03, s13 _ _ eT, RA.same s13, fun a => ⟨(nw a).1, fun x => ⟨((nw a).2 x).1, by
        cases h : H a with
        | none => exact absurd h ((nw a).2 x).2
        | some o => rw [s13 a o h]; exact fun z => nomatch z⟩⟩, ll⟩
    | true =>
      rw [if_pos rfl] at ll
      show if true = true then _ else _
      rw [if_pos rfl]
      obtain ⟨y, ey, ll⟩ := Option.bind_eq_some_iff.mp ll
      refine ⟨F, ρa, g2, y, E2.same s3, ey, fun v H4 kv s4 n4 rv => ?_⟩
      by_cases hz : acc.length < sizeLine
      · rw [if_pos hz] at ll
        have s14 : Same H H4 := s13.trans s4
        have eT4 := s14 _ _ eT
        have eT3 := s13 _ _ eT
        have RA4 := RA.same s14
        have kaT : ka T = 0 := by have := (nw T).1; rw [fadd_at, f1_self] at this; omega
        have kvT : kv T = 0 := by
          by_cases q : 1 ≤ kv T
          · exact absurd eT3 (by rw [((n4 T).2 q).1]; exact fun z => nomatch z)
          · omega
        have up : ∀ a o, H4 a = some o → a ≠ T → upd H4 T (.lst (ws ++ [v])) a = some o := fun a o e h => by rw [upd_ne h]; exact e
        have fT : ∀ a o, H4 a = some o → F a ∨ stab o → a ≠ T := fun a o e c => by
          rintro rfl
          rcases c with c | c
          · exact hF _ c nT
          · rw [eT4] at e
            obtain rfl := Option.some.inj e
            exact c
        refine ⟨ws, eT4, by rw [← RA.length]; exact hz, acc ++ [y], ws ++ [v], fadd ka kv, fun a o e => up a o (s4 _ _ (s03 a o e)) (by rintro rfl; rw [nT] at e; exact nomatch e), upd_same, ?_, ?_, ll⟩
        · refine Reps.snoc (RA4.mono (fun _ x => x) (fun a o e c => up a o e (fT a o e c)) acc fun a o x e => up a o e ?_) (rv.mono (fun _ x => x) (fun a o e c => up a o e (fT a o e c)) y fun a o x e => up a o e ?_)
          · rintro rfl; omega
          · rintro rfl; omega
        · intro a
          have trk : ∀ {o}, H4 a = some o → upd H4 T (.lst (ws ++ [v])) a ≠ none := fun {o} e => by
            by_cases h : a = T
            · subst h; rw [upd_same]; exact fun z => nomatch z
            · rw [upd_ne h, e]; exact fun z => nomatch z
          by_cases q : 1 ≤ kv a
          · obtain ⟨n1, n2⟩ := (n4 a).2 q
            have hz0 : ¬ 1 ≤ fadd (f1 T) ka a := fun z => by
              cases h : H a with
              | none => exact ((nw a).2 z).2 h
              | some o => rw [s13 a o h] at n1; exact nomatch n1
            rw [fadd_at] at hz0
            have := (n4 a).1
            refine ⟨by rw [fadd_at, fadd_at]; omega, fun _ => ⟨?_, ?_⟩⟩
            · cases h : H1 a with
              | none => rfl
              | some o => rw [s03 a o h] at n1; exact nomatch n1
            · cases h : H4 a with
              | none => exact absurd h n2
              | some o => exact trk h
          · have h1 := nw a
            rw [fadd_at] at h1
            refine ⟨by rw [fadd_at, fadd_at]; omega, fun x => ?_⟩
            have x' : 1 ≤ f1 T a + ka a := by rw [fadd_at, fadd_at] at x; omega
            refine ⟨(h1.2 x').1, ?_⟩
            cases h : H a with
            | none => exact absurd h (h1.2 x').2
            | some o => exact trk (s14 a o h)
      · rw [if_neg hz] at ll
        exact nomatch ll
  · have e : i = ds.length := by omega
    subst e
    rw [List.drop_length] at ll
    obtain rfl := Option.some.inj ll
    exact .inl ⟨sr.stop H s0, p (.ref T) H (fadd (f1 T) ka) s0 nw ⟨T, ws, ka, rfl, eT, rfl, RA⟩⟩
end
/-- the parts of a block that only reads -/
structure BlkN (X : Cx) (L : Ly) (scope : Scope) (own : List (Str × Nat)) (tg elt : Expr) (ifs : List Expr) (gm : GM) (tc : PT') (fe : PM) : Prop where
  ok : BlkOk X.N X.env.scope scope own
  hg : ∀ (s : Shared) (H : Hp) (C : Addr) (cl : List (Str × Addr)) (fp : List Addr), PG (X.blk s H scope (compEnvC scope cl C X.env) fp) tg (tGp L (wipeRl (own.map (·.2))) gm)
  ht : ∀ (s : Shared) (H : Hp) (C : Addr) (cl : List (Str × Addr)) (fp : List Addr), PTs (X.blk s H scope (compEnvC scope cl C X.env) fp) ifs (tPT L tc)
  he : ∀ (s : Shared) (H : Hp) (C : Addr) (cl : List (Str × Addr)) (fp : List Addr), PE (X.blk s H scope (compEnvC scope cl C X.env) fp) elt (tN L fe)
section
variable {X : Cx} {L : Ly} {elt tg iter e e2 c : Expr} {ifs : List Expr} {scope : Scope} {own : List (Str × Nat)} {pos p : Pos} {pa fe f : PM} {q : PA'} {gm : GM} {tc : PT'}
theorem ptts_nil : PTs X [] (tPT L yesP) := ⟨fun pins s σ H Q I ⟨F, ρ, g, b, E, e, p⟩ => (pts_nil (X := X)).run pins s σ H Q I (by
  obtain rfl : true = b := Option.some.inj e
  exact p H (Same.refl H))⟩
theorem ptts_one (h : PT X c (tPT L tc)) : PTs X [c] (tPT L tc) := pts_one h
theorem trk_env {F : AP} {H : Hp} {ρ : Env} {σ : L2.St} {g : Fp} (E : EnvR L F H ρ σ g) : EnvR L (fun a => F a ∧ H a ≠ none) H ρ σ g := E.re fun a o e x => ⟨x, by rw [e]; exact fun z => nomatch z⟩
theorem un_trk {F : AP} {H : Hp} {d : D} {v : V} {k : Fp} (P : Hp) (r : Rep L (fun a => F a ∧ P a ≠ none) H d v k) : Rep L F H d v k := r.re fun a o e x => x.1
theorem same_trk {F : AP} {H H1 : Hp} {d : D} {v : V} {k : Fp} (s : Same H H1) (r : Rep L (fun a => F a ∧ H a ≠ none) H1 d v k) : Rep L (fun a => F a ∧ H1 a ≠ none) H1 d v k := r.re fun a o e x => ⟨x.1, by rw [e]; exact fun z => nomatch z⟩
theorem imp_lcNL (hL : L.K = X.K) {vs : List Nat} : ∀ σ H Q, tN L (lcN piL pa vs gm tc fe) σ H Q → tLc (iList X.K (tP L pa)) (tGp L (wipeRl vs) gm) (tPT L tc) (tN L fe) vs σ H Q := fun σ H Q ⟨F, ρ, g, d, E, hp, kk⟩ => by
  obtain ⟨d1, h1, hp⟩ := Option.bind_eq_some_iff.mp hp
  obtain ⟨ds, h2, hp⟩ := Option.bind_eq_some_iff.mp hp
  obtain ⟨res, h3, rfl⟩ := Option.map_eq_some_iff.mp hp
  refine ⟨F, ρ, g, d1, E, h1, fun v H1 k1 s1 r1 => ?_⟩
  obtain ⟨a, ws, gg, rfl, sq, _⟩ := r1.listX h2
  refine ⟨a, rfl, ⟨ws, by rw [← hL]; exact sq⟩, ?_⟩
  rw [← hL]
  exact pc_core (F := fun a => F a ∧ H1 a ≠ none) (fun a x => x.2) (srcp_list (r1.re fun a o e x => ⟨x, by rw [e]; exact fun z => nomatch z⟩) h2) (trk_env (E.same s1)) h3 fun v H' k s n r => kk v H' k (s1.trans s) (n.same s1) (un_trk H1 r)
theorem imp_lcNT (hL : L.K = X.K) {vs : List Nat} : ∀ σ H Q, tN L (lcN piT pa vs gm tc fe) σ H Q → tLc (iTup X.K (tP L pa)) (tGp L (wipeRl vs) gm) (tPT L tc) (tN L fe) vs σ H Q := fun σ H Q ⟨F, ρ, g, d, E, hp, kk⟩ => by
  obtain ⟨d1, h1, hp⟩ := Option.bind_eq_some_iff.mp hp
  obtain ⟨ds, h2, hp⟩ := Option.bind_eq_some_iff.mp hp
  obtain ⟨res, h3, rfl⟩ := Option.map_eq_some_iff.mp hp
  refine ⟨F, ρ, g, d1, E, h1, fun v H1 k1 s1 r1 => ?_⟩
  cases d1 with
  | tup es =>
    obtain rfl := Option.some.inj h2
    obtain ⟨a, ws, rfl, sq, _⟩ := id r1
    refine ⟨a, rfl, ⟨ws, by rw [← hL]; exact SqT.of sq⟩, ?_⟩
    rw [← hL]
    exact pc_core (F := fun a => F a ∧ H1 a ≠ none) (fun a x => x.2) (srcp_tup (r1.re fun a o e x => ⟨x, by rw [e]; exact fun z => nomatch z⟩)) (trk_env (E.same s1)) h3 fun v H' k s n r => kk v H' k (s1.trans s) (n.same s1) (un_trk H1 r)
  | _ => exact nomatch h2
theorem piE_L {d : D} {ds : List D} (h : piE d = some ds) : ∃ es, piL d = some es ∧ ds = enumD 0 es := by
  cases d with
  | lst o es => exact ⟨es, rfl, (Option.some.inj h).symm⟩
  | ext es => exact ⟨es, rfl, (Option.some.inj h).symm⟩
  | _ => exact nomatch h
theorem imp_lcNE (hL : L.K = X.K) {vs : List Nat} : ∀ σ H Q, tN L (lcN piE pa vs gm tc fe) σ H Q → tLc (iEnum X.K (tCons (tP L pa) tNil)) (tGp L (wipeRl vs) gm) (tPT L tc) (tN L fe) vs σ H Q := fun σ H Q ⟨F, ρ, g, d, E, hp, kk⟩ => by
  obtain ⟨d1, h1, hp⟩ := Option.bind_eq_some_iff.mp hp
  obtain ⟨ds, h2, hp⟩ := Option.bind_eq_some_iff.mp hp
  obtain ⟨res, h3, rfl⟩ := Option.map_eq_some_iff.mp hp
  refine ⟨F, ρ, g, d1, E, h1, fun v H1 k1 s1 r1 => ?_⟩
  obtain ⟨es, h4, rfl⟩ := piE_L h2
  obtain ⟨a, ws, gg, rfl, sq, _⟩ := r1.listX h4
  refine ⟨a, ws, rfl, by rw [← hL]; exact sq, ?_⟩
  rw [← hL]
  exact pc_core (F := fun a => F a ∧ H1 a ≠ none) (fun a x => x.2) (srcp_enum (r1.re fun a o e x => ⟨x, by rw [e]; exact fun z => nomatch z⟩) h4) (trk_env (E.same s1)) h3 fun v H' k s n r => kk v H' k (s1.trans s) (n.same s1) (un_trk H1 r)
theorem imp_lcNR1 {vs : List Nat} : ∀ σ H Q, tN L (lcNA piR1 q vs gm tc fe) σ H Q → tLc (iRng1 (tAP L q)) (tGp L (wipeRl vs) gm) (tPT L tc) (tN L fe) vs σ H Q := fun σ H Q ⟨F, ρ, g, d, E, hp, kk⟩ => by
  obtain ⟨d1, h1, hp⟩ := Option.bind_eq_some_iff.mp hp
  obtain ⟨ds, h2, hp⟩ := Option.bind_eq_some_iff.mp hp
  obtain ⟨res, h3, rfl⟩ := Option.map_eq_some_iff.mp hp
  refine ⟨F, ρ, g, d1, E, h1, fun vv H1 k1 s1 r1 => ?_⟩
  match d1, h2, r1 with
  | [.int j], h2, r1 =>
    obtain ⟨v, rfl, rv⟩ := Reps.one r1
    by_cases hj : inR j
    · simp only [piR1, if_pos hj] at h2
      obtain rfl := Option.some.inj h2
      exact ⟨j, by rw [rv.1], hj.1, hj.2, pc_core (F := fun a => F a ∧ H1 a ≠ none) (fun a x => x.2) srcp_rng (trk_env (E.same s1)) h3 fun v H' k s n r => kk v H' k (s1.trans s) (n.same s1) (un_trk H1 r)⟩
    · simp only [piR1, if_neg hj] at h2
      exact nomatch h2
theorem imp_lcNR2 {vs : List Nat} : ∀ σ H Q, tN L (lcNA piR2 q vs gm tc fe) σ H Q → tLc (iRng2 (tAP L q)) (tGp L (wipeRl vs) gm) (tPT L tc) (tN L fe) vs σ H Q := fun σ H Q ⟨F, ρ, g, d, E, hp, kk⟩ => by
  obtain ⟨d1, h1, hp⟩ := Option.bind_eq_some_iff.mp hp
  obtain ⟨ds, h2, hp⟩ := Option.bind_eq_some_iff.mp hp
  obtain ⟨res, h3, rfl⟩ := Option.map_eq_some_iff.mp hp
  refine ⟨F, ρ, g, d1, E, h1, fun vv H1 k1 s1 r1 => ?_⟩
  match d1, h2, r1 with
  | [.int i, .int j], h2, r1 =>
    obtain ⟨v, v', _, _, rfl, rv, rv'⟩ := Reps.two r1
    by_cases hj : inR i ∧ inR j
    · simp only [piR2, if_pos hj] at h2
      obtain rfl := Option.some.inj h2
      exact ⟨i, j, by rw [rv.1, rv'.1], ⟨hj.1.1, hj.1.2, hj.2.1, hj.2.2⟩, pc_core (F := fun a => F a ∧ H1 a ≠ none) (fun a x => x.2) srcp_rng (trk_env (E.same s1)) h3 fun v H' k s n r => kk v H' k (s1.trans s) (n.same s1) (un_trk H1 r)⟩
    · simp only [piR2, if_neg hj] at h2
      exact nomatch h2
theorem pn_lc {wi : TI} (hc : X.calm = true) (hN : X.N.Nodup) (hi : PI X tg iter wi) (B : BlkN X L scope own tg elt ifs gm tc fe) (w : ∀ σ H Q, tN L f σ H Q → tLc wi (tGp L (wipeRl (own.map (·.2))) gm) (tPT L tc) (tN L fe) (own.map (·.2)) σ H Q)
    (hs : ∀ x, foldedSetIterable iter X.env x = pure x := by intro _; rfl) : PE X (.ListComp elt [⟨tg, iter, ifs, 0⟩] scope pos) (tN L f) := (pe_lc hc hN hi B.ok B.hg B.ht B.he hs).imp w
end
end VL
end
section
set_option Elab.async false
set_option linter.all false
set_option maxRecDepth 100000
namespace VL
open PySem L2

/-! ### slices, read -/
def sliceN (pa : PM) (pl ph : OM) : PM := fun ρ => match pa ρ, pl ρ, ph ρ with
  | some d, some lo, some hi => match piL d with
    | some ds => if froL ds = true then some (.lst true (cutD ds lo hi)) else none
    | none => none
  | _, _, _ => none
/-- a statement that is never reached -/
def badM : SM := fun _ => .bad
section
variable {X : Cx} {L : Ly} {W : WX} {S : List Nat} {e : Expr} {st : Stmt} {sts : List Stmt} {lo hi : Option Expr} {pos p2 : Pos} {pa : PM} {pl ph : OM}
theorem pn_slice (hL : L.K = X.K) (he : PE X e (tP L pa)) (hl : PO X lo (tOM L pl)) (hu : PO X hi (tOM L ph)) : PE X (.Subscript e (.Slice lo hi none p2) pos) (tN L (sliceN pa pl ph)) := (pe_slice sl_list he hl hu).imp fun σ H Q ⟨F, ρ, g, d0, E, hp, kk⟩ => by
  unfold sliceN at hp
  cases e1 : pa ρ with
  | none => simp only [e1] at hp; exact nomatch hp
  | some d =>
    cases e2 : pl ρ with
    | none => simp only [e1, e2] at hp; exact nomatch hp
    | some l =>
      cases e3 : ph ρ with
      | none => simp only [e1, e2, e3] at hp; exact nomatch hp
      | some u =>
        simp only [e1, e2, e3] at hp
        refine ⟨F, ρ, g, d, E, e1, fun v H1 k1 s1 r1 => ⟨F, ρ, g, l, E.same s1, e2, fun H2 s2 => ⟨F, ρ, g, u, (E.same s1).same s2, e3, fun H3 s3 => ?_⟩⟩⟩
        have s13 := s1.trans (s2.trans s3)
        have r3 := (r1.same s2).same s3
        cases e4 : piL d with
        | none => simp only [e4] at hp; exact nomatch hp
        | some ds =>
          simp only [e4] at hp
          by_cases hf : froL ds = true
          · rw [if_pos hf] at hp
            obtain rfl := Option.some.inj hp
            obtain ⟨a, vs, gg, rfl, sq, rr⟩ := r3.listX e4
            have eg := Reps.fro0 ds hf rr
            subst eg
            refine ⟨a, vs, rfl, by rw [← hL]; exact sq, fun q nq => ?_⟩
            have rc : Reps L F H3 (cutD ds l u) (cutV vs l u) f0 := by
              unfold cutD cutV
              rw [rr.length]
              exact Reps.take0 _ (froL_drop _ hf) (Reps.drop0 _ hf rr)
            exact kk (.ref q) _ (f1 q) (s13.trans (same_upd nq)) ((New.one nq).same s13) ⟨q, _, f0, rfl, upd_same, (fadd_f0 _).symm, rc.same (same_upd nq)⟩
          · rw [if_neg hf] at hp
            exact nomatch hp
theorem ss_bad : PS X st (tS L W S badM) := ⟨fun pins s σ H D I ⟨Kp, F, ρ, g, E, G, p⟩ => p.elim⟩
theorem sss_bad : PSs X sts (tS L W S badM) := ⟨fun pins s σ H D I ⟨Kp, F, ρ, g, E, G, p⟩ => p.elim⟩
end

/-! ### a loop over an owned list that has a name -/
def SR.put (i : Nat) (d : D) : SR → SR
  | .nx ρ => .nx (ρ.set i (some d))
  | .bk ρ => .bk (ρ.set i (some d))
  | .ct ρ => .ct (ρ.set i (some d))
  | .rt x ρ => .rt x (ρ.set i (some d))
  | .exc e ρ => .exc e (ρ.set i (some d))
  | .bad => .bad
def forN (i : Nat) (gm : GM) (m : SM) : SM := fun ρ => match ρ.at i with
  | some d => match d with
    | .lst true ds => if froL ds = true then (forL gm m ds (ρ.set i none)).put i d else .bad
    | _ => .bad
  | none => .bad
section
variable {X : Cx} {L : Ly} {W : WX} {S : List Nat} {tg iter : Expr} {body : List Stmt} {pos : Pos} {gm : GM} {m : SM}
theorem PostS.back {Kp F : AP} {H : Hp} {σ : L2.St} {D : Ends} {kt : Fp} {i : Nat} {d : VL.D} {v : V} {r : SR} (hi : σ[i]? = some (some v)) (h : PostS L W S Kp F H σ D (r.put i d)) : PostH L W (i :: S) Kp F H σ D (fun F H => Rep L F H d v kt) kt r := by
  have key : ∀ {F' : AP} {H' : Hp} {ρ : Env} {σ' : L2.St} {f k : Fp}, EnvR L F' H' ρ σ' f → Good Kp F' H' (fadd (fadd f k) kt) → Rep L F' H' d v kt → KeepS (i :: S) σ σ' → ∃ g, EnvR L F' H' (ρ.set i (some d)) σ' g ∧ Good Kp F' H' (fadd g k) := fun {F' H' ρ σ' f k} E G r ks => by
    obtain ⟨f', E', l'⟩ := E.drop i
    have hv : σ'[i]? = some (some v) := (ks i List.mem_cons_self).trans hi
    exact ⟨_, E'.fill hv r, G.le fun a => by have := l' a; simp only [fadd_at]; omega⟩
  have ks : ∀ {σ' : L2.St}, KeepS (i :: S) σ σ' → KeepS S σ σ' := fun h j hj => h j (List.mem_cons_of_mem _ hj)
  cases r with
  | nx ρ =>
    exact fun F' H' σ' f e g r s k => by
      obtain ⟨g', E, G⟩ := key (k := f0) e (by rw [fadd_f0]; exact g) r k
      exact h F' H' σ' g' E (by rw [fadd_f0] at G; exact G) s (ks k)
  | bk ρ =>
    exact fun F' H' σ' f e g r s k => by
      obtain ⟨g', E, G⟩ := key (k := f0) e (by rw [fadd_f0]; exact g) r k
      exact h F' H' σ' g' E (by rw [fadd_f0] at G; exact G) s (ks k)
  | ct ρ =>
    exact fun F' H' σ' f e g r s k => by
      obtain ⟨g', E, G⟩ := key (k := f0) e (by rw [fadd_f0]; exact g) r k
      exact h F' H' σ' g' E (by rw [fadd_f0] at G; exact G) s (ks k)
  | rt x ρ =>
    exact fun F' H' σ' f v' gg e rx g r s k => by
      obtain ⟨g', E, G⟩ := key (k := gg) e g r k
      exact h F' H' σ' g' v' gg E rx G s (ks k)
  | exc x ρ =>
    exact fun F' H' σ' f cls d0 e g r s k hx => by
      obtain ⟨g', E, G⟩ := key (k := f0) e (by rw [fadd_f0]; exact g) r k
      exact h F' H' σ' g' cls d0 E (by rw [fadd_f0] at G; exact G) s (ks k) hx
  | bad => exact h
theorem ss_forN {i : Nat} (hL : L.K = X.K) (hp : PassesOwn (model X.prog X.w) X.A X.env X.xe) (hc : X.calm = true) (hi : PE X iter (tVar i)) (hg : PG X tg (tGt L (KeepS (i :: S)) gm)) (hb : PSs X body (tS L W (i :: S) m))
    (hs : ∀ x, foldedSetIterable iter X.env x = pure x := by intro _; rfl) : PS X (.For tg iter body [] pos) (tS L W S (forN i gm m)) := (ps_for hp hc (pi_list hi) hg hb hs).imp fun D σ H ⟨Kp, F, ρ, g, E, G, p⟩ => by
  unfold forN at p
  cases er : ρ.at i with
  | none => rw [er] at p; exact p.elim
  | some d =>
    rw [er] at p
    cases d with
    | lst o ds =>
      cases o with
      | false => exact p.elim
      | true =>
        dsimp only at p
        split at p
        next hf =>
          obtain ⟨v, g1, g2, h1, h2, r, E2, _⟩ := E.get er
          obtain ⟨a, vs, gg, rfl, sq, _⟩ := Rep.list r
          refine ⟨.ref a, h1, a, rfl, ⟨vs, by rw [← hL]; exact sq⟩, ?_⟩
          rw [← hL]
          exact for_coreH (kt := g1) (fun F H => Rep L F H (.lst true ds) (.ref a) g1) (src_list (if_pos hf)) (fun F H F' H' r s => r.step s) r E2 (G.le fun a => by rw [h2]; simp only [fadd_at]; omega) (PostS.back h1 p)
        next => exact p.elim
    | _ => exact p.elim
end
end VL
end
section
set_option Elab.async false
set_option linter.all false
set_option maxRecDepth 100000
set_option maxHeartbeats 2000001
namespace VL
open L2 PyProof.Rows PySem.Spec PySem

/-! ### the end of a list iterator, with what stands behind itZ -/
theorem pyNext_end {prog : Program} {w : World} {A : Around} {E : Value → Shared → Prop} {s : Shared} {itZ l : Addr} {i : Nat} {items} {Q : Option Value → Shared → Prop} (hh : A.handled = none)
    (hoZ : s.heap.get? itZ = some (GNX.itObj l i)) (hlZ : s.heap.IsList l items) (hxZ : items[i]? = none)
    (hQ : ∀ h', Heap.ExtBut itZ s.heap h' → h'.get? itZ = some (GNX.itEnd i) → Q none { s with heap := h' }) : wpAny (model prog w) A (pyNext (.ref itZ)) Q E s := by
  have hdZ : (GNX.itObj l i).data = .fields #[.ref l, .int i 0] := rfl
  have hitZ : s.heap.IsListIter itZ l i := ⟨_, hoZ, rfl, rfl⟩
  obtain ⟨ol, hol, _, nlZ, hdlZ⟩ := hlZ
  unfold pyNext
  refine wpAny_bind (wpAny_attempt (wpAny_callSpecial?_slot (name := Str.ofString "__next__") hitZ.typeIs slot_listiter_next
    (wpAny_call_entry slot_listiter_next hitZ.typeIs entry_listiter_next ?_ (args_listiter_next _))))
  show wpAny _ _ (field (.ref itZ) 0 >>= _) _ _ s
  refine wpAny_bind (wpAny_field hoZ hdZ (x := .ref l) rfl ?_)
  show wpAny _ _ (if (Value.ref l == Value.none) = true then _ else _) _ _ s; rw [if_neg (show ¬ ((Value.ref l == Value.none) = true) from Bool.false_ne_true)]
  show wpAny _ _ (field (.ref itZ) 1 >>= _) _ _ s
  refine wpAny_bind (wpAny_field hoZ hdZ (x := .int i 0) rfl ?_)
  show wpAny _ _ (seqItems? (.ref l) >>= _) _ _ s; refine wpAny_bind (wpAny_seqItems hol hdlZ ?_)
  simp only [Int.toNat_natCast, hxZ]
  refine wpAny_bind (wpAny_rule (wpAny_bind (wpAny_setField hoZ hdZ (by simp) ?_)))
  show wpAny _ _ (newExc (.type "StopIteration") [] >>= _) _ _ _; refine wpAny_bind ?_
  simp only [newExc, newTuple]
  refine wpAny_bind (wpAny_newObj_type ?_ (by size_fits)); refine wpAny_bind (m := firstArgMember _ _) (wpAny_of_eq (a := Value.none) (by first | rfl | (simp only [firstArgMember]; rfl)) ?_)
  refine wpAny_newObj_type ?_ (by size_fits); simp only [raiseNew]
  refine wpAny_bind (wpAny_handled ?_); rw [show A.in1.handled = none from hh]
  refine wpAny_bind (wpAny_pure (wpAny_throw ?_)); refine wpAny_bind (wpAny_isInstance (T := "StopIteration") (b := true) ⟨_, Heap.get?_push_size _ rfl, rfl⟩ isSubtype_stop ?_)
  refine wpAny_pure (hQ _ (((Heap.SameBut.update ..).extBut.push _).push _) ?_)
  refine Heap.get?_push_of_some _ (Heap.get?_push_of_some _ ?_)
  rw [Heap.get?_update_self _ hoZ (Obj.isFreed_of_fields (Obj.data_mapFields hdZ _))]
  exact congrArg some (GNX.end_obj l i)

theorem pyNext_item {prog : Program} {w : World} {A : Around} {E : Value → Shared → Prop} {s : Shared} {itZ l : Addr} {i : Nat} {items} {x : Value} {Q : Option Value → Shared → Prop}
    (hoZ : s.heap.get? itZ = some (GNX.itObj l i)) (hlZ : s.heap.IsList l items) (hxZ : items[i]? = some x)
    (hQ : ∀ h', Heap.SameBut itZ s.heap h' → h'.get? itZ = some (GNX.itObj l (i + 1)) → Q (some x) { s with heap := h' }) : wpAny (model prog w) A (pyNext (.ref itZ)) Q E s := by
  have hdZ : (GNX.itObj l i).data = .fields #[.ref l, .int i 0] := rfl
  have hitZ : s.heap.IsListIter itZ l i := ⟨_, hoZ, rfl, rfl⟩
  obtain ⟨ol, hol, _, nlZ, hdlZ⟩ := hlZ
  unfold pyNext
  refine wpAny_bind (wpAny_attempt (wpAny_callSpecial?_slot (name := Str.ofString "__next__") hitZ.typeIs slot_listiter_next
    (wpAny_call_entry slot_listiter_next hitZ.typeIs entry_listiter_next ?_ (args_listiter_next _))))
  show wpAny _ _ (field (.ref itZ) 0 >>= _) _ _ s
  refine wpAny_bind (wpAny_field hoZ hdZ (x := .ref l) rfl ?_)
  show wpAny _ _ (if (Value.ref l == Value.none) = true then _ else _) _ _ s; rw [if_neg (show ¬ ((Value.ref l == Value.none) = true) from Bool.false_ne_true)]
  show wpAny _ _ (field (.ref itZ) 1 >>= _) _ _ s
  refine wpAny_bind (wpAny_field hoZ hdZ (x := .int i 0) rfl ?_)
  show wpAny _ _ (seqItems? (.ref l) >>= _) _ _ s; refine wpAny_bind (wpAny_seqItems hol hdlZ ?_)
  simp only [Int.toNat_natCast, hxZ]
  refine wpAny_bind (wpAny_setField hoZ hdZ (by simp) (wpAny_pure ⟨x, rfl, wpAny_pure (hQ _ (Heap.SameBut.update ..) ?_)⟩))
  rw [Heap.get?_update_self _ hoZ (Obj.isFreed_of_fields (Obj.data_mapFields hdZ _))]
  exact congrArg some (GNX.next_obj l i)

section
variable {X : Cx} {pins : List (Addr × Obj)} {σ : L2.St} {H : Hp} {s s' : Shared} {A1 : Around}
def EF : XK := fun _ _ _ => False
/-- a def that raises nothing, called from somewhere below the running body -/
theorem sub_call {CI : XK → XK} {n : Nat} {f : Addr} {fd : FuncData} {ps : List Str} {sp : Sp} {vs : List V} {us : List Value} {Q : VK} {P : Value → Shared → Prop} {E0 : Value → Shared → Prop} (sbZ : Sub X n A1) (Fn : FnOk X.prog X.w X.K X.mg X.base (L2.CX X.prog X.w) n f fd ps sp) (hbZ : Binds X.K fd ps [])
    (I : Inv X pins σ H s) (rvZ : Vals vs us) (h : sp vs H Q EF) (k : ∀ u s', EP X pins σ Q u s' → P u s') : wpAny (model X.prog X.w) A1 (call (.ref f) us) P E0 s := by
  have e0Z : Env0 X.prog X.w X.K X.mg X.base A1 X.stack s H := by
    have e := I.env0
    exact ⟨by rw [sbZ.fr]; exact e.frames, e.mod, e.bs, e.bsz, e.funs, e.frf, e.hok, e.bare⟩
  have hlZ := Fn.len _ _ _ _ h
  refine wpAny_call (codeAny_mono (Fn.run A1 X.stack s H ⟨us, []⟩ us vs Q EF sbZ.room e0Z (by
    have := hbZ s us I.kIn (by rw [List.append_nil, ← rvZ.length]; exact hlZ)
    simpa using this) rvZ h) fun r s' hqZ => ?_)
  cases r with
  | error e =>
    obtain ⟨_, _, _, _, _, _, _, _, _, _, _, _, z⟩ := hqZ
    exact z.elim
  | ok fl =>
    cases fl with
    | ret w => exact k w s' (I.after hqZ)
    | next => exact False.elim hqZ
    | brk => exact False.elim hqZ
    | cont => exact False.elim hqZ

/-! ### len(o), own __len__ -/
def rLenO (C : Addr) (sp : Sp) : List V → Hp → VK → Prop := fun xs H Q => ∃ a dx fs, xs = [.ref a] ∧ H a = some (.ins C dx fs) ∧ sp [.ref a] H (fun v H' => ∃ k : Int, v = .int k ∧ (0 ≤ k ∧ k < 2 ^ 63) ∧ Q (.int k) H') EF
theorem lenO {C f a dx : Addr} {fs : List (Str × V)} {n : Nat} {fd : FuncData} {ps : List Str} {sp : Sp} {Q : VK} {P : Value → Shared → Prop} {E0 : Value → Shared → Prop} (sbZ : Sub X n A1.in1) (hs : PySem.W.findIn X.K (.ref C) "__len__" = some (some (.ref f))) (hf : PySem.W.isFn X.K (.ref f) = true)
    (Fn : FnOk X.prog X.w X.K X.mg X.base (L2.CX X.prog X.w) n f fd ps sp) (hbZ : Binds X.K fd ps []) (I : Inv X pins σ H s) (ha : H a = some (.ins C dx fs)) (h : sp [.ref a] H (fun v H' => ∃ k : Int, v = .int k ∧ (0 ≤ k ∧ k < 2 ^ 63) ∧ Q (.int k) H') EF)
    (k : ∀ u s', EP X pins σ Q u s' → P u s') : wpAny (model X.prog X.w) A1 (call (.builtin "len") [.ref a]) P E0 s := by
  obtain ⟨mAZ, JZ, _⟩ := ins_get I.hok ha
  obtain ⟨odZ, JZ, _⟩ := JZ.look
  obtain ⟨m0Z, hFZ⟩ := I.fr
  refine PySem.W.len_K hFZ I.ok.mod.kin JZ hs hf (sub_call (CI := id) (vs := [.ref a]) sbZ Fn hbZ I (.cons rfl .nil) h fun u s' hqZ => ?_)
  obtain ⟨v, H', I', rvZ, kk, rfl, hkZ, q⟩ := hqZ
  obtain ⟨t, rfl⟩ := (show ∃ t, u = Value.int kk t from rvZ)
  exact ⟨hkZ, k _ _ ⟨.int kk, H', I'.tok _, ⟨_, rfl⟩, q⟩⟩
theorem lenO' {C f a dx : Addr} {fs : List (Str × V)} {n : Nat} {fd : FuncData} {ps : List Str} {sp : Sp} {Q : VK} {P : Value → Shared → Prop} {E0 : Value → Shared → Prop} (sbZ : L2.Sub X n A1.in1) (hs : PySem.W.findIn X.K (.ref C) "__len__" = some (some (.ref f))) (hf : PySem.W.isFn X.K (.ref f) = true)
    (Fn : FnOk X.prog X.w X.K X.mg X.base (L2.CX X.prog X.w) n f fd ps sp) (hbZ : Binds X.K fd ps []) (I : Inv X pins σ H s) (ha : H a = some (.ins C dx fs)) (h : sp [.ref a] H (fun v H' => ∃ k : Int, v = .int k ∧ (0 ≤ k ∧ k < 2 ^ 63) ∧ Q (.int k) H') EF)
    (k : ∀ u s', (∃ (H' : Hp) (j : Int) (t : Nat), u = .int j t ∧ Inv X pins σ H' s' ∧ Q (.int j) H') → P u s') : wpAny (model X.prog X.w) A1 (call (.builtin "len") [.ref a]) P E0 s := by
  obtain ⟨mAZ, JZ, _⟩ := ins_get I.hok ha
  obtain ⟨odZ, JZ, _⟩ := JZ.look
  obtain ⟨m0Z, hFZ⟩ := I.fr
  refine PySem.W.len_K hFZ I.ok.mod.kin JZ hs hf (sub_call (CI := id) (vs := [.ref a]) sbZ Fn hbZ I (.cons rfl .nil) h fun u s' hqZ => ?_)
  obtain ⟨v, H', I', rvZ, kk, rfl, hkZ, q⟩ := hqZ
  obtain ⟨t, rfl⟩ := (show ∃ t, u = Value.int kk t from rvZ)
  exact ⟨hkZ, k _ _ ⟨H', kk, _, rfl, I'.tok _, q⟩⟩
theorem call_lenO {C f : Addr} {n : Nat} {fd : FuncData} {ps : List Str} {sp : Sp} (hs : PySem.W.findIn X.K (.ref C) "__len__" = some (some (.ref f))) (hf : PySem.W.isFn X.K (.ref f) = true)
    (Fn : FnOk X.prog X.w X.K X.mg X.base (L2.CX X.prog X.w) n f fd ps sp) (hbZ : Binds X.K fd ps []) (hr : Room (n + 1) X.A) : CallR X (.builtin "len") (rLenO C sp) := by
  intro pins s σ H xs us Q I rvZ h
  obtain ⟨a, dx, fs, rfl, ha, h⟩ := h
  obtain ⟨u, rfl, ru⟩ := vals1 rvZ
  cases ru
  exact lenO (Sub.in1 ⟨hr, rfl⟩) hs hf Fn hbZ I ha h fun _ _ z => z

/-! ### ==, own __eq__ -/
def rEqO (C : Addr) (sp : Sp) : R2 := fun x y H Q => ∃ a b dx dy fs gs, x = .ref a ∧ y = .ref b ∧ H a = some (.ins C dx fs) ∧ H b = some (.ins C dy gs) ∧ sp [.ref a, .ref b] H (fun v H' => ∃ k, v = .bl k ∧ Q (.bl k) H') EF
theorem op_eqO {C f : Addr} {n : Nat} {fd : FuncData} {ps : List Str} {sp : Sp} (hs : PySem.W.findIn X.K (.ref C) "__eq__" = some (some (.ref f))) (hf : PySem.W.isFn X.K (.ref f) = true)
    (Fn : FnOk X.prog X.w X.K X.mg X.base (L2.CX X.prog X.w) n f fd ps sp) (hbZ : Binds X.K fd ps []) (hr : Room n X.A) : OpR X (compareOp .Eq) (rEqO C sp) := by
  intro pins s σ H x y v u Q I rx ry h; obtain ⟨a, b, dx, dy, fs, gs, rfl, rfl, ha, hb', h⟩ := h
  cases rx
  cases ry
  obtain ⟨mAZ, JZ, _⟩ := ins_get I.hok ha
  obtain ⟨mB, J', _⟩ := ins_get I.hok hb'; obtain ⟨odZ, JZ, _⟩ := JZ.look
  obtain ⟨od', J', _⟩ := J'.look; obtain ⟨m, hFZ⟩ := I.fr
  show wpAny (model X.prog X.w) X.A (richCompare .Eq (.ref a) (.ref b)) (EP X pins σ Q) X.xe s
  refine PySem.W.cmp_K (op := .Eq) (tb := .ref C) (L2.Sub.mk (X := X) hr rfl).room.units0 hFZ I.ok.mod.kin JZ J'.type (by simp [PySem.W.notFirst]) hs hf (sub_call (CI := id) (vs := [.ref a, .ref b]) ⟨hr, rfl⟩ Fn hbZ I (.cons rfl (.cons rfl .nil)) h fun u s' hqZ => ?_)
  obtain ⟨v, H', I', rvZ, k, rfl, q⟩ := hqZ
  cases (show u = Value.bool k from rvZ)
  exact ⟨.bl k, H', I', rfl, q⟩

/-! ### list(o), own __iter__ that gives a list's iterator, own __len__ -/
theorem sqL_at {K : PySem.W.Frag} {H H' : Hp} {a : Addr} {xs : List V} (h : SqL K H a xs) (e : H' a = H a) : SqL K H' a xs := by
  unfold SqL Rd at h ⊢
  simp only [e]
  exact h
def turnH (H0 : Hp) (q l itZ : Addr) (ys : List V) (i : Nat) : Hp := upd (upd H0 q (.lst (ys.take i))) itZ (ItO l itZ i)
theorem turnH_next {H0 : Hp} {q l itZ : Addr} {ys : List V} {i : Nat} (hqi : q ≠ itZ) : upd (upd (turnH H0 q l itZ ys i) itZ (ItO l itZ (i + 1))) q (.lst (ys.take (i + 1))) = turnH H0 q l itZ ys (i + 1) := by
  funext b
  unfold turnH
  by_cases h1Z : b = q
  · subst h1Z
    rw [upd_same, upd_ne hqi, upd_same]
  · rw [upd_ne h1Z]
    by_cases h2Z : b = itZ
    · subst h2Z
      rw [upd_same, upd_same]
    · rw [upd_ne h2Z, upd_ne h2Z, upd_ne h1Z, upd_ne h2Z, upd_ne h1Z]
theorem turnH_end {H0 : Hp} {q l itZ : Addr} {ys : List V} {i : Nat} (hiZ : i = ys.length) : upd (turnH H0 q l itZ ys i) itZ (ItE itZ i) = upd (upd H0 q (.lst ys)) itZ (ItE itZ i) := by
  subst hiZ
  unfold turnH
  rw [upd_upd, List.take_length]
theorem it_loop {H0 : Hp} {l itZ q : Addr} {ys : List V} {Rs : Result → Shared → Prop} (hh : A1.in1.handled = none) (hz : ys.length ≤ 1000) (hql : q ≠ l) (hqi : q ≠ itZ) (hil : itZ ≠ l) (hlZ : SqL X.K H0 l ys)
    (hdone : ∀ s, Inv X pins σ (upd (upd H0 q (.lst ys)) itZ (ItE itZ ys.length)) s → Rs (.ok (.ret .none)) s) :
    ∀ (m i : Nat) (s : Shared), ys.length - i = m → i ≤ ys.length → Inv X pins σ (turnH H0 q l itZ ys i) s → codeAny (model X.prog X.w) A1 (.builtin "list.extend.loop" ⟨[.ref q, .ref itZ, .none], []⟩) Rs s := by
  intro m
  induction m with
  | zero =>
    intro i s hkZ hiZ I
    have e : i = ys.length := by omega
    have eoZ : turnH H0 q l itZ ys i itZ = some (ItO l itZ i) := upd_same
    have sqZ : SqL X.K (turnH H0 q l itZ ys i) l ys := sqL_at hlZ (by unfold turnH; rw [upd_ne (Ne.symm hil), upd_ne (Ne.symm hql)])
    obtain ⟨its, rvZ, plZ, _⟩ := I.list sqZ
    refine codeAny_builtin PySem.F.entry_extend_loop ?_; rw [Around.under_plainId PySem.F.plain_extend_loop _]
    show wpAny _ A1.in1 (pyNext (.ref itZ) >>= _) _ _ s
    refine wpAny_bind (pyNext_end hh (itO_get I eoZ) plZ.isList (by rw [List.getElem?_toArray]; exact rvZ.none_of (by rw [e]; exact List.getElem?_eq_none (Nat.le_refl _))) fun h' eb e1 => ?_)
    have muZ : Mut (turnH H0 q l itZ ys i itZ) := by rw [eoZ]; exact True.intro
    have I2Z : Inv X pins σ (upd (turnH H0 q l itZ ys i) itZ (ItE itZ i)) { s with heap := h' } := I.write (x := itZ) (e := itZ) (t' := s.toks) muZ (.inl rfl) (fun b o nb z => eb b o nb z) ⟨_, e1⟩ (itE_ok e1)
    rw [turnH_end e, e] at I2Z
    exact wpAny_pure (hdone _ I2Z)
  | succ m ih =>
    intro i s hkZ hiZ I
    have hlt : i < ys.length := by omega
    have eoZ : turnH H0 q l itZ ys i itZ = some (ItO l itZ i) := upd_same
    have sqZ : SqL X.K (turnH H0 q l itZ ys i) l ys := sqL_at hlZ (by unfold turnH; rw [upd_ne (Ne.symm hil), upd_ne (Ne.symm hql)])
    obtain ⟨its, rvZ, plZ, _⟩ := I.list sqZ
    obtain ⟨u, hu, ru⟩ := rvZ.get (List.getElem?_eq_getElem hlt)
    refine codeAny_builtin PySem.F.entry_extend_loop ?_; rw [Around.under_plainId PySem.F.plain_extend_loop _]
    show wpAny _ A1.in1 (pyNext (.ref itZ) >>= _) _ _ s
    refine wpAny_bind (pyNext_item (itO_get I eoZ) plZ.isList (by rw [List.getElem?_toArray]; exact hu) fun h' sbZ e1 => ?_)
    have muZ : Mut (turnH H0 q l itZ ys i itZ) := by rw [eoZ]; exact True.intro
    have I2Z : Inv X pins σ (upd (turnH H0 q l itZ ys i) itZ (ItO l itZ (i + 1))) { s with heap := h' } := I.write (x := itZ) (e := itZ) (t' := s.toks) muZ (.inl rfl) (fun b o nb z => (sbZ.2 b nb).trans z) ⟨_, e1⟩ (itO_ok e1)
    have eq : upd (turnH H0 q l itZ ys i) itZ (ItO l itZ (i + 1)) q = some (.lst (ys.take i)) := by unfold turnH; rw [upd_ne hqi, upd_ne hqi, upd_same]
    obtain ⟨z, its2, k2, r2, hl2, e2⟩ := I2Z.lstM eq
    show wpAny _ A1.in1 (updateSeq q (·.push u) >>= _) _ _ _; have hsz : its2.length ≤ 1000 := by rw [← hl2, List.length_take]; omega
    have I3Z := I2Z.lset (f := (·.push u)) (its' := its2 ++ [u]) (ys := ys.take i ++ [ys[i]]) (t' := s.toks) eq e2 (by simp) (r2.append (.cons ru .nil)) (by rw [List.length_append, List.length_singleton, hl2, sizeLine_eq]; omega)
    rw [← List.take_succ_eq_append_getElem hlt, turnH_next hqi] at I3Z
    refine wpAny_bind (wpAny_updateSeq e2 rfl (wpAny_pure ⟨plainId_quiet PySem.F.plain_extend_loop _, ih (i + 1) _ (by omega) hlt I3Z⟩) (by rw [List.size_toArray, sizeLine_eq]; omega) (by show (its2.toArray.push u).size ≤ sizeLine + 1; rw [Array.size_push, List.size_toArray, sizeLine_eq]; omega))
/-- the length is asked, its own __len__ tells -/
theorem own_hintL {C f a dx : Addr} {fs : List (Str × V)} {n : Nat} {fd : FuncData} {ps : List Str} {sp : Sp} {Q : VK} {P : Bool → Shared → Prop} {E0 : Value → Shared → Prop} (sbZ : L2.Sub X n A1.in1) (hs : PySem.W.findIn X.K (.ref C) "__len__" = some (some (.ref f))) (hf : PySem.W.isFn X.K (.ref f) = true)
    (Fn : FnOk X.prog X.w X.K X.mg X.base (L2.CX X.prog X.w) n f fd ps sp) (hbZ : Binds X.K fd ps []) (I : Inv X pins σ H s) (ha : H a = some (.ins C dx fs)) (h : sp [.ref a] H (fun v H' => ∃ k : Int, v = .int k ∧ (0 ≤ k ∧ k < 2 ^ 63) ∧ Q (.int k) H') EF) (hQ : ∀ (j : Int) H', Q (.int j) H' → 0 ≤ j ∧ j ≤ 1000)
    (k : ∀ (b : Bool) s' H' (j : Int), Inv X pins σ H' s' → Q (.int j) H' → P b s') : wpAny (model X.prog X.w) A1 (Builtin.List.listLengthHint (.ref a)) P E0 s := by
  obtain ⟨mAZ, JZ, _⟩ := ins_get I.hok ha
  obtain ⟨odZ, JZ, _⟩ := JZ.look
  unfold Builtin.List.listLengthHint; refine wpAny_bind (wpAny_bind (JZ.type.here ((PySem.W.looks_findIn I.kIn hs).here ?_)))
  refine PySem.W.KFB.if_not rfl ?_; rw [if_pos (show (some (Value.ref f)).isSome = true from rfl)]
  refine wpAny_bind (wpAny_rule (wpAny_bind (wpAny_attempt (lenO' sbZ hs hf Fn hbZ I ha h fun u s' hqZ => ?_))))
  obtain ⟨H', j, t, rfl, I', q⟩ := hqZ
  have hj := hQ j H' q
  show wpAny _ _ (if Builtin.List.listTooLong j.toNat = true then _ else _) _ _ _
  rw [if_neg (by unfold Builtin.List.listTooLong; simp only [decide_eq_true_eq]; rw [sizeLine_eq]; omega)]
  exact wpAny_pure (k _ s' H' j I' q)
def lQ (K : PySem.W.Frag) (q itZ l : Addr) (Q : VK) : VK := fun w H2 => ∃ k : Int, w = .int k ∧ 0 ≤ k ∧ k ≤ 1000 ∧ ∃ ys : List V, H2 q = some (.lst []) ∧ H2 itZ = some (ItO l itZ 0) ∧ SqL K H2 l ys ∧ ys.length ≤ 1000 ∧ q ≠ l ∧ itZ ≠ l ∧
  Q (.ref q) (upd (upd H2 q (.lst ys)) itZ (ItE itZ ys.length))
def rListO (K : PySem.W.Frag) (C : Addr) (spI spL : Sp) : List V → Hp → VK → Prop := fun xs H Q => ∃ a dx fs, xs = [.ref a] ∧ H a = some (.ins C dx fs) ∧
  ∀ q, H q = none → spI [.ref a] (upd H q (.lst [])) (fun v H1 => ∃ itZ l, v = .ref itZ ∧ H1 itZ = some (ItO l itZ 0) ∧ H1 a = some (.ins C dx fs) ∧
    spL [.ref a] H1 (fun w H2 => ∃ k : Int, w = .int k ∧ (0 ≤ k ∧ k < 2 ^ 63) ∧ lQ K q itZ l Q (.int k) H2) EF) EF
theorem turnH_zero {H : Hp} {q l itZ : Addr} {ys : List V} (hqZ : H q = some (.lst [])) (hiZ : H itZ = some (ItO l itZ 0)) : turnH H q l itZ ys 0 = H := by
  funext b
  unfold turnH
  by_cases h2Z : b = itZ
  · subst h2Z
    rw [upd_same, hiZ]
  · rw [upd_ne h2Z]
    by_cases h1Z : b = q
    · subst h1Z
      rw [upd_same, hqZ, List.take_zero]
    · rw [upd_ne h1Z]
theorem call_listO {C fi fl : Addr} {n : Nat} {fdI fdL : FuncData} {psI psL : List Str} {spI spL : Sp} (hcZ : X.calm = true)
    (hiZ : PySem.W.findIn X.K (.ref C) "__iter__" = some (some (.ref fi))) (hiF : PySem.W.isFn X.K (.ref fi) = true) (hs : PySem.W.findIn X.K (.ref C) "__len__" = some (some (.ref fl))) (hf : PySem.W.isFn X.K (.ref fl) = true)
    (FI : FnOk X.prog X.w X.K X.mg X.base (L2.CX X.prog X.w) n fi fdI psI spI) (bI : Binds X.K fdI psI []) (FL : FnOk X.prog X.w X.K X.mg X.base (L2.CX X.prog X.w) n fl fdL psL spL) (bL : Binds X.K fdL psL []) (hr : Room (n + 3) X.A) : CallR X (.type "list") (rListO X.K C spI spL) := by
  intro pins s σ H xs us Q I rvZ h
  obtain ⟨a, dx, fs, rfl, ha, hqZ⟩ := h
  obtain ⟨u, rfl, ru⟩ := rvZ.one
  cases ru
  have sb2Z : L2.Sub X (n + 1) X.A.in1.in1 := L2.Sub.in1 (L2.Sub.in1 (⟨hr, rfl⟩ : L2.Sub X (n + 3) X.A))
  refine callType_codes (Q₁ := fun obj s₁ => obj = .ref s.heap.objs.size ∧ s₁ = { s with heap := s.heap.push { cls := .type "list", data := .seq #[] } }) PySem.F.called_list (PySem.F.typeCall_list_1 _) PySem.F.entry_list_init (code_list_new _ ⟨rfl, rfl⟩) fun obj s₁ h₁Z => ?_
  obtain ⟨rfl, rfl⟩ := h₁Z
  have hSZ : (s.heap.push { cls := .type "list", data := .seq #[] }).get? s.heap.objs.size = some { cls := .type "list", data := .seq #[] } := Heap.get?_push_size _ rfl
  refine ⟨⟨_, hSZ, rfl⟩, PySem.F.args_list_init_2 _ _, ?_⟩
  have frZ : H s.heap.objs.size = none := I.hok.fresh (Nat.le_refl _)
  have hspZ := hqZ _ frZ
  have I1Z : Inv X pins σ (upd H s.heap.objs.size (.lst [])) { s with heap := s.heap.push { cls := .type "list", data := .seq #[] } } := I.lnew (its := []) (t' := s.toks) .nil (Nat.zero_le _)
  show wpAny _ _ (do let old ← Builtin.List.listItems (.ref s.heap.objs.size); Builtin.List.listUpdate (.ref s.heap.objs.size) (fun _ => #[]); letGo old.toList.reverse; Builtin.List.listExtendWith (.ref s.heap.objs.size) (.ref a) .none) _ _ _; refine wpAny_bind ?_
  unfold Builtin.List.listItems
  refine wpAny_bind (wpAny_seqItems hSZ rfl (wpAny_pure ?_))
  show wpAny _ _ (updateSeq s.heap.objs.size (fun _ => #[]) >>= fun _ => letGo (#[] : Array Value).toList.reverse >>= fun _ => Builtin.List.listExtendWith (.ref s.heap.objs.size) (.ref a) .none) _ _ _; refine wpAny_bind (wpAny_updateSeq hSZ rfl ?_)
  have I2Z := I1Z.lset (f := fun _ => #[]) (its := []) (its' := []) (ys := []) (t' := s.toks) upd_same hSZ rfl .nil (Nat.zero_le _)
  rw [upd_upd] at I2Z
  refine wpAny_bind (wpAny_letGo ?_); have ha2 : upd H s.heap.objs.size (.lst []) a = some (.ins C dx fs) := by rw [upd_ne (ne_of_none ha frZ)]; exact ha
  have hne : s.heap.objs.size ≠ a := ne_of upd_same ha2 (fun z => nomatch z)
  generalize s.heap.objs.size = q at *
  generalize ({ s with heap := _ } : Shared) = s2 at I2Z ⊢
  obtain ⟨mAZ, JZ, _⟩ := ins_get I2Z.hok ha2
  obtain ⟨odZ, JZ, _⟩ := JZ.look
  obtain ⟨m0Z, hFZ⟩ := I2Z.fr
  unfold Builtin.List.listExtendWith; refine wpAny_bind (JZ.type.here ?_)
  have h1Z : Builtin.List.listSameRef (.ref q) (.ref a) = false := by simp [Builtin.List.listSameRef, hne]
  have h2Z : (Value.ref C == Value.type "list") = false := rfl
  have h3Z : (Value.ref C == Value.type "tuple") = false := rfl
  simp only [h1Z, h2Z, h3Z, Bool.or_false, Bool.false_eq_true, if_false]
  refine wpAny_bind (PySem.W.owit_iter hFZ I2Z.ok.mod.kin JZ hiZ hiF ?_)
  refine sub_call (CI := id) (vs := [.ref a]) (L2.Sub.mono sb2Z (Nat.le_succ n)) FI bI I2Z (.cons rfl .nil) hspZ fun u s3 hq3 => ?_
  obtain ⟨v, H1, I3Z, rv3, itZ, l, rfl, hitZ, ha3, hL⟩ := hq3
  cases (show u = Value.ref itZ from rv3)
  unfold PySem.W.OwitIt
  have hT : s3.TypeIs (.ref itZ) "list_iterator" := ⟨_, itO_get I3Z hitZ, rfl⟩
  refine wpAny_specialOf (name := Str.ofString "__next__") hT slot_listiter_next.lookup ?_
  refine wpAny_bind (wpAny_holding (own_hintL (Q := lQ X.K q itZ l Q) (L2.Sub.in1 sb2Z) hs hf FL bL I3Z ha3 hL (fun j H' h => ?_) fun b s4 H2 j I4Z hq4 => ?_))
  · obtain ⟨k, e, h⟩ := h
    cases e
    exact ⟨h.1, h.2.1⟩
  · obtain ⟨k, e, _, _, ys, eq, ei, sqZ, hz, ql, il, q4⟩ := hq4
    have hh : X.A.in1.in1.handled = none := I4Z.ok.hd hcZ
    have qi : q ≠ itZ := ne_of eq ei (fun z => nomatch z)
    have I5 : Inv X pins σ (turnH H2 q l itZ ys 0) s4 := by rw [turnH_zero eq ei]; exact I4Z
    have fin : ∀ s5, Inv X pins σ (upd (upd H2 q (.lst ys)) itZ (ItE itZ ys.length)) s5 → wants (fun r s₂ => r = .none ∧ EP X pins σ Q (.ref q) s₂) X.xe (.ok (.ret .none)) s5 := fun s5 I => ⟨rfl, .ref q, _, I, rfl, q4⟩
    have lp := fun s5 I => it_loop (A1 := X.A.in1) (Rs := wants (fun r s₂ => r = .none ∧ EP X pins σ Q (.ref q) s₂) X.xe) hh hz ql qi il sqZ fin ys.length 0 s5 rfl (Nat.zero_le _) I
    refine wpAny_ite_split (fun _ => ?_) (fun _ => wpAny_pure ⟨plainId_quiet PySem.F.plain_extend_loop _, lp s4 I5⟩)
    obtain ⟨z, its, k0, r3, hl3, e3⟩ := I4Z.lstM eq
    cases r3
    refine wpAny_bind (wpAny_rule ?_); refine wpAny_bind ?_
    show wpAny _ _ (updateSeq q (·.push .none) >>= fun _ => updateSeq q (·.pop)) _ _ _; refine wpAny_bind (wpAny_updateSeq e3 rfl ?_)
    have I6 := I4Z.lset (f := (·.push Value.none)) (its' := [Value.none]) (ys := [.non]) (t' := s4.toks) eq e3 (by simp) (.cons rfl .nil) (by rw [List.length_singleton, sizeLine_eq]; decide)
    obtain ⟨z4, its4, k4, r4, hl4, e4⟩ := I6.lstM upd_same
    obtain ⟨u4, rfl, ru4⟩ := r4.one; refine wpAny_updateSeq e4 rfl ?_ (by show 1 ≤ sizeLine; rw [sizeLine_eq]; decide) (by show 0 ≤ sizeLine + 1; exact Nat.zero_le _)
    have I7 := I6.lset (f := (·.pop)) (its := [u4]) (its' := []) (ys := []) (t' := s4.toks) upd_same e4 (by rfl) .nil (Nat.zero_le _)
    rw [upd_upd] at I7
    have hH : upd H2 q (.lst []) = H2 := by
      funext b
      by_cases hbZ : b = q
      · rw [hbZ, upd_same, eq]
      · rw [upd_ne hbZ]
    rw [hH, ← turnH_zero (ys := ys) eq ei] at I7
    exact wpAny_pure ⟨plainId_quiet PySem.F.plain_extend_loop _, lp _ I7⟩
end
end VL
end
section
set_option Elab.async false
set_option linter.all false
set_option maxRecDepth 100000
namespace VL
open PySem L2

/-! ### o.f = e -/
section
variable {L : Ly} {W : WX} {F : AP} {H : Hp}
theorem putF_zip {f : Str} {v : V} : ∀ {ns : List Str} {vs : List V}, ns.length = vs.length → putF f v (ns.zip vs) = (if f ∈ ns then ns.zip (vs.set (ns.idxOf f) v) else (ns ++ [f]).zip (vs ++ [v]))
  | [], [], _ => rfl
  | n :: ns, w :: vs, h => by
    have ih := putF_zip (f := f) (v := v) (ns := ns) (vs := vs) (by simpa using h)
    by_cases e : n = f
    · subst e
      simp [putF]
    · have e' : ¬ f = n := fun z => e z.symm
      simp only [List.zip_cons_cons, putF]
      rw [if_neg e, ih]
      by_cases m : f ∈ ns
      · rw [if_pos m, if_pos (List.mem_cons_of_mem _ m), List.idxOf_cons, beq_eq_false_iff_ne.mpr e]
        rfl
      · rw [if_neg m, if_neg (by simp [m, e'])]
        rfl
theorem Lens.openO {σ : L2.St} {ρ : Env} {f : Fp} {i : Nat} {p : List Nat} {c : Str} {ns : List Str} {ds : List D} {v : V} (l : Lens L F H σ ρ f i p (.obj true c ns ds) v) : ∃ ad dx vs g0, v = .ref ad ∧ H ad = some (.ins (L.CT c) dx (ns.zip vs)) ∧ ns.length = ds.length ∧ Reps L F H ds vs g0 ∧
    ∀ {Kp : AP} {kx : Fp} {ns' : List Str} {vs' : List V} {ds' : List D} {g' : Fp}, ns'.length = ds'.length → Good Kp F H (fadd f kx) → Reps L F H ds' vs' g' → (∀ x, g' x ≤ g0 x + kx x) →
      ∃ f', EnvR L F (upd H ad (.ins (L.CT c) dx (ns'.zip vs'))) (ρ.putAt i p (.obj true c ns' ds')) σ f' ∧ Good Kp F (upd H ad (.ins (L.CT c) dx (ns'.zip vs'))) f' ∧ Stp Kp F H F (upd H ad (.ins (L.CT c) dx (ns'.zip vs'))) := by
  obtain ⟨g, h, e, ⟨ad, dx, vs, g0, ea, hv, hl, eg, r⟩, k⟩ := l
  refine ⟨ad, dx, vs, g0, ea, hv, hl, r, fun {Kp kx ns' vs' ds' g'} hl' G r' hg' => ?_⟩
  subst ea
  have G2 : Good Kp F H (fadd (fadd h (fadd g0 kx)) (f1 ad)) := G.le fun x => by have := e x; rw [eg] at this; simp only [fadd_at] at *; omega
  obtain ⟨ku, gu⟩ := own_upd (o := .ins (L.CT c) dx (ns'.zip vs')) G2 hv (fun z => z)
  have rn : Rep L F (upd H ad (.ins (L.CT c) dx (ns'.zip vs'))) (.obj true c ns' ds') (.ref ad) (fadd (f1 ad) g') := ⟨ad, dx, vs', g', rfl, upd_same, hl', rfl, r'.mono (fun _ x => x) (fun x o y c => ku x o y (c.imp id fun z => .inr (.inr z))) ds' fun x o y z => ku x o z (.inr (.inr (.inl (by have := hg' x; simp only [fadd_at]; omega))))⟩
  refine ⟨_, k F _ _ _ (fun _ x => x) (fun x o y c => ku x o y (by
    rcases c with c | c | c
    · exact .inl c
    · exact .inr (.inr (.inr c))
    · exact .inr (.inr (.inl (by simp only [fadd_at]; omega))))) rn, gu.le fun x => by have := hg' x; simp only [fadd_at]; omega, ⟨fun x o y c => ku x o y (by
    rcases c with c | c | c
    · exact .inl c
    · exact .inr (.inl c)
    · exact .inr (.inr (.inr c))), fun _ x => x, fun _ x => .inl x⟩⟩
end
section
variable {X : Cx} {L : Ly} {W : WX} {S : List Nat} {o e : Expr} {f : Str} {pos pos' : Pos} {fa : EM} {pl : LM}
theorem ss_stf {cs : List Str} (hL : L.K = X.K) (hcs : ∀ c ∈ cs, Cls X.K (L.CT c) ∧ NoAttr X.K (L.CT c) f) (he : PE X e (tD L W fa)) (ho : PE X o (tLoc L pl))
    (hs : swapsWith e (some (.Attribute o f pos')) pos.line X.env = pure false := by rfl) : PS X (.Assign [.Attribute o f pos'] e pos) (tS L W S (stfM cs f pl fa)) :=
  (ps_fld ho he hs).imp fun D σ H ⟨Kp, F, ρ, g, E, G, p⟩ =>
  dS (L := L) E G p fun d ρ1 F1 H1 g1 v k1 E1 r1 G1 p1 => by
    cases e1 : pl ρ1 with
    | none => simp only [e1] at p1; exact p1.elim
    | some x =>
      obtain ⟨i, pp⟩ := x
      simp only [e1] at p1
      cases e3 : ρ1.sub i pp with
      | none => simp only [e3] at p1; exact p1.elim
      | some n =>
        cases n with
        | obj ow c ns ds =>
          cases ow with
          | false => simp only [e3] at p1; exact p1.elim
          | true =>
            simp only [e3] at p1
            by_cases hc : c ∈ cs ∧ ns.length < 900
            · simp only [if_pos hc] at p1
              refine ⟨F1, ρ1, g1, i, pp, _, E1, e1, e3, fun vo H2 s2 l2 => ?_⟩
              obtain ⟨ad, dx, vs, g0, rfl, hv, hl, rr, kk⟩ := l2.openO
              have hlv : ns.length = vs.length := hl.trans rr.length
              refine ⟨ad, L.CT c, dx, _, rfl, hv, (hcs c hc.1).1, (hcs c hc.1).2, by rw [List.length_zip]; omega, ?_⟩
              rw [putF_zip hlv]
              by_cases hf : f ∈ ns
              · rw [if_pos hf]
                simp only [if_pos hf] at p1
                obtain ⟨f2, h1, h2⟩ := rr.set (j := ns.idxOf f) (by rw [← hl]; exact idx_lt hf) (r1.same s2)
                obtain ⟨f', E', G', S'⟩ := kk (kx := k1) (ns' := ns) (by rw [List.length_set]; exact hl) (G1.same s2) h1 h2
                exact p1 F1 _ σ f' E' G' ((Stp.same s2).trans S' fun _ y => y) KeepS.refl
              · rw [if_neg hf]
                simp only [if_neg hf] at p1
                obtain ⟨f', E', G', S'⟩ := kk (kx := k1) (ns' := ns ++ [f]) (by rw [List.length_append, List.length_append]; simpa using hl) (G1.same s2) (rr.snoc (r1.same s2)) fun x => by rw [fadd_at]; exact Nat.le_refl _
                exact p1 F1 _ σ f' E' G' ((Stp.same s2).trans S' fun _ y => y) KeepS.refl
            · simp only [if_neg hc] at p1
              exact p1.elim
        | _ => simp only [e3] at p1; exact p1.elim
end

/-! ### len, ==, list of own objects -/
def lenOD (c : Str) (m : List D → FR) : List D → Option D
  | [.obj o c' ns ds] => if c' = c then match m (frzL [.obj o c' ns ds]) with
      | .rt (.int k) _ => if 0 ≤ k ∧ k < 2 ^ 63 then some (.int k) else none
      | _ => none
    else none
  | _ => none
def eqOD (c : Str) (m : List D → FR) : D → D → Option D
  | .obj o c1 ns ds, .obj o2 c2 ns2 ds2 => if c1 = c ∧ c2 = c then match m (frzL [.obj o c1 ns ds, .obj o2 c2 ns2 ds2]) with
      | .rt (.bl k) _ => some (.bl k)
      | _ => none
    else none
  | _, _ => none
def listOD (c fld : Str) (m : List D → FR) : List D → Option D
  | [.obj o c' ns ds] => if c' = c ∧ fld ∈ ns then match m (frzL [.obj o c' ns ds]) with
      | .rt (.int k) _ => if 0 ≤ k ∧ k ≤ 1000 then match ds[ns.idxOf fld]? with
          | some (.lst _ ys) => if froL ys = true ∧ ys.length ≤ 1000 then some (.lst true ys) else none
          | _ => none
        else none
      | _ => none
    else none
  | _ => none
/-- __iter__ that returns iter(self.fld) -/
def spIt (K : PySem.W.Frag) (C : Addr) (fld : Str) : Sp := fun vs H Q _ => ∃ a dx fs l ys, vs = [.ref a] ∧ H a = some (.ins C dx fs) ∧ fs.lookup fld = some (.ref l) ∧ SqL K H l ys ∧ ∀ it, H it = none → Q (.ref it) (upd H it (ItO l it 0))
section
variable {L : Ly} {c fld : Str} {m : List D → FR}
theorem eff_lenO : CallEff L (rLenO (L.CT c) (spM L m)) (lenOD c m) := fun F H ds d vs g1 Q r e k => by
  match ds, e with
  | [.obj o c' ns xs], e9 =>
    simp only [lenOD] at e9
    by_cases hc : c' = c
    · rw [if_pos hc] at e9
      cases hc
      cases em : m (frzL [.obj o c ns xs]) with
      | bad => rw [em] at e9; exact nomatch e9
      | exc x os => rw [em] at e9; exact nomatch e9
      | rt w os =>
        rw [em] at e9
        cases w with
        | int j =>
          dsimp only at e9
          split at e9
          next hj =>
            obtain rfl := Option.some.inj e9
            obtain ⟨v, rfl, rd⟩ := Reps.one r
            obtain ⟨a, dx, ws, h, rfl, q, _⟩ := rd.ins
            exact ⟨a, dx, _, rfl, q, ranN (ds := [.obj o c ns xs]) (Same.refl H) r em rfl fun v H' k' s n rv => ⟨j, rv.1, hj, by
              have z := k v H' k' s n rv
              rw [rv.1] at z
              exact z⟩⟩
          next => exact nomatch e9
        | _ => exact nomatch e9
    · rw [if_neg hc] at e9
      exact nomatch e9
theorem eff_eqO : OpEff L (rEqO (L.CT c) (spM L m)) (eqOD c m) := fun F H d1 d2 d v1 v2 g1 g2 Q r1 r2 e k => by
  match d1, d2, e with
  | .obj o c1 ns xs, .obj o2 c2 ns2 xs2, e9 =>
    simp only [eqOD] at e9
    by_cases hc : c1 = c ∧ c2 = c
    · rw [if_pos hc] at e9
      obtain ⟨hc1, hc2⟩ := hc
      cases hc1
      cases hc2
      cases em : m (frzL [.obj o c ns xs, .obj o2 c ns2 xs2]) with
      | bad => rw [em] at e9; exact nomatch e9
      | exc x os => rw [em] at e9; exact nomatch e9
      | rt w os =>
        rw [em] at e9
        cases w with
        | bl j =>
          obtain rfl := Option.some.inj e9
          obtain ⟨a, dx, ws, h, rfl, q, _⟩ := r1.ins
          obtain ⟨a2, dx2, ws2, h2, rfl, q2, _⟩ := r2.ins
          exact ⟨a, a2, dx, dx2, _, _, rfl, rfl, q, q2, ranN (ds := [.obj o c ns xs, .obj o2 c ns2 xs2]) (k := fadd g1 (fadd g2 f0)) (Same.refl H) ⟨_, _, g1, fadd g2 f0, rfl, rfl, r1, _, _, g2, f0, rfl, rfl, r2, rfl, rfl⟩ em rfl fun v H' k' s n rv => ⟨j, rv.1, by
            have z := k v H' k' s n rv
            rw [rv.1] at z
            exact z⟩⟩
        | _ => exact nomatch e9
    · rw [if_neg hc] at e9
      exact nomatch e9
theorem eff_listO : CallEff L (rListO L.K (L.CT c) (spIt L.K (L.CT c) fld) (spM L m)) (listOD c fld m) := fun F H ds d vs g1 Q r e kk => by
  match ds, e with
  | [.obj o c' ns xs], e9 =>
    simp only [listOD] at e9
    by_cases hc : c' = c ∧ fld ∈ ns
    · rw [if_pos hc] at e9
      obtain ⟨hc1, hfl⟩ := hc
      cases hc1
      cases em : m (frzL [.obj o c ns xs]) with
      | bad => rw [em] at e9; exact nomatch e9
      | exc x os => rw [em] at e9; exact nomatch e9
      | rt w os =>
        rw [em] at e9
        cases w with
        | int j =>
          dsimp only at e9
          by_cases hj : 0 ≤ j ∧ j ≤ 1000
          · rw [if_pos hj] at e9
            cases ex : xs[ns.idxOf fld]? with
            | none => rw [ex] at e9; exact nomatch e9
            | some dl =>
              rw [ex] at e9
              cases dl with
              | lst ol ys =>
                dsimp only at e9
                by_cases hy : froL ys = true ∧ ys.length ≤ 1000
                · rw [if_pos hy] at e9
                  obtain rfl := Option.some.inj e9
                  obtain ⟨v, rfl, rd⟩ := Reps.one r
                  obtain ⟨a, dx, ws, h, rfl, q, hl, rr⟩ := rd.ins
                  obtain ⟨vl, gl, e1, rl, _⟩ := rr.get ex
                  obtain ⟨l, us, rfl, el, ru⟩ := rl.lstH hy.1
                  have lk : (ns.zip ws).lookup fld = some (.ref l) := zip_at hfl (hl.trans rr.length) e1
                  refine ⟨a, dx, _, rfl, q, fun T nT => ?_⟩
                  have sT : Same H (upd H T (.lst [])) := same_upd nT
                  refine ⟨a, dx, _, l, us, rfl, sT _ _ q, lk, SqL.of (sT _ _ el), fun it nit => ?_⟩
                  have sI : Same (upd H T (.lst [])) (upd (upd H T (.lst [])) it (ItO l it 0)) := same_upd nit
                  have s0 := sT.trans sI
                  have eT : upd (upd H T (.lst [])) it (ItO l it 0) T = some (.lst []) := sI _ _ upd_same
                  refine ⟨it, l, rfl, upd_same, s0 _ _ q, ranN (ds := [.obj o c ns xs]) (Same.refl _) (r.same s0) em rfl fun w H2 k' s2 n2 rv => ⟨j, rv.1, ⟨hj.1, by have := hj.2; omega⟩, j, rfl, hj.1, hj.2, us, ?_⟩⟩
                  have s02 := s0.trans s2
                  have nTl : T ≠ l := by rintro rfl; rw [el] at nT; exact nomatch nT
                  have nIl : it ≠ l := by rintro rfl; rw [sT _ _ el] at nit; exact nomatch nit
                  have nTI : T ≠ it := by rintro rfl; rw [upd_same] at nit; exact nomatch nit
                  refine ⟨s2 _ _ eT, s2 _ _ upd_same, SqL.of (s02 _ _ el), by rw [← ru.length]; exact hy.2, nTl, nIl, ?_⟩
                  have sF : Same H (upd (upd H2 T (.lst us)) it (ItE it us.length)) := fun b ob eb => by
                    have b1 : b ≠ it := by rintro rfl; rw [sT _ _ eb] at nit; exact nomatch nit
                    have b2 : b ≠ T := by rintro rfl; rw [nT] at eb; exact nomatch eb
                    rw [upd_ne b1, upd_ne b2]
                    exact s02 _ _ eb
                  have eF : upd (upd H2 T (.lst us)) it (ItE it us.length) T = some (.lst us) := by rw [upd_ne nTI, upd_same]
                  refine kk (.ref T) _ (f1 T) sF (fun a => ?_) ⟨T, us, f0, rfl, eF, (fadd_f0 _).symm, ru.same sF⟩
                  by_cases ha : a = T
                  · subst ha
                    exact ⟨by rw [f1_self]; exact Nat.le_refl _, fun _ => ⟨nT, by rw [eF]; exact fun z => nomatch z⟩⟩
                  · rw [f1_ne ha]
                    exact ⟨Nat.zero_le _, fun x => absurd x (Nat.not_succ_le_zero 0)⟩
                · rw [if_neg hy] at e9
                  exact nomatch e9
              | _ => exact nomatch e9
          · rw [if_neg hj] at e9
            exact nomatch e9
        | _ => exact nomatch e9
    · rw [if_neg hc] at e9
      exact nomatch e9
end
end VL
end
section
set_option Elab.async false
set_option linter.all false
set_option maxRecDepth 100000
set_option maxHeartbeats 300000
namespace PySem
namespace OwnErr
open PySem.HandSPX PyProof.Rows PySem.Calls PySem.W
/-! ### own exception classes: super().__init__(text), self.f = f -/
def eA (fl : Str) (p1 p2 : Pos) : Arguments := { posonlyargs := [], args := [{ arg := "self", annotation := none, pos := p1 }, { arg := fl, annotation := none, pos := p2 }], vararg := none, kwonlyargs := [], kw_defaults := [], kwarg := none, defaults := [] }
def eB (fl msg : Str) (q1 q2 q3 q4 q5 q6 q7 q8 q9 q10 : Pos) : List Stmt :=
  [.Expr (.Call (.Attribute (.Call (.Name "super" q1) [] [] q2) "__init__" q3) [.Constant (.str msg) 0 q4] [] q5) q6, .Assign [.Attribute (.Name "self" q7) fl q8] (.Name fl q9) q10]
def eS (fl : Str) : Scope := { kind := .function, names := [(PySem.Str.ofString "self", .local), (fl, .local), (PySem.Str.ofString "__class__", .free), (PySem.Str.ofString "super", .globalImplicit)], isGenerator := false, isCoroutine := false, more := [] }
/-- what the written part says of such a class at C, of its __init__ at fI -/
structure ErrTxt (P : Program) (K : Frag) (fl : Str) (C fI : Addr) : Prop where
  cls : ∃ nm q N bs bm sn sub ab col dd k0 k1 k2 k3 k5, K.lookup C = some (excClassObj nm q C N bs bm true sn sub ab col dd k0 k1 k2 k3 k5 "ValueError.__new__") ∧ refsVE bm = true
  sa : findIn K (.ref C) "__setattr__" = some (some (.builtin "object.__setattr__"))
  ga : findIn K (.ref C) "__getattribute__" = some (some (.builtin "BaseException.__getattribute__"))
  gg : findIn K (.ref C) "__getattr__" = some none
  noN : findIn K (.ref C) fl = some none
  iC : findIn K (.ref C) "__init__" = some (some (.ref fI))
  tC : typeIn K (.ref fI) = some (.type "function")
  kC : keepIn K (.ref C) = true
  exC : subIn K (.ref C) (.type "BaseException") = some true
  veC : subIn K (.ref C) (.type "ValueError") = some true
  ccC : mroIn K C (.ref C) = some true
  tyC : typeIn K (.ref C) = some (.type "type")
  hdC : hasDictIn K C = true
  noS : nsIn K mainGlobals "super" = some none
  noO : nsIn K cStatics "thirdparty.any" = some none
  sup : ks_superIn K C C "__init__" = some (some (.builtin "ValueError.__init__"))
  noTop : (P.main.scope.names.lookup ("super" : Str)).isSome = false
  fn : ∃ (q msg : Str) (oc : Value) (od : Option Addr) (dV kV doc pm : Value) (an : Option Addr) (ct : Value) (osl : Array (Option Value)) (cc cda : Addr) (p1 p2 q1 q2 q3 q4 q5 q6 q7 q8 q9 q10 : Pos) (ccl cl : Value) (cdd cld : Option Addr) (vs : Array Value) (ccs csl : Array (Option Value)) (tf : Tok),
    K.lookup fI = some ⟨oc, od, .func (ksFn "__init__" q (eA fl p1 p2) (eB fl msg q1 q2 q3 q4 q5 q6 q7 q8 q9 q10) (eS fl) .none kV doc pm an (.ref cda) ct cc), osl⟩ ∧ codeIn K (.ref cda) q = true ∧
    K.lookup cda = some ⟨ccl, cdd, .fields vs, ccs⟩ ∧ vs[2]? = some (.str P.main.file tf) ∧ (q3.endLine == q5.line) = true ∧ K.lookup cc = some ⟨cl, cld, .cell (some (.ref C)), csl⟩
/-- names apart -/
structure FldOk (fl : Str) : Prop where
  n1 : (fl == ("self" : Str)) = false
  n2 : (("self" : Str) == fl) = false
  n3 : (fl == ("__debug__" : Str)) = false
  n4 : (("super" : Str) == fl) = false
  n5 : (("__class__" : Str) == fl) = false
  bd : ∀ (q : Str) (p1 p2 : Pos) (body : List Stmt) (sc : Scope) (kV doc pm : Value) (an : Option Addr) (cdv ct : Value) (cc : Addr) (a b : Value), bindArgs (ksFn "__init__" q (eA fl p1 p2) body sc .none kV doc pm an cdv ct cc) { pos := [a, b] } = (pure [(("self" : Str), a), (fl, b)] : Sem (List (Str × Value)))
structure InitEnd (h h' : Heap) (x C dx : Addr) (fl : Str) (v : Value) : Prop where
  keep : ∀ b o, b ≠ x → h.get? b = some o → h'.get? b = some o
  obj : ∃ t1, h'.get? x = some { cls := .ref C, dict := some dx, data := .fields #[.ref t1, .none, .none, .none, .bool false, .none] }
  dbig : h.objs.size ≤ dx
  dne : dx ≠ x
  ns : h'.Ns1 dx (fun y => if y = fl then some v else none)
section
variable {prog : Program} {w : World} {A : Around} {E : Value → Shared → Prop} {R : Result → Shared → Prop} {s : Shared} {K : Frag} {C fI : Addr} {fl : Str}
theorem one_size (v : Value) : [v].length ≤ sizeLine := by
  rw [sizeLine_eq]
  exact (by decide : 1 ≤ 16777216)
theorem call_mw {u e t0 : Addr} {rest : List Value} {Q : Value → Shared → Prop} {nm q : Str} {N : Addr} {bs bm : List Value} {hdct : Bool} {sn : List Str} {sub : List Value} {ab : Bool} {col : Option Bool} {dd : Option Addr} {k0 k1 k2 k3 k5 : Option Value}
    (hC : s.heap.get? C = some (excClassObj nm q C N bs bm hdct sn sub ab col dd k0 k1 k2 k3 k5 "ValueError.__new__")) (he : s.heap.get? e = some (excO C t0)) (hu : s.heap.get? u = some (kxs_mw "ValueError.__init__" e)) (hrest : rest.length ≤ sizeLine)
    (hq : ∀ h' t1, (∀ b o, b ≠ e → s.heap.get? b = some o → h'.get? b = some o) → h'.get? e = some (excO C t1) → Q .none { s with heap := h' }) : wpAny (model prog w) A (call (.ref u) rest) Q E s := by
  obtain ⟨hh, g, d, tk, os⟩ := s; refine wpAny_call (codeAny_of_tree ?_)
  show wpAny _ A.in1 (callAny (.ref u) ⟨rest, []⟩) _ _ _; simp only [callAny]
  refine wpAny_bind (wpAny_load hu ?_); simp only [kxs_mw, show (Value.type "method-wrapper" == Value.type "method" || Value.type "method-wrapper" == Value.type "builtin_function_or_method" || Value.type "method-wrapper" == Value.type "method-wrapper") = true by decide, if_true]
  refine KFB.if_so (by decide) ?_; refine wpAny_bind (check_bound_init PySem.F.excBase_ValueError.toExcCallFacts hC he rfl ?_)
  refine wpAny_bind (wpAny_pure (wpAny_pure ?_)); refine ⟨plainId_quiet PySem.F.excBase_ValueError.init.plain _, codeAny_builtin PySem.F.excBase_ValueError.initEntry ?_⟩
  exact exc_init_tree (cls := .ref C) (t0 := t0) (dv := none) (c2 := .none) (c3 := .none) (b4 := .bool false) he hrest fun h' k e' t' => hq h' _ k e'
theorem mcall {o : Expr} {name : Str} {apos pos : Pos} {args : List Expr} {env : Env} (hpos : (apos.endLine == pos.line) = true) (hf : methodCallForm (args.length + ([] : List (Option Str × Expr)).length) (backTo pos (starEach args env)) (backToKw pos (keywordEach [] env)) = true) :
    eval (.Call (.Attribute o name apos) args [] pos) env = (do
      let ov ← attributeBase o name env (eval o env); standAt apos.atName
      let (f, first) ← holding [ov] (getMethod ov name (do return (← importBound o env).getD true))
      callWith pos f first (backTo pos (starEach args env)) []) := by
  have e : ∀ b, methodCallPos b o env apos pos = pure pos := fun b => by
    unfold methodCallPos
    rw [hpos, Bool.or_true]
    rfl
  show (do
    let ov ← attributeBase o name env (eval o env); standAt apos.atName
    methodCall o name apos pos env ov (args.length + ([] : List (Option Str × Expr)).length) (backTo pos (starEach args env)) (backToKw pos (keywordEach [] env))) = _
  unfold methodCall
  simp only [e, hf]
  rfl
theorem wpAt_mcall {M : Model} {c : Code} {o : Expr} {name : Str} {apos pos : Pos} {args : List Expr} {env : Env} {Q : Value → Shared → Prop} (hpos : (apos.endLine == pos.line) = true) (hf : methodCallForm (args.length + ([] : List (Option Str × Expr)).length) (backTo pos (starEach args env)) (backToKw pos (keywordEach [] env)) = true)
    (h : _root_.PySem.wpAt M A c (attributeBase o name env (eval o env)) (fun ov s₁ => ∀ pl, wpAny M A (getMethod ov name pl) (fun fx s₂ => wpAny M A (callWith pos fx.1 fx.2 (backTo pos (starEach args env)) []) Q E s₂) E s₁) E s) :
    _root_.PySem.wpAt M A c (eval (.Call (.Attribute o name apos) args [] pos) env) Q E s := by
  rw [mcall hpos hf]
  refine wpAt_bind (wpAt_mono h (fun ov s₁ h₁ => wpAt_of_wpAny (wpAny_bind (wpAny_standAt (wpAny_bind (wpAny_holding (wpAny_mono (h₁ _) (fun fx s₂ h₂ => ?_) fun _ _ x => x)))))) fun _ _ x => x)
  exact h₂
theorem args_const {M : Model} {f : Value} {env : Env} {msg : Str} {q4 pos : Pos} {Q : Args → Shared → Prop} (h : Q ⟨[.str msg s.toks], []⟩ { s with toks := s.toks + 1 }) : wpAny M A (evalArgs f true (backTo pos (starEach [.Constant (.str msg) 0 q4] env)) []) Q E s := by
  refine evalArgs_plain ?_
  show wpAny _ _ (spliced (backTo pos (starEach [.Constant (.str msg) 0 q4] env))) _ _ _
  exact spliced_more (wpAny_Constant_str (spliced_none h))
theorem err_init (T : ErrTxt prog K fl C fI) (Z : FldOk fl) {mg mb : Str → Option Value} {x t0 : Addr} {v : Value} (X : K.In s.heap) (G : s.heap.Ns mainGlobals mg) (Bn : s.heap.Ns builtinsNs mb) (hmb : mb "super" = bootBuiltins "super") (hlim : s.heap.NoLimit) (hx : s.heap.get? x = some (excO C t0)) (hnx : K.lookup x = none) (hroom : A.depth < recursionLimit)
    (hq : ∀ h' tk dx, InitEnd s.heap h' x C dx fl v → R (.ok (.ret .none)) { s with heap := h', toks := tk }) :
    codeAny (model prog w) A (.call (.ref fI) ⟨[.ref x, v], []⟩) R s := by
  obtain ⟨q, msg, oc, od, dV, kV, doc, pm, an, ct, osl, cc, cda, p1, p2, q1, q2, q3, q4, q5, q6, q7, q8, q9, q10, ccl, cl, cdd, cld, vs, ccs, csl, tf, ho, hcd, hcda, hvs, hpos, hcc⟩ := T.fn
  obtain ⟨nm, qn, N, bs, bm, sn, sub, ab, col, dd, k0, k1, k2, k3, k5, hC, hbm⟩ := T.cls
  have hcl : clsIn K C = some { name := nm, bases := bs, mro := .ref C :: bm, ns := N, qualname := qn, hasDict := true, slotNames := sn, subclasses := sub, abstract := ab, collection := col, hasDel := false } := by unfold clsIn; rw [hC] <;> rfl
  have l1 : (eS fl).names.lookup ("self" : Str) = some .local := by simp [eS, List.lookup]
  have l2 : (eS fl).names.lookup fl = some .local := by simp [eS, List.lookup, Z.n1]
  have l3 : (eS fl).names.lookup ("super" : Str) = some .globalImplicit := by
    have z1 : (("super" : Str) == PySem.Str.ofString "self") = false := by decide
    have z2 : (("super" : Str) == PySem.Str.ofString "__class__") = false := by decide
    simp [eS, List.lookup, Z.n4, z1, z2]
  have l4 : (eS fl).names.lookup ("__class__" : Str) = some .free := by
    have z1 : (("__class__" : Str) == PySem.Str.ofString "self") = false := by decide
    simp [eS, List.lookup, Z.n5, z1]
  refine ks_codeAny_call_defAt (fd := ksFn "__init__" q (eA fl p1 p2) (eB fl msg q1 q2 q3 q4 q5 q6 q7 q8 q9 q10) (eS fl) .none kV doc pm an (.ref cda) ct cc) (binds := [("self", .ref x), (fl, v)]) hroom (X _ _ ho) rfl hlim (codeRec_of X hcd) rfl (BindsTo.of_eq (Z.bd _ _ _ _ _ _ _ _ _ _ _ _ _ _)) ?_ ?_ (fun h₁ hns hk₁ => ?_) rfl rfl rfl
  · intro y hy
    simp only [eS, fnX, List.mem_cons, List.not_mem_nil, or_false] at hy
    rcases hy with rfl | rfl | rfl | rfl <;> exact fun z => nomatch z
  · intro y hy
    simp only [List.mem_cons, List.not_mem_nil, or_false] at hy
    rcases hy with rfl | rfl
    · exact l1
    · exact l2
  have X₁ : K.In h₁ := X.keeps hk₁
  have hx₁ := hk₁ _ _ hx
  have G₁ := G.keeps hk₁
  have B₁ := Bn.keeps hk₁
  have hxL : s.heap.objs.size ≠ x := Nat.ne_of_gt (Heap.lt_size hx)
  have m1 : ([("self", .ref x), (fl, v)] : List (Str × Value)).reverse.lookup ("self" : Str) = some (.ref x) := by simp [List.lookup, Z.n2]
  have m2 : ([("self", .ref x), (fl, v)] : List (Str × Value)).reverse.lookup fl = some v := by simp [List.lookup]
  have I₁ : InstAt h₁ x (excO C t0) C none := ⟨hx₁, rfl, rfl, trivial⟩
  have hD : h₁.get? C = some (excClassObj nm qn C N bs bm true sn sub ab col dd k0 k1 k2 k3 k5 "ValueError.__new__") := X₁ _ _ hC
  have xC : x ≠ C := ks_ne X₁ I₁ hcl
  -- super().__init__(text)
  refine ks_wpAt_execs_cons (ks_wpAt_Expr_any ?_)
  refine wpAt_mcall hpos ?_ ?_
  · rfl
  refine ks_wpAt_super_base (ar := { arg := "self", annotation := none, pos := p1 }) ?a1 ?a2 ?a3 ?a4 (X₁ _ _ ho) rfl ?a5 ?a6 (X₁ _ _ hcda) rfl hvs (beq_self_eq_true _) T.noTop ?_
  case a1 => exact l3
  case a2 => exact l4
  case a3 => decide
  case a4 => rfl
  case a5 => rfl
  case a6 => rfl
  refine ks_loadName_global rfl l3 (loadGlobal_builtin G₁ (mg_none_of X₁ G₁ T.noS) B₁ (hmb.trans (by first | boot_by_name | rfl | kernel_rfl)) ⟨rfl, ?_⟩)
  refine wpAny_loadName_free rfl l4 rfl ⟨_, X₁ _ _ hcc, rfl⟩ ?_
  refine wpAny_loadName_local rfl l1 hns m1 ?_
  refine ks_wpAny_isType_cls hD rfl ⟨rfl, ?_⟩
  refine ks_wpAny_call_super hD rfl hx₁ rfl (fun c e => nomatch e) (looks_mroIn X₁ T.ccC) (fun h₂ e₂ k₂ pl => ?_)
  have X₂ : K.In h₂ := X₁.keeps k₂
  have hx₂ := k₂ _ _ hx₁
  have I₂ : InstAt h₂ x (excO C t0) C none := ⟨hx₂, rfl, rfl, trivial⟩
  have hsup := T.sup
  unfold ks_superIn at hsup
  rw [hcl] at hsup
  refine kxs_getMethod kxs_ValueError e₂ (looks_opaque X₂ T.noO) (l₀ := .ref C :: bm) ?_ rfl X₂ hsup (I₂.type.andThen (looks_subIn X₂ T.veC)) xC (by decide) ?_
  · exact fun A Q E s k q => wpAny_bind ((looks_clsIn X₂ hcl) A _ E s k (wpAny_pure q))
  have k₃ : ∀ b o, h₂.get? b = some o → (h₂.push (kxs_mw "ValueError.__init__" x)).get? b = some o := fun b o e => Heap.get?_push_of_some _ e
  refine kxs_callWith (i := "ValueError.__init__") (x := x) (u := h₂.objs.size) rfl (args_const ⟨Heap.get?_push_size _ rfl, ?_⟩)
  refine call_mw (e := x) (C := C) (t0 := t0) (k₃ _ _ (X₂ _ _ hC)) (k₃ _ _ hx₂) (Heap.get?_push_size _ rfl) (one_size _) fun h₄ t1 k₄ hx₄ => ?_
  have k14 : ∀ b o, b ≠ x → h₁.get? b = some o → h₄.get? b = some o := fun b o hb e => k₄ b o hb (k₃ _ _ (k₂ _ _ e))
  have X₄ : K.In h₄ := fun a o e => k14 a o (fun z => by
    rw [z, hnx] at e
    cases e) (X₁ _ _ e)
  have hns₄ : h₄.Ns s.heap.objs.size (fun y => ([("self", .ref x), (fl, v)] : List (Str × Value)).reverse.lookup y) := hns.at fun o e => k14 _ o hxL e
  -- self.f = f
  refine wpAt_of_wpAny ?_
  refine wpAny_execs_cons (plainObj_wpAny_Assign_Attribute ?_)
  refine wpAny_Name (wpAny_loadName_local rfl l2 hns₄ m2 ?_) Z.n3
  refine wpAny_Name (wpAny_loadName_local rfl l1 hns₄ m1 ?_) (by decide)
  refine set_plain X₄ (ox := excO C t1) (od := none) ⟨hx₄, rfl, rfl, trivial⟩ T.sa ?_
  refine exc_osa X₄ hx₄ hcl (show refsVE (.ref C :: bm) = true from hbm) rfl T.noN (fun h₅ tk₅ dx k₅ dn dne hx₅ hn₅ => ?_)
  show wpAny _ _ (execs _ _) _ _ _
  have z : s.heap.objs.size < h₁.objs.size := hns.lt
  have z4 : s.heap.objs.size < h₄.objs.size := hns₄.lt
  exact wpAny_execs_nil (hq h₅ tk₅ dx ⟨fun b o hb e => k₅ b o hb (k14 b o hb (hk₁ b o e)), ⟨t1, hx₅⟩, Nat.le_of_lt (Nat.lt_of_lt_of_le z4 dn), dne, hn₅⟩)
end
end OwnErr
end PySem
end
section
set_option Elab.async false
set_option linter.all false
set_option maxRecDepth 100000
set_option maxHeartbeats 1000001
namespace PySem
namespace OwnErr
open PySem.HandSPX PyProof.Rows PySem.Calls PySem.W
/-- a made exception -/
structure OwnMade (h h' : Heap) (e C d : Addr) (fl : Str) (v : Value) : Prop where
  keep : ∀ b o, h.get? b = some o → h'.get? b = some o
  new : h.objs.size ≤ e
  obj : ∃ oe vs, h'.get? e = some oe ∧ oe.cls = .ref C ∧ oe.dict = some d ∧ oe.data = .fields vs ∧ vs[1]? = some .none
  dbig : h.objs.size ≤ d
  dne : d ≠ e
  ns : h'.Ns1 d (fun y => if y = fl then some v else none)
section
variable {prog : Program} {w : World} {A : Around} {R : Result → Shared → Prop} {s : Shared} {K : Frag} {C fI : Addr} {fl : Str}
theorem err_made (T : ErrTxt prog K fl C fI) (Z : FldOk fl) {mg mb : Str → Option Value} {v : Value} (X : K.In s.heap) (G : s.heap.Ns mainGlobals mg) (Bn : s.heap.Ns builtinsNs mb) (hmb : mb "super" = bootBuiltins "super") (hlim : s.heap.NoLimit) (hroom : A.depth + 1 < recursionLimit)
    (hq : ∀ h' tk e d, OwnMade s.heap h' e C d fl v → R (.ok (.ret (.ref e))) { s with heap := h', toks := tk }) :
    codeAny (model prog w) A (.call (.ref C) ⟨[v], []⟩) R s := by
  obtain ⟨nm, q, N, bs, bm, sn, sub, ab, col, dd, k0, k1, k2, k3, k5, hC, hbm⟩ := T.cls; obtain ⟨hp, g, dr, tk, os⟩ := s
  have k : ∀ b o, hp.get? b = some o → ((hp.push (kdv_tup [v])).push (excO C hp.objs.size)).get? b = some o := fun b o e => Heap.get?_push_of_some _ (Heap.get?_push_of_some _ e)
  have hget : ((hp.push (kdv_tup [v])).push (excO C hp.objs.size)).get? (hp.objs.size + 1) = some (excO C hp.objs.size) := by heap_get
  have hnx : K.lookup (hp.objs.size + 1) = none := by
    cases e : K.lookup (hp.objs.size + 1) with
    | none => rfl
    | some o =>
      have z : hp.get? (hp.objs.size + 1) = some o := X _ _ e
      exact absurd (Nat.lt_of_succ_lt (Heap.lt_size z)) (Nat.lt_irrefl _)
  refine call_own F.excBase_ValueError (fun X => refsVE_contains X bm hbm) (X _ _ hC) (looks_findIn X T.iC) (fun self => bind_fn X self T.tC) (one_size v) ?_
  refine err_init (s := ⟨(hp.push (kdv_tup [v])).push (excO C hp.objs.size), g, dr, tk, os⟩) T Z (X.keeps k) (G.keeps k) (Bn.keeps k) hmb (hlim.keeps k) hget hnx ?_ fun h' tk' dx ⟨k', ⟨t1, hx⟩, dn, dne, hns⟩ => ?_
  · show A.depth + 1 < recursionLimit
    exact hroom
  · have old : ∀ b o, hp.get? b = some o → h'.get? b = some o := fun b o e => k' b o (Nat.ne_of_lt (Nat.lt_succ_of_lt (Heap.lt_size e))) (k b o e)
    have z : hp.objs.size + 1 + 1 ≤ dx := by
      first
        | (simpa only [Heap.size_push] using dn)
        | exact dn
        | (have q := dn; rw [Heap.size_push, Heap.size_push] at q; exact q)
    exact ⟨rfl, hq h' tk' (hp.objs.size + 1) dx ⟨old, Nat.le_succ _, ⟨_, _, hx, rfl, rfl, rfl, rfl⟩, Nat.le_trans (Nat.le_trans (Nat.le_succ _) (Nat.le_succ _)) z, dne, hns⟩⟩
end
end OwnErr
end PySem
namespace VL
open PySem PySem.Spec PyProof.Rows L2 PySem.OwnErr
theorem relO_fl {v : V} {v' : Value} {fl : Str} (r : RelV v v') (f : Str) : RelO (List.lookup f [(fl, v)]) (if f = fl then some v' else none) := by
  by_cases hw : f = fl
  · subst hw
    rw [if_pos rfl]
    have q : List.lookup f [(f, v)] = some v := by simp [List.lookup]
    rw [q]
    exact r
  · rw [if_neg hw]
    have qw : (f == fl) = false := by simpa using hw
    have q2 : List.lookup f [(fl, v)] = none := by simp [List.lookup, qw]
    rw [q2]
    trivial
section
variable {X : Cx} {C fI : Addr} {fl cn : Str}
/-- C(e) -/
def tMkErr (C : Addr) (fl : Str) (ta : TA) : L2.St → Hp → XK → Prop := fun σ H Q => ta σ H fun vs H1 => ∃ v, vs = [v] ∧ ∀ d, H1 d = none → Q (.ref C) (some d) (upd H1 d (.xd [(fl, v)]))
theorem pmk_err {a : Expr} {ta : TA} {p pos : Pos} {k : Nat} (T : ErrTxt X.prog X.K fl C fI) (Z : FldOk fl) (gC : X.mg cn = some (.ref C)) (hr : Room k X.A) (ha : PA X [a] ta) (hg : Gl X cn) (hcn : (cn == ("__debug__" : Str)) = false)
    (he : starEach (a :: []) X.env = (false, eval a X.env) :: starEach [] X.env := by rfl) (hpl : (backTo pos (starEach [] X.env)).any (·.1) = false := by rfl) :
    PMk X (.Call (.Name cn p) [a] [] pos) (tMkErr C fl ta) := by
  intro pins s σ H Q I h
  refine wpAny_Call_Name_kw (ld_glob I hg gC ?_ hcn)
  refine PySem.W.callWith_K (h₀ := X.base) I.ok.mod.kin T.kC (thn (ha.run pos pins s σ H _ I h) fun us s1 hh => ?_) he hpl
  obtain ⟨vs, H1, I1, r1, v, ev, q1⟩ := hh
  subst ev
  refine ⟨I1.kIn, ?_⟩
  cases r1 with
  | cons rv rn =>
    rename_i v' us'
    cases rn
    show wpAny _ _ (call (.ref C) [v']) _ _ _
    have hlim := I1.nolimit
    obtain ⟨mb, hB, hmb⟩ := I1.mod.blt
    have kb : ∀ b o, X.base.get? b = some o → s1.heap.get? b = some o := I1.bk
    have hG := I1.mod.glob.keeps kb
    have hB' := hB.keeps kb
    obtain ⟨hp, g, dr, tk, os⟩ := s1; refine wpAny_call (err_made T Z I1.kIn hG hB' (hmb _ (by decide)) hlim (by have := hr.dp; omega) fun h' tk' e d M => ?_)
    show MkP X pins σ Q (.ref e) ⟨h', g, dr, tk', os⟩
    obtain ⟨oe, fv, hoe, hc, hd, hdat, h1⟩ := M.obj
    have hns := M.ns
    obtain ⟨G', g1, g2⟩ := restrict h' fun b => decide (b ≠ e)
    have gk : ∀ b, b ≠ e → G'.get? b = h'.get? b := fun b hb => g1 b (decide_eq_true hb)
    have ge : G'.get? e = none := g2 e (by simp)
    have old : ∀ b o, hp.get? b = some o → G'.get? b = some o := fun b o q => (gk b (Nat.ne_of_lt (Nat.lt_of_lt_of_le (Heap.lt_size q) M.new))).trans (M.keep b o q)
    have ob : ObjOk X.prog X.w (upd H1 d (.xd [(fl, v)])) G' d (.xd [(fl, v)]) :=
      ⟨_, hns.at (fun o q => (gk d M.dne).trans q), fun f => relO_fl rv f⟩
    have J : Inv X pins σ (upd H1 d (.xd [(fl, v)])) ⟨G', g, dr, tk', os⟩ := I1.laid (t' := tk') old M.dbig ob
    refine ⟨e, oe, fv, ⟨G', g, dr, tk', os⟩, _, .ref C, some d, rfl, J, fun b o q => ?_, ge, hoe, ⟨hc, hd⟩, hdat, h1, ?_, rfl, I1.bare, raises_own T.exC T.tyC, q1 d (I1.hok.fresh M.dbig)⟩
    · by_cases hb : b = e
      · have q' : G'.get? b = some o := q
        rw [hb, ge] at q'; cases q'
      · exact (gk b hb).symm.trans q
    · rw [upd_ne (Ne.symm M.dne)]
      exact I1.hok.fresh M.new
end
/-- raise C(e) -/
def raiseP (c fl : Str) (pa : PM) : SM := fun ρ => match pa ρ with
  | some d => if d.fro = true then .exc ⟨c, [fl], [d]⟩ ρ else .bad
  | none => .bad
section
variable {X : Cx} {L : Ly} {W : WX} {S : List Nat} {fI : Addr} {c fl : Str} {pa : PM}
theorem ss_raise {a : Expr} {p pos pos2 : Pos} {k : Nat} (hc : X.calm = true) (T : ErrTxt X.prog X.K fl (L.CT c) fI) (Z : FldOk fl) (gC : X.mg c = some (.ref (L.CT c))) (hr : Room k X.A) (tk : Takes X W) (ha : PE X a (tP L pa)) (hg : Gl X c) (hcn : (c == ("__debug__" : Str)) = false := by decide)
    (he : starEach (a :: []) X.env = (false, eval a X.env) :: starEach [] X.env := by rfl) (hpl : (backTo pos (starEach [] X.env)).any (·.1) = false := by rfl) :
    PS X (.Raise (some (.Call (.Name c p) [a] [] pos)) none pos2) (tS L W S (raiseP c fl pa)) := (ps_raise hc tk (pmk_err T Z gC hr (pa_cons ha pa_nil he) hg hcn he hpl)).imp fun D σ H ⟨Kp, F, ρ, g, E, G, p⟩ => by
  unfold raiseP at p
  cases e : pa ρ with
  | none => rw [e] at p; exact p.elim
  | some d =>
    rw [e] at p
    dsimp only at p
    split at p
    next hf =>
      refine ⟨F, ρ, g, d, E, e, fun v H1 k1 s1 r1 => ⟨v, rfl, fun dd nd => ?_⟩⟩
      obtain rfl := Rep.fro0 d hf r1
      have s2 := s1.trans (same_upd (o := .xd [(fl, v)]) nd)
      exact p F _ σ g _ _ (E.same s2) (G.same s2) (Stp.same s2) KeepS.refl ⟨rfl, .inl ⟨dd, [v], rfl, upd_same, rfl, ⟨v, [], f0, f0, rfl, rfl, r1.same (same_upd nd), rfl, rfl⟩⟩⟩
    next => exact p.elim
end
end VL
end
section
set_option Elab.async false
set_option linter.all false
set_option maxRecDepth 100000
namespace VL
open PySem L2 PySem.Spec PyProof.Rows
/-! ### several except clauses, with and without a name -/
abbrev Cl := Value × Option Nat × (Addr → Value → Option Addr → TS)
def endsOff (i : Nat) (D : Ends) : Ends := { nx := fun σ' H' => D.nx (List.set σ' i none) H', rt := D.rt, bk := fun σ' H' => D.bk (List.set σ' i none) H', ct := fun σ' H' => D.ct (List.set σ' i none) H' }
/-- what a clause that fits wishes -/
def fitW (D : Ends) (o : Option Nat) (ts : Addr → Value → Option Addr → TS) (cls : Value) (d : Option Addr) (σ : L2.St) (H : Hp) : Prop := match o with
  | none => ∀ a, H a = none → ts a cls d D σ H
  | some i => ∀ a, H a = none → ts a cls d (endsOff i D) (List.set σ i (some (.ref a))) H
def wMix (K : PySem.W.Frag) (Wout : WX) (D : Ends) : List Cl → WX
  | [] => Wout
  | xZ :: r => fun cls d σ H => ∃ b, PySem.W.exmOne K cls xZ.1 = some b ∧ (b = true → fitW D xZ.2.1 xZ.2.2 cls d σ H) ∧ (b = false → wMix K Wout D r cls d σ H)
inductive HdsX (X : Cx) : List ExceptHandler → List Cl → Prop
  | nil : HdsX X [] []
  | plain {xZ : Str} {c : Value} {ts : Addr → Value → Option Addr → TS} {b₀ : Stmt} {suite : List Stmt} {np pos' : Pos} {hds : List ExceptHandler} {l : List Cl} (hcZ : Names X xZ c)
      (hsu : ∀ (a : Addr) (oe : Obj) (cls : Value) (d : Option Addr) (pn : List (Addr × Obj)), Zc cls d oe → (∃ vs, oe.data = .fields vs) → PSs (X.suite a ((a, oe) :: pn)) (b₀ :: suite) (ts a cls d)) (r : HdsX X hds l) :
      HdsX X (.ExceptHandler (some (.Name xZ np)) none (b₀ :: suite) pos' :: hds) ((c, none, ts) :: l)
  | named {xZ n : Str} {i : Nat} {c : Value} {ts : Addr → Value → Option Addr → TS} {b₀ : Stmt} {suite : List Stmt} {np pos' : Pos} {hds : List ExceptHandler} {l : List Cl} (hi : X.N[i]? = some n) (hln : X.env.kindOf n = some .local) (hcZ : Names X xZ c)
      (hsu : ∀ (a : Addr) (oe : Obj) (cls : Value) (d : Option Addr) (pn : List (Addr × Obj)), Zc cls d oe → (∃ vs, oe.data = .fields vs) → PSs (X.suite a ((a, oe) :: pn)) (b₀ :: suite) (ts a cls d)) (r : HdsX X hds l) :
      HdsX X (.ExceptHandler (some (.Name xZ np)) (some n) (b₀ :: suite) pos' :: hds) ((c, some i, ts) :: l)
section
variable {X : Cx} {body : List Stmt} {h₀ : ExceptHandler} {hds : List ExceptHandler} {l : List Cl} {pos : Pos} {tb : WX → TS} {Wout : WX}
theorem ps_try_mix (hsZ : X.stack = X.env :: X.outer) (hfZ : X.env.frame = some X.env.locals) (hN : X.N.Nodup) (tk : Takes X Wout)
    (hbd : ∀ (W : WX) (pn : List (Addr × Obj)) (xe : Value → Shared → Prop), Takes (X.tr pn xe) W → PassesOwn (model X.prog X.w) X.A X.env xe → PSs (X.tr pn xe) body (tb W))
    (hh : HdsX X (h₀ :: hds) l) : PS X (.Try body (h₀ :: hds) [] [] pos) (fun D σ H => tb (wMix X.K Wout D l) D σ H) := by
  refine ⟨fun pinsZ s σ H D I h => ?_⟩
  have okZ := I.ok
  have hfrZ : X.A.frames = some (X.env :: X.outer) := by rw [okZ.frames, hsZ]
  refine wpAny_Try_except ?_
  refine wpAny_mono ((hbd (wMix X.K Wout D l) (X.pn ++ pinsZ) (fun e s₁ => wpAny (model X.prog X.w) X.A (noteFrame e X.env) (fun _ s₂ => wpAny (model X.prog X.w) X.A (setFlight e none) (fun _ s₃ =>
    wpAny (model X.prog X.w) X.A (handleBy e X.env (h₀ :: hds)) (SP X pinsZ D) X.xe s₃) X.xe s₂) X.xe s₁) (fun u s' xx => ?_) PassesOwn.looking).run [] s σ H D (I.toTry _) h) (fun f s1Z hspZ => ?_) (fun e s1Z heZ => heZ)
  · obtain ⟨a, B, sI, pins', σ', H', cls, d, rfl, JZ', nbZ, upZ, skyZ, naZ, os, ag, w⟩ := xx
    have J : Inv X pinsZ σ' H' sI := JZ'.ofTry okZ
    have sky' : Sky B (X.env :: X.outer) a (Zc cls d) X.env.locals s'.heap := by rw [← hsZ]; exact skyZ
    show wpAny (model X.prog X.w) X.A (noteFrame (.ref a) X.env) _ _ _; refine Sky.land Zc.steady hfrZ hfZ sky' fun h3Z fl3Z up3Z => ?_
    have J3Z : Inv X pinsZ σ' H' { s' with heap := h3Z } := J.landed nbZ fl3Z.1 (upZ.trans up3Z) os ag
    obtain ⟨oe3, vs3, he3, hz3, hd3⟩ := fl3Z.there
    have notFrZ : ∀ {h : Heap} {o : Obj} {vs : Array Value}, h.FunFrames B (X.env :: X.outer) → h.get? a = some o → o.data = .fields vs → a ∉ frs (X.env :: X.outer) := fun {h o vs} ff e dd hmZ => by
      obtain ⟨_, o', e', hnf⟩ := ff.mem hmZ
      rw [e] at e'; cases e'
      exact hnf _ dd
    have nfrZ := notFrZ fl3Z.2.2.1 he3 hd3
    have nLZ : a ≠ X.env.locals := fun z => nfrZ (List.mem_filterMap.mpr ⟨X.env, List.mem_cons_self, by rw [hfZ, z]⟩)
    have nFZ : a ∉ X.fs := fun hmZ => by
      obtain ⟨e, heZ, q⟩ := List.mem_filterMap.mp hmZ
      exact nfrZ (List.mem_filterMap.mpr ⟨e, List.mem_cons_of_mem _ heZ, q⟩)
    have S3Z := J3Z.suite he3 hd3 naZ nLZ nFZ
    have LTZ : PySem.W.Looks (model X.prog X.w) h3Z (typeOf (.ref a)) cls := fun A Q E s k q => wpAny_typeOf_ref (k _ _ he3) (by rw [hz3.1]; exact q)
    have test : ∀ {xZ : Str} {c : Value} {np : Pos} {Q : Value → Shared → Prop} {E : Value → Shared → Prop}, Names X xZ c → Q c { s' with heap := h3Z } → wpAny (model X.prog X.w) (X.A.mark (some (.ref a))) (eval (.Name xZ np) X.env) Q E { s' with heap := h3Z } := fun {xZ c np Q E} hcZ q => by
      obtain ⟨hg, hdbg, hmZ | ⟨hmZ, hv, hnn⟩⟩ := hcZ
      · exact ld_glob (X := X.suite a ((a, oe3) :: (X.pn ++ pinsZ))) S3Z hg hmZ q hdbg
      · exact ld_blt (X := X.suite a ((a, oe3) :: (X.pn ++ pinsZ))) S3Z hg hmZ hv q hnn hdbg
    have go : ∀ {hds' : List ExceptHandler} {l' : List Cl}, HdsX X hds' l' → wMix X.K Wout D l' cls d σ' H' →
        wpAny (model X.prog X.w) X.A (handleBy (.ref a) X.env hds') (SP X pinsZ D) X.xe { s' with heap := h3Z } := by
      intro hds' l' hk
      induction hk with
      | nil =>
        intro w
        refine wpAny_handleBy_nil ?_
        obtain ⟨k1Z, k2, k3, oe, vs, T, oT, ts', heZ, hzZ, hdZ, h1, hrZ⟩ := id fl3Z
        unfold PySem.passOn
        refine wpAny_bind (wpAny_field heZ hdZ h1 ?_)
        rw [if_neg (show ¬ ((Value.ref T == Value.none) = true) from by simp)]; have fin : wpAny (model X.prog X.w) X.A (setFlight (.ref a) X.env.frame) (fun _ s4 => wpAny (model X.prog X.w) X.A (throw (.ref a) : Sem Flow) (SP X pinsZ D) X.xe s4) X.xe { s' with heap := h3Z } := by
          rw [hfZ]
          refine HandSPX.setFlight_upZ fl3Z fun h4Z hh4 up4Z => wpAny_throw (tk _ _ ?_)
          exact ⟨a, B, sI, pinsZ, σ', H', cls, d, rfl, J, nbZ, (upZ.trans up3Z).trans up4Z, .inr (.inr (by rw [hsZ]; exact hh4)), naZ, os, ag, w⟩
        first
          | exact wpAny_bind fin
          | exact wpAny_bind (wpAny_pure (wpAny_bind (id fin)))
      | @plain xZ c ts b₀ suite np pos' hds2 l2 hcZ hsu r ih =>
        intro w
        obtain ⟨b, hb1Z, hyes, hno⟩ := w
        refine wpAny_handleBy_cons (codeAny_handlers_test ?_) fun q => nomatch q
        have LMZ := PySem.W.exm_one (M := model X.prog X.w) (J3Z.kIn) LTZ hb1Z
        refine test hcZ (LMZ.here ?_)
        cases b with
        | true =>
          refine codeAny_handlers_suite ?_; refine HandSPX.lands_againZ fl3Z fun h4Z fl4Z up4Z => ?_
          have J4Z : Inv X pinsZ σ' H' { s' with heap := h4Z } := J.landed nbZ fl4Z.1 ((upZ.trans up3Z).trans up4Z) os ag
          obtain ⟨oe4, vs4, he4, hz4, hd4⟩ := fl4Z.there
          have S4Z := J4Z.suite he4 hd4 naZ nLZ nFZ
          refine wpAny_mono ((hsu a oe4 cls d (X.pn ++ pinsZ) hz4 ⟨_, hd4⟩).run [] _ _ H' _ S4Z (hyes rfl a naZ)) (fun f s6Z hspZ => ?_) (fun _ _ z => False.elim z)
          cases f with
          | next =>
            obtain ⟨σ6, H6, S6Z, q6Z⟩ := hspZ
            exact ⟨_, _, S6Z.unsuite okZ, q6Z⟩
          | brk =>
            obtain ⟨σ6, H6, S6Z, q6Z⟩ := hspZ
            exact ⟨_, _, S6Z.unsuite okZ, q6Z⟩
          | cont =>
            obtain ⟨σ6, H6, S6Z, q6Z⟩ := hspZ
            exact ⟨_, _, S6Z.unsuite okZ, q6Z⟩
          | ret u =>
            obtain ⟨v6, σ6, H6, S6Z, r6, q6Z⟩ := hspZ
            exact ⟨_, _, _, S6Z.unsuite okZ, r6, q6Z⟩
        | false =>
          exact ih (hno rfl)
      | @named xZ n i c ts b₀ suite np pos' hds2 l2 hi hln hcZ hsu r ih =>
        intro w
        obtain ⟨b, hb1Z, hyes, hno⟩ := w
        refine wpAny_handleBy_cons (codeAny_handlers_test ?_) fun q => nomatch q
        have LMZ := PySem.W.exm_one (M := model X.prog X.w) (J3Z.kIn) LTZ hb1Z
        refine test hcZ (LMZ.here ?_)
        cases b with
        | true =>
          refine codeAny_handlers_suite_as ?_; refine HandSPX.lands_againZ fl3Z fun h4Z fl4Z up4Z => ?_
          have J4Z : Inv X pinsZ σ' H' { s' with heap := h4Z } := J.landed nbZ fl4Z.1 ((upZ.trans up3Z).trans up4Z) os ag
          obtain ⟨oe4, vs4, he4, hz4, hd4⟩ := fl4Z.there
          have S4Z := J4Z.suite he4 hd4 naZ nLZ nFZ
          refine store_ok (X := X.suite a ((a, oe4) :: (X.pn ++ pinsZ))) (v := .ref a) S4Z hN hi (.inl hln) rfl (fun s5 S5 => ?_) (.inr hln)
          refine wpAny_mono ((hsu a oe4 cls d (X.pn ++ pinsZ) hz4 ⟨_, hd4⟩).run [] s5 _ H' _ S5 (hyes rfl a naZ)) (fun f s6Z hspZ => ?_) (fun _ _ z => False.elim z)
          have end_ : ∀ {σ6 : L2.St} {H6 : Hp} {Q : Shared → Prop}, Inv (X.suite a ((a, oe4) :: (X.pn ++ pinsZ))) [] σ6 H6 s6Z → (∀ s7, Inv X pinsZ (List.set σ6 i none) H6 s7 → Q s7) →
              wpAny (model X.prog X.w) X.A (do bindName X.env n .none; unbindBehindTheSuite X.env n pos') (fun _ s7 => Q s7) X.xe s6Z := fun {σ6 H6 Q} S6Z hq => gone_ok (S6Z.unsuite okZ) hN hi hln hq
          cases f with
          | next =>
            obtain ⟨σ6, H6, S6Z, q6Z⟩ := hspZ
            exact end_ S6Z fun s7 J7 => ⟨_, _, J7, q6Z⟩
          | brk =>
            obtain ⟨σ6, H6, S6Z, q6Z⟩ := hspZ
            exact end_ S6Z fun s7 J7 => ⟨_, _, J7, q6Z⟩
          | cont =>
            obtain ⟨σ6, H6, S6Z, q6Z⟩ := hspZ
            exact end_ S6Z fun s7 J7 => ⟨_, _, J7, q6Z⟩
          | ret u =>
            obtain ⟨v6, σ6, H6, S6Z, r6, q6Z⟩ := hspZ
            exact end_ S6Z fun s7 J7 => ⟨_, _, _, J7, r6, q6Z⟩
        | false =>
          exact ih (hno rfl)
    exact go hh w
  · cases f with
    | next =>
      obtain ⟨σ', H', JZ', q⟩ := hspZ
      exact wpAny_execs_nil ⟨σ', H', JZ'.ofTry okZ, q⟩
    | brk =>
      obtain ⟨σ', H', JZ', q⟩ := hspZ
      exact ⟨σ', H', JZ'.ofTry okZ, q⟩
    | cont =>
      obtain ⟨σ', H', JZ', q⟩ := hspZ
      exact ⟨σ', H', JZ'.ofTry okZ, q⟩
    | ret u =>
      obtain ⟨v, σ', H', JZ', r, q⟩ := hspZ
      exact ⟨v, σ', H', JZ'.ofTry okZ, r, q⟩
end
end VL
end
section
set_option Elab.async false
set_option linter.all false
set_option maxRecDepth 100000
set_option maxHeartbeats 1000001
namespace PySem.OwnErr
open PySem.W PyProof.Rows PySem.Calls PySem.Spec PySem
/-! ### isinstance of a caught own exception that has a dict -/
section
variable {prog : Program} {w : World} {A : Around} {E : Value → Shared → Prop} {s : Shared} {K : Frag} {x D : Addr} {ox : Obj} {ob : Option Obj}
theorem findObj_dataX {C : Addr} {name : Str} {a g : Value} (hc : (clsIn K C).isSome = true) (ha : findIn K (.ref C) name = some (some a)) (hg : specialIn K a "__get__" = some (some g)) (ht : takesIn K a = some true) : findObj K C ob name = some (.bind g a) := by
  obtain ⟨cd, hcd⟩ := Option.isSome_iff_exists.mp hc
  unfold findObj
  rw [hcd, Option.bind_some, ha, Option.bind_some]; simp [hg, ht]
theorem kin_classX {Q : Option Value → Shared → Prop} (C : L2.ExcC K D)
    (Y : K.In s.heap) (I : InstAt s.heap x ox D ob) (h : Q (some (.ref D)) { s with toks := s.toks + 1 }) : wpAny (model prog w) A (getAttr? (.ref x) "__class__") Q E s := by
  have hfo : findObj K D ob "__class__" = some (.bind (.builtin "getset_descriptor.__get__") (.builtin "object.__class__")) := findObj_dataX (by obtain ⟨cd, hc, _⟩ := any_some C.hd; rw [hc]; rfl) C.ha C.hn C.ht
  obtain ⟨hp, g, d, t, os⟩ := s
  have K0 := I.type (M := model prog w)
  have K1 := looks_findIn (M := model prog w) Y C.hg
  have K2 := looks_findIn (M := model prog w) Y C.hk
  have K3 := looks_find (M := model prog w) Y I hfo
  have subE : Looks (model prog w) hp (isInstance (.ref x) (.type "BaseException")) true := K0.andThen (looks_subIn Y C.hs)
  have y0 : (false && onTheHeap (Value.builtin "BaseException.__getattribute__")) = false := rfl
  have y2 : (Value.builtin "BaseException.__getattribute__" == Value.builtin "object.__getattribute__") = false := by decide +kernel
  have y1 : (onTheHeap (Value.ref D) && Value.builtin "BaseException.__getattribute__" == Value.builtin "object.__getattribute__") = false := by rw [y2]; rfl
  unfold getAttr? getAttrBy? getAttrBy; refine wpAny_bind (wpAny_mkText (wpAny_bind (wpAny_attempt (wpAny_holding (wpAny_bind (K0.at (wpAny_bind (K1.at ?_))))))))
  show wpAny _ _ (if (onTheHeap (Value.ref D) && Value.builtin "BaseException.__getattribute__" == Value.builtin "object.__getattribute__") = true then _ else _) _ _ _; rw [y1, if_neg Bool.false_ne_true]; unfold getAttrByItsOwn hookBefore
  refine wpAny_bind ?_
  rw [if_pos (show onTheHeap (Value.ref D) = true from rfl)]; refine K2.at ?_
  refine wpAny_bind (wpAny_attempt (wpAny_holding ?_)); unfold callGetattribute
  rw [y0, if_neg Bool.false_ne_true]; unfold boundAndCalled
  rw [PySem.F.excAttr_ValueError.ga.bind (.ref x)]; refine wpAny_bind (wpAny_pure ?_)
  show wpAny _ _ (call (.builtin "BaseException.__getattribute__") [.ref x, .str "__class__" t]) _ _ _; refine wpAny_call (codeAny_call_builtin PySem.F.excAttr_ValueError.ga.plain PySem.F.entry_bexc_ga ?_)
  refine @check_slot (model prog w) _ _ ⟨hp, g, d, t + 1, os⟩ "BaseException.__getattribute__" "BaseException" "__getattribute__" (.ref x) [.str "__class__" t] [] _ (by decide +kernel) (by decide +kernel) subE (PySem.F.args_bexc_ga (.ref x) (.str "__class__" t)) ?_
  unfold Builtin.«object.__getattribute__»; refine wpAny_bind (wpAny_of_eq (a := ((Value.ref x : Value), [Value.str "__class__" t])) (by first | rfl | (simp only [slotArgs]; rfl)) ?_)
  refine wpAny_bind (wpAny_pure (wpAny_bind (K0.at (wpAny_bind (K3.at ?_)))))
  show wpAny _ _ (holding [Value.builtin "object.__class__"] (call (.builtin "getset_descriptor.__get__") [.builtin "object.__class__", .ref x, .ref D]) >>= ret) _ _ _; refine wpAny_bind (wpAny_holding (wpAny_call (class_get (s := ⟨hp, g, d, t + 1, os⟩) (ox := ox) (od := ob) Y I C.hm ?_)))
  refine wpAny_pure ?_
  show wpAny _ _ (handedOut (.ref D)) _ _ _; rw [handedOut_of (v := .ref D) rfl]
  first
    | exact wpAny_pure (wpAny_pure (id h))
    | exact wpAny_pure h
    | exact wpAny_pure (wpAny_bind (wpAny_pure (wpAny_pure (id h))))
theorem kitX_exc (C : L2.ExcC K D) : KitX K (.ref x) (.ref D) (fun h => ∃ ox ob, InstAt h x ox D ob) where
  ty := fun _ _ _ ⟨_, _, I⟩ => I.type
  it := fun _ _ X _ => by
    obtain ⟨cdD, hcD, _⟩ := any_some C.hd
    unfold clsIn at hcD
    split at hcD
    · rename_i c' d' cd' sl' ho
      intro A' Q' E' s' k q; unfold isType loadHead
      exact wpAny_bind (wpAny_loadPart (k _ _ (X _ _ ho)) (wpAny_pure (id q)))
    · cases hcD
  ne := fun hh tp dq its n sl X htp => by
    obtain ⟨cdD, hcD, _⟩ := any_some C.hd
    refine Bool.eq_false_iff.mpr fun q => ?_; have e : D = tp := Value.ref.inj (beq_iff_eq.mp q)
    subst e; unfold clsIn at hcD
    split at hcD
    · rename_i c' d' cd' sl' ho
      cases (X _ _ ho).symm.trans htp
    · cases hcD
  ca := fun X ⟨_, _, I⟩ k => kin_classX C X I k
end
end PySem.OwnErr
namespace VL
open PySem L2 PySem.Spec PyProof.Rows PySem.OwnErr
def rIsX (K : PySem.W.Frag) (D a : Addr) (od : Option Addr) : List V → Hp → VK → Prop := fun xs H Q => (∀ dd, od = some dd → ∃ fs, H dd = some (.xd fs)) ∧
  ((∃ (c : V) (u : Value) (b : Bool), xs = [.ref a, c] ∧ ClsV c u ∧ PySem.W.kitOne K (.ref D) u = some b ∧ Q (.bl b) H) ∨
   (∃ (tp : Addr) (cs : List V) (us : List Value) (b : Bool), xs = [.ref a, .ref tp] ∧ H tp = some (.tup cs) ∧ Paired ClsV cs us ∧ PySem.W.kitAny K (.ref D) us = some b ∧ Q (.bl b) H))
theorem call_isX {X : Cx} {a D : Addr} {oe : Obj} {od : Option Addr} {pn : List (Addr × Obj)} (C : ExcC X.K D) (hz : Zc (.ref D) od oe) (hf : ∃ vs, oe.data = .fields vs) : CallR (X.suite a ((a, oe) :: pn)) (.builtin "isinstance") (rIsX X.K D a od) := by
  intro pins s σ H xs us Q I r h; obtain ⟨hd, h⟩ := h
  obtain ⟨hget, _⟩ := I.pin (a, oe) (List.mem_append.mpr (.inl List.mem_cons_self)); obtain ⟨vs, hv⟩ := hf
  have J : ∃ ox ob, PySem.W.InstAt s.heap a ox D ob := by
    cases od with
    | none =>
      obtain ⟨oc, odd, oda, osl⟩ := oe
      obtain ⟨h1, h2⟩ := hz
      dsimp only at h1 h2 hv
      subst h1 h2 hv
      exact ⟨_, none, hget, rfl, rfl, trivial⟩
    | some dd =>
      obtain ⟨fs, hfs⟩ := hd dd rfl
      obtain ⟨mA, hns, _⟩ := (show ObjOk X.prog X.w H s.heap dd (.xd fs) from I.hok dd _ hfs)
      obtain ⟨ob, ho, _⟩ := lookIn_ns hns
      exact ⟨oe, some ob, hget, hz.1, by unfold PySem.W.notCls; rw [hv] <;> rfl, by rw [hz.2]; exact ho⟩
  rcases h with ⟨c, u, b, rfl, k, e, q⟩ | ⟨tp, cs, ws, b, rfl, hT, k, e, q⟩
  · obtain ⟨u1, u2, rfl, r1, r2⟩ := vals2 r
    cases r1
    have e2 := k.eq r2
    subst e2
    exact PySem.W.kia_one (kitX_exc C) I.kIn J e (fun z => nomatch z) fun tk => ⟨.bl b, H, I.tok tk, rfl, q⟩
  · obtain ⟨u1, u2, rfl, r1, r2⟩ := vals2 r
    cases r1
    cases (show u2 = Value.ref tp from r2); obtain ⟨_, its, rv, o, h1, h2, n, h3⟩ := (show ObjOk X.prog X.w H s.heap tp (.tup cs) from I.hok tp _ hT)
    have e3 := ClsV.all k rv
    subst e3
    obtain ⟨oc, odd, dt, sl⟩ := o
    simp only at h2 h3
    subst h2 h3
    exact PySem.W.kia_tup (kitX_exc C) I.kIn J h1 e (fun z => nomatch z) fun tk => ⟨.bl b, H, I.tok tk, rfl, q⟩
end VL
end
section
set_option Elab.async false
set_option linter.all false
set_option maxRecDepth 100000
namespace VL
open PySem L2
/-! ### what an except suite holds -/
def Ly.wx (L : Ly) (a : Addr) (cls : Value) (d : Option Addr) : Ly := { L with sx := some (a, cls, d) }
mutual
/-- no caught exception within -/
def D.nox : D → Bool
  | .tup ds => noxL ds
  | .lst _ ds => noxL ds
  | .ext ds => noxL ds
  | .dct _ _ ds => noxL ds
  | .obj _ _ _ ds => noxL ds
  | .exn _ _ _ => false
  | _ => true
def noxL : List D → Bool
  | [] => true
  | d :: ds => d.nox && noxL ds
end
/-- the names that a suite leaves -/
def unx (ρ : Env) : Env := ρ.map fun o => match o with
  | some d => if d.nox = true then some d else none
  | none => none
section
variable {L : Ly} {F : AP} {H : Hp} {a0 : Addr} {c0 : Value} {d0 : Option Addr}
mutual
theorem Rep.toX (hx : L.sx = none) : ∀ (d : D) {v : V} {f : Fp}, Rep L F H d v f → Rep (L.wx a0 c0 d0) F H d v f
  | .non, _, _, h => h
  | .bl _, _, _, h => h
  | .int _, _, _, h => h
  | .str _, _, _, h => h
  | .cls _, _, _, h => h
  | .ty _, _, _, h => h
  | .tup ds, _, _, ⟨a, vs, e, q, r⟩ => ⟨a, vs, e, q, Reps.toX hx ds r⟩
  | .lst true ds, _, _, ⟨a, vs, g, e, q, ef, r⟩ => ⟨a, vs, g, e, q, ef, Reps.toX hx ds r⟩
  | .lst false ds, _, _, ⟨a, vs, e, q, r⟩ => ⟨a, vs, e, q, Reps.toX hx ds r⟩
  | .ext ds, _, _, ⟨a, vs, e, q, r⟩ => ⟨a, vs, e, q, Reps.toX hx ds r⟩
  | .dct true ks ds, _, _, ⟨a, vs, g, e, q, hl, ef, r⟩ => ⟨a, vs, g, e, q, hl, ef, Reps.toX hx ds r⟩
  | .dct false ks ds, _, _, ⟨a, vs, e, q, hf, hl, r⟩ => ⟨a, vs, e, q, hf, hl, Reps.toX hx ds r⟩
  | .obj true c ns ds, _, _, ⟨a, dx, vs, g, e, q, hl, ef, r⟩ => ⟨a, dx, vs, g, e, q, hl, ef, Reps.toX hx ds r⟩
  | .obj false c ns ds, _, _, ⟨a, dx, vs, e, q, hf, hl, r⟩ => ⟨a, dx, vs, e, q, hf, hl, Reps.toX hx ds r⟩
  | .exn c ns ds, _, _, ⟨a, d1, e1, _, _⟩ => by
      rw [hx] at e1
      exact nomatch e1
theorem Reps.toX (hx : L.sx = none) : ∀ (ds : List D) {vs : List V} {f : Fp}, Reps L F H ds vs f → Reps (L.wx a0 c0 d0) F H ds vs f
  | [], _, _, h => h
  | d :: ds, _, _, ⟨v, ws, g, h, e, ef, r1, r2⟩ => ⟨v, ws, g, h, e, ef, Rep.toX hx d r1, Reps.toX hx ds r2⟩
end
mutual
theorem Rep.ofX : ∀ (d : D) {v : V} {f : Fp}, d.nox = true → Rep (L.wx a0 c0 d0) F H d v f → Rep L F H d v f
  | .non, _, _, _, h => h
  | .bl _, _, _, _, h => h
  | .int _, _, _, _, h => h
  | .str _, _, _, _, h => h
  | .cls _, _, _, _, h => h
  | .ty _, _, _, _, h => h
  | .tup ds, _, _, n, ⟨a, vs, e, q, r⟩ => ⟨a, vs, e, q, Reps.ofX ds n r⟩
  | .lst true ds, _, _, n, ⟨a, vs, g, e, q, ef, r⟩ => ⟨a, vs, g, e, q, ef, Reps.ofX ds n r⟩
  | .lst false ds, _, _, n, ⟨a, vs, e, q, r⟩ => ⟨a, vs, e, q, Reps.ofX ds n r⟩
  | .ext ds, _, _, n, ⟨a, vs, e, q, r⟩ => ⟨a, vs, e, q, Reps.ofX ds n r⟩
  | .dct true ks ds, _, _, n, ⟨a, vs, g, e, q, hl, ef, r⟩ => ⟨a, vs, g, e, q, hl, ef, Reps.ofX ds n r⟩
  | .dct false ks ds, _, _, n, ⟨a, vs, e, q, hf, hl, r⟩ => ⟨a, vs, e, q, hf, hl, Reps.ofX ds n r⟩
  | .obj true c ns ds, _, _, n, ⟨a, dx, vs, g, e, q, hl, ef, r⟩ => ⟨a, dx, vs, g, e, q, hl, ef, Reps.ofX ds n r⟩
  | .obj false c ns ds, _, _, n, ⟨a, dx, vs, e, q, hf, hl, r⟩ => ⟨a, dx, vs, e, q, hf, hl, Reps.ofX ds n r⟩
  | .exn c ns ds, _, _, n, _ => by simp [D.nox] at n
theorem Reps.ofX : ∀ (ds : List D) {vs : List V} {f : Fp}, noxL ds = true → Reps (L.wx a0 c0 d0) F H ds vs f → Reps L F H ds vs f
  | [], _, _, _, h => h
  | d :: ds, _, _, n, ⟨v, ws, g, h, e, ef, r1, r2⟩ => by
      have n' : d.nox = true ∧ noxL ds = true := by simpa [noxL] using n
      exact ⟨v, ws, g, h, e, ef, Rep.ofX d n'.1 r1, Reps.ofX ds n'.2 r2⟩
end
theorem EnvR.toX (hx : L.sx = none) : ∀ {ρ : Env} {σ : L2.St} {f : Fp}, EnvR L F H ρ σ f → EnvR (L.wx a0 c0 d0) F H ρ σ f
  | [], _, _, h => h
  | none :: ρ, _, _, ⟨x, t, e, h⟩ => ⟨x, t, e, EnvR.toX hx h⟩
  | some d :: ρ, _, _, ⟨v, σ, g, h, e, ef, r1, r2⟩ => ⟨v, σ, g, h, e, ef, Rep.toX hx d r1, EnvR.toX hx r2⟩
theorem EnvR.ofX : ∀ {ρ : Env} {σ : L2.St} {f : Fp}, EnvR (L.wx a0 c0 d0) F H ρ σ f → ∃ g, EnvR L F H (unx ρ) σ g ∧ ∀ a, g a ≤ f a
  | [], _, f, h => ⟨f, h, fun _ => Nat.le_refl _⟩
  | none :: ρ, _, _, ⟨x, t, e, h⟩ => by
      obtain ⟨g, h1, h2⟩ := EnvR.ofX h
      exact ⟨g, ⟨x, t, e, h1⟩, h2⟩
  | some d :: ρ, _, _, ⟨v, σ, g, h, e, ef, r1, r2⟩ => by
      obtain ⟨g1, h1, h2⟩ := EnvR.ofX r2
      by_cases n : d.nox = true
      · refine ⟨fadd g g1, ?_, fun a => by have := h2 a; rw [ef, fadd_at, fadd_at]; omega⟩
        show EnvR L F H ((if d.nox = true then some d else none) :: unx ρ) _ _
        rw [if_pos n]
        exact ⟨v, σ, g, g1, e, rfl, Rep.ofX d n r1, h1⟩
      · refine ⟨g1, ?_, fun a => by have := h2 a; rw [ef, fadd_at]; omega⟩
        show EnvR L F H ((if d.nox = true then some d else none) :: unx ρ) _ _
        rw [if_neg n]
        exact ⟨some v, σ, e, h1⟩
end

/-! ### try -/
abbrev ClM := Tag × Option Nat × SM
/-- behind a suite -/
def exitM (o : Option Nat) (r : SR) : SR := match r with
  | .nx ρ => .nx (offE o (unx ρ))
  | .bk ρ => .bk (offE o (unx ρ))
  | .ct ρ => .ct (offE o (unx ρ))
  | .rt d ρ => if d.nox = true then .rt d (offE o (unx ρ)) else .bad
  | .exc _ _ => .bad
  | .bad => .bad
where offE : Option Nat → Env → Env
  | none, ρ => ρ
  | some i, ρ => ρ.set i none
def onE (o : Option Nat) (e : Ex) (ρ : Env) : Env := match o with
  | none => ρ
  | some i => ρ.set i (some (.exn e.c e.ns e.ds))
def handM (T : Tab) (e : Ex) (ρ : Env) : List ClM → SR
  | [] => .exc e ρ
  | (t, o, m) :: r => match tabGet T (.inr e.c) t with
    | some true => exitM o (m (onE o e ρ))
    | some false => handM T e ρ r
    | none => .bad
def tryM (T : Tab) (m : SM) (cl : List ClM) : SM := fun ρ => match m ρ with
  | .exc e ρ1 => handM T e ρ1 cl
  | r => r
structure TabX (L : Ly) (T : Tab) : Prop where
  ok : ∀ x ∈ T, PySem.W.exmOne L.K (Tag.val L x.1.1) (Tag.val L x.1.2) = some x.2
inductive HdV (X : Cx) (L : Ly) (S : List Nat) : List ExceptHandler → List ClM → Prop
  | nil : HdV X L S [] []
  | plain {x : Str} {t : Tag} {m : SM} {b₀ : Stmt} {suite : List Stmt} {np pos' : Pos} {hds : List ExceptHandler} {l : List ClM} (hc : Names X x (Tag.val L t))
      (hsu : ∀ (a : Addr) (oe : Obj) (cls : Value) (d : Option Addr) (pn : List (Addr × Obj)), Zc cls d oe → (∃ vs, oe.data = .fields vs) → PSs (X.suite a ((a, oe) :: pn)) (b₀ :: suite) (tS (L.wx a cls d) W0 S m)) (r : HdV X L S hds l) :
      HdV X L S (.ExceptHandler (some (.Name x np)) none (b₀ :: suite) pos' :: hds) ((t, none, m) :: l)
  | named {x n : Str} {i : Nat} {t : Tag} {m : SM} {b₀ : Stmt} {suite : List Stmt} {np pos' : Pos} {hds : List ExceptHandler} {l : List ClM} (hS : i ∉ S) (hi : X.N[i]? = some n) (hln : X.env.kindOf n = some .local) (hc : Names X x (Tag.val L t))
      (hsu : ∀ (a : Addr) (oe : Obj) (cls : Value) (d : Option Addr) (pn : List (Addr × Obj)), Zc cls d oe → (∃ vs, oe.data = .fields vs) → PSs (X.suite a ((a, oe) :: pn)) (b₀ :: suite) (tS (L.wx a cls d) W0 S m)) (r : HdV X L S hds l) :
      HdV X L S (.ExceptHandler (some (.Name x np)) (some n) (b₀ :: suite) pos' :: hds) ((t, some i, m) :: l)
def clOf (L : Ly) (S : List Nat) (x : ClM) : Cl := (Tag.val L x.1, x.2.1, fun a cls d => tS (L.wx a cls d) W0 S x.2.2)
section
variable {X : Cx} {L : Ly} {W : WX} {S : List Nat} {body : List Stmt} {h₀ : ExceptHandler} {hds : List ExceptHandler} {l : List ClM} {pos : Pos} {m : SM} {T : Tab}
theorem HdV.mix {hds : List ExceptHandler} {l : List ClM} (h : HdV X L S hds l) : HdsX X hds (l.map (clOf L S)) := by
  induction h with
  | nil => exact .nil
  | plain hc hsu r ih => exact .plain hc hsu ih
  | named hS hi hln hc hsu r ih => exact .named hi hln hc hsu ih
theorem HdV.free {hds : List ExceptHandler} {l : List ClM} (h : HdV X L S hds l) : ∀ x ∈ l, ∀ i, x.2.1 = some i → i ∉ S := by
  induction h with
  | nil => exact fun x hx => nomatch hx
  | plain hc hsu r ih =>
    intro x hx i e
    rcases List.mem_cons.mp hx with rfl | hy
    · exact nomatch e
    · exact ih x hy i e
  | named hS hi hln hc hsu r ih =>
    intro x hx i e
    rcases List.mem_cons.mp hx with rfl | hy
    · obtain rfl := Option.some.inj e
      exact hS
    · exact ih x hy i e
theorem exn_rep {F : AP} {H : Hp} {e : Ex} {cls : Value} {d0 : Option Addr} {a : Addr} (hx : L.sx = none) (h : ExR L F H e cls d0) : Rep (L.wx a cls d0) F H (.exn e.c e.ns e.ds) (.ref a) f0 := by
  obtain ⟨rfl, h⟩ := h
  refine ⟨a, d0, rfl, rfl, ?_⟩
  rcases h with ⟨dd, vs, e1, e2, hl, r⟩ | ⟨e1, e2, e3⟩
  · exact .inl ⟨dd, vs, e1, e2, hl, Reps.toX hx _ r⟩
  · exact .inr ⟨e1, e2, e3, rfl⟩
theorem hand_ok (hx : L.sx = none) (hK : L.K = X.K) (tx : TabX L T) {Kp F F' : AP} {H H' : Hp} {σ σ' : L2.St} {D : Ends} {e : Ex} {ρ : Env} {f : Fp} {cls : Value} {d0 : Option Addr} (E : EnvR L F' H' ρ σ' f) (G : Good Kp F' H' f) (s : Stp Kp F H F' H') (k : KeepS S σ σ') (x : ExR L F' H' e cls d0) :
    ∀ (l : List ClM), (∀ x ∈ l, ∀ i, x.2.1 = some i → i ∉ S) → PostS L W S Kp F H σ D (handM T e ρ l) → wMix X.K W D (l.map (clOf L S)) cls d0 σ' H'
  | [], _, p => p F' H' σ' f cls d0 E G s k x
  | (t, o, m) :: r, hS, p => by
      unfold handM at p
      cases eb : tabGet T (.inr e.c) t with
      | none => rw [eb] at p; exact p.elim
      | some b =>
        rw [eb] at p
        have kk := tx.ok _ (lookup_mem eb)
        refine ⟨b, by rw [← hK, x.1]; exact kk, fun hb => ?_, fun hb => ?_⟩
        · subst hb
          dsimp only at p
          have st : ∀ {F2 : AP} {H2 : Hp}, Stp Kp F' H' F2 H2 → Stp Kp F H F2 H2 := fun s2 => s.trans s2 fun _ y => y
          cases o with
          | none =>
            intro a na
            refine ⟨Kp, F', ρ, f, E.toX hx, G, ?_⟩
            show PostS (L.wx a cls d0) W0 S Kp F' H' σ' D (m ρ)
            have p : PostS L W S Kp F H σ D (exitM none (m ρ)) := p
            cases em : m ρ with
            | nx ρ2 =>
              rw [em] at p
              intro F2 H2 σ2 f2 E2 G2 s2 k2
              obtain ⟨g2, E3, l3⟩ := E2.ofX
              exact p F2 H2 σ2 g2 E3 (G2.le l3) (st s2) (k.trans k2)
            | bk ρ2 =>
              rw [em] at p
              intro F2 H2 σ2 f2 E2 G2 s2 k2
              obtain ⟨g2, E3, l3⟩ := E2.ofX
              exact p F2 H2 σ2 g2 E3 (G2.le l3) (st s2) (k.trans k2)
            | ct ρ2 =>
              rw [em] at p
              intro F2 H2 σ2 f2 E2 G2 s2 k2
              obtain ⟨g2, E3, l3⟩ := E2.ofX
              exact p F2 H2 σ2 g2 E3 (G2.le l3) (st s2) (k.trans k2)
            | rt d ρ2 =>
              rw [em] at p
              unfold exitM at p
              by_cases hn : d.nox = true
              · simp only [if_pos hn] at p
                intro F2 H2 σ2 f2 v g E2 r2 G2 s2 k2
                obtain ⟨g2, E3, l3⟩ := E2.ofX
                exact p F2 H2 σ2 g2 v g E3 (r2.ofX d hn) (G2.le fun a => Nat.add_le_add_right (l3 a) _) (st s2) (k.trans k2)
              · simp only [if_neg hn] at p
                exact p.elim
            | exc e2 ρ2 => rw [em] at p; exact p.elim
            | bad => rw [em] at p; exact p.elim
          | some i =>
            have hi := hS _ List.mem_cons_self i rfl
            intro a na
            obtain ⟨f1, E1, l1⟩ := (E.toX (a0 := a) (c0 := cls) (d0 := d0) hx).put' (i := i) (exn_rep (a := a) hx x)
            have k1 : KeepS S σ' (List.set σ' i (some (.ref a))) := KeepS.set hi
            refine ⟨Kp, F', _, f1, E1, G.le fun a => by have := l1 a; rw [f0_at] at this; omega, ?_⟩
            show PostS (L.wx a cls d0) W0 S Kp F' H' (List.set σ' i (some (.ref a))) (endsOff i D) (m (List.set ρ i (some (.exn e.c e.ns e.ds))))
            have p : PostS L W S Kp F H σ D (exitM (some i) (m (List.set ρ i (some (.exn e.c e.ns e.ds))))) := p
            have off : ∀ {F2 : AP} {H2 : Hp} {σ2 : L2.St} {ρ2 : Env} {f2 : Fp}, EnvR (L.wx a cls d0) F2 H2 ρ2 σ2 f2 → ∃ g2, EnvR L F2 H2 (List.set (unx ρ2) i none) (List.set σ2 i none) g2 ∧ ∀ a, g2 a ≤ f2 a := fun {F2 H2 σ2 ρ2 f2} E2 => by
              obtain ⟨g2, E3, l3⟩ := E2.ofX
              obtain ⟨g3, E4, l4⟩ := E3.drop i
              refine ⟨g3, E4.any ?_, fun a => Nat.le_trans (l4 a) (l3 a)⟩
              rw [at_set_none, if_pos rfl]
            have kk2 : ∀ {σ2 : L2.St}, KeepS S (List.set σ' i (some (.ref a))) σ2 → KeepS S σ (List.set σ2 i none) := fun k2 => (k.trans k1).trans (k2.trans (KeepS.set hi))
            cases em : m (List.set ρ i (some (.exn e.c e.ns e.ds))) with
            | nx ρ2 =>
              rw [em] at p
              intro F2 H2 σ2 f2 E2 G2 s2 k2
              obtain ⟨g2, E3, l3⟩ := off E2
              exact p F2 H2 _ g2 E3 (G2.le l3) (st s2) (kk2 k2)
            | bk ρ2 =>
              rw [em] at p
              intro F2 H2 σ2 f2 E2 G2 s2 k2
              obtain ⟨g2, E3, l3⟩ := off E2
              exact p F2 H2 _ g2 E3 (G2.le l3) (st s2) (kk2 k2)
            | ct ρ2 =>
              rw [em] at p
              intro F2 H2 σ2 f2 E2 G2 s2 k2
              obtain ⟨g2, E3, l3⟩ := off E2
              exact p F2 H2 _ g2 E3 (G2.le l3) (st s2) (kk2 k2)
            | rt d ρ2 =>
              rw [em] at p
              unfold exitM at p
              by_cases hn : d.nox = true
              · simp only [if_pos hn] at p
                intro F2 H2 σ2 f2 v g E2 r2 G2 s2 k2
                obtain ⟨g2, E3, l3⟩ := off E2
                exact p F2 H2 _ g2 v g E3 (r2.ofX d hn) (G2.le fun a => Nat.add_le_add_right (l3 a) _) (st s2) (kk2 k2)
              · simp only [if_neg hn] at p
                exact p.elim
            | exc e2 ρ2 => rw [em] at p; exact p.elim
            | bad => rw [em] at p; exact p.elim
        · subst hb
          exact hand_ok hx hK tx E G s k x r (fun x hx => hS x (List.mem_cons_of_mem _ hx)) p
theorem ss_try (hx : L.sx = none) (hK : L.K = X.K) (tx : TabX L T) (hs : X.stack = X.env :: X.outer) (hf : X.env.frame = some X.env.locals) (hN : X.N.Nodup) (tk : Takes X W)
    (hb : ∀ (W : WX) (pn : List (Addr × Obj)) (xe : Value → Shared → Prop), Takes (X.tr pn xe) W → PassesOwn (model X.prog X.w) X.A X.env xe → PSs (X.tr pn xe) body (tS L W S m))
    (hh : HdV X L S (h₀ :: hds) l) : PS X (.Try body (h₀ :: hds) [] [] pos) (tS L W S (tryM T m l)) := (ps_try_mix hs hf hN tk hb hh.mix).imp fun D σ H ⟨Kp, F, ρ, g, E, G, p⟩ => by
  refine ⟨Kp, F, ρ, g, E, G, ?_⟩
  unfold tryM at p
  cases em : m ρ with
  | nx ρ1 => rw [em] at p; exact p
  | bk ρ1 => rw [em] at p; exact p
  | ct ρ1 => rw [em] at p; exact p
  | rt d ρ1 => rw [em] at p; exact p
  | bad => rw [em] at p; exact p
  | exc e ρ1 =>
    rw [em] at p
    exact fun F' H' σ' f cls d0 E' G' s' k' x => hand_ok hx hK tx E' G' s' k' x l hh.free p
end
end VL
end
section
set_option Elab.async false
set_option linter.all false
set_option maxRecDepth 100000
namespace VL
open PySem L2 PySem.OwnErr
/-! ### a caught error: its field, isinstance -/
structure XFld (K : PySem.W.Frag) (C : Addr) (fl : Str) : Prop where
  xa : PySem.W.findIn K (.ref C) "__getattribute__" = some (some (.builtin "BaseException.__getattribute__"))
  xg : PySem.W.findIn K (.ref C) "__getattr__" = some none
  xe : PySem.W.subIn K (.ref C) (.type "BaseException") = some true
  xh : PySem.W.hasDictIn K C = true
  xn : PySem.W.findIn K (.ref C) fl = some none
theorem _root_.PySem.OwnErr.ErrTxt.xfld {P : Program} {K : PySem.W.Frag} {fl : Str} {C fI : Addr} (T : ErrTxt P K fl C fI) : XFld K C fl := ⟨T.ga, T.gg, T.exC, T.hdC, T.noN⟩
def xfldP (cs : List Str) (fl : Str) (pa : PM) : PM := fun ρ => (pa ρ).bind fun d => match d with
  | .exn c ns ds => if c ∈ cs ∧ fl ∈ ns then ds[ns.idxOf fl]? else none
  | _ => none
def isxD (cs : List Str) (T : Tab) : List D → Option D
  | [.exn c ns ds, k] => if c ∈ cs then match k with
      | .tup ks => (isiD.anyD T (.inr c) ks).map .bl
      | k => (k.ctag.bind fun u => tabGet T (.inr c) u).map .bl
    else none
  | _ => none
def rIsV (K : PySem.W.Frag) (a : Addr) (cls : Value) (od : Option Addr) : List V → Hp → VK → Prop := fun xs H Q => ∃ D, cls = .ref D ∧ ExcC K D ∧ rIsX K D a od xs H Q
theorem call_isV {X : Cx} {a : Addr} {cls : Value} {oe : Obj} {od : Option Addr} {pn : List (Addr × Obj)} (hz : Zc cls od oe) (hf : ∃ vs, oe.data = .fields vs) : CallR (X.suite a ((a, oe) :: pn)) (.builtin "isinstance") (rIsV X.K a cls od) := by
  intro pins s σ H xs us Q I r h; obtain ⟨D, rfl, C, h⟩ := h
  exact call_isX C hz hf pins s σ H xs us Q I r h
section
variable {L : Ly} {T : Tab} {cs : List Str}
theorem eff_isV {a : Addr} {cls : Value} {d0 : Option Addr} (tk : TabOk L T) (hc : ∀ c ∈ cs, ExcC L.K (L.CT c)) : CallEff (L.wx a cls d0) (rIsV L.K a cls d0) (isxD cs T) := fun F H ds d vs g1 Q r e k => by
  match ds, e with
  | [.exn c ns xs, k0], e9 =>
    obtain ⟨v, v', g, g', rfl, rd, rk⟩ := Reps.two r
    obtain ⟨a1, d1, e1, rfl, hd⟩ := rd
    have es := Option.some.inj e1
    obtain ⟨rfl, es2⟩ := Prod.mk.inj es
    obtain ⟨ecl, ed⟩ := Prod.mk.inj es2
    have ecl : cls = .ref (L.CT c) := ecl
    subst ed
    simp only [isxD] at e9
    by_cases hcs : c ∈ cs
    · rw [if_pos hcs] at e9
      refine ⟨L.CT c, ecl, hc c hcs, ?_, ?_⟩
      · intro dd hdd
        rcases hd with ⟨dd', ws, h1, h2, _⟩ | ⟨h1, _⟩
        · rw [hdd] at h1
          obtain rfl := Option.some.inj h1
          exact ⟨_, h2⟩
        · rw [hdd] at h1
          exact nomatch h1
      · have one : ∀ k0 : D, Rep (L.wx a cls d0) F H k0 v' g' → ((k0.ctag.bind fun u => tabGet T (.inr c) u).map .bl = some d) →
            ∃ (cv : V) (u : Value) (b : Bool), [V.ref a, v'] = [.ref a, cv] ∧ ClsV cv u ∧ PySem.W.kitOne L.K (.ref (L.CT c)) u = some b ∧ Q (.bl b) H := fun k0 rk e => by
          obtain ⟨b, h1, rfl⟩ := Option.map_eq_some_iff.mp e
          obtain ⟨u, h0, h1⟩ := Option.bind_eq_some_iff.mp h1
          exact ⟨v', _, b, rfl, rk.clsv h0, tk.ok _ (lookup_mem h1), k _ H f0 (Same.refl H) New.zero ⟨rfl, rfl⟩⟩
        cases k0 with
        | tup ks =>
          obtain ⟨b, h1, rfl⟩ := Option.map_eq_some_iff.mp e9
          obtain ⟨tp, ws, rfl, hq, rr⟩ := rk
          have tk' : TabOk (L.wx a cls d0) T := ⟨fun x hx => by
            have := tk.ok x hx
            cases hx1 : x.1.1 <;> cases hx2 : x.1.2 <;> rw [hx1, hx2] at this <;> exact this⟩
          obtain ⟨_, us, p, q⟩ := any_ok tk' rr h1
          exact .inr ⟨tp, ws, us, b, rfl, hq, p, q, k _ H f0 (Same.refl H) New.zero ⟨rfl, rfl⟩⟩
        | _ => exact .inl (one _ rk e9)
    · rw [if_neg hcs] at e9
      exact nomatch e9
end
section
variable {X : Cx} {L : Ly} {pa : PM} {fl : Str} {cs : List Str}
theorem pp_xfld {a : Addr} {oe : Obj} {cls : Value} {d : Option Addr} {pn : List (Addr × Obj)} {e : Expr} {pos : Pos} (hL : L.K = X.K) (hcs : ∀ c ∈ cs, XFld L.K (L.CT c) fl) (hz : Zc cls d oe) (hf : ∃ vs, oe.data = .fields vs) (he : PE (X.suite a ((a, oe) :: pn)) e (tP (L.wx a cls d) pa))
    (hb : attributeBase e fl X.env (eval e X.env) = eval e X.env := by rfl) :
    PE (X.suite a ((a, oe) :: pn)) (.Attribute e fl pos) (tP (L.wx a cls d) (xfldP cs fl pa)) := by
  refine ⟨fun pins s σ H Q I ⟨F, ρ, g, d1, E, hp, k⟩ => ?_⟩
  obtain ⟨dv, h1, hp⟩ := Option.bind_eq_some_iff.mp hp
  refine attr_of hb (thn (he.run pins s σ H (fun v H1 => Same H H1 ∧ ∃ k1, Rep (L.wx a cls d) F H1 dv v k1) I ⟨F, ρ, g, dv, E, h1, fun v H1 k1 s1 r1 => ⟨s1, k1, r1⟩⟩) fun u s1 hh => ?_)
  obtain ⟨v, H1, I1, rx, s01, k1, r1⟩ := hh
  cases dv with
  | exn c ns ds =>
    dsimp only at hp
    by_cases hc : c ∈ cs ∧ fl ∈ ns
    · rw [if_pos hc] at hp
      obtain ⟨a1, d2, e1, rfl, hd⟩ := r1
      have es := Option.some.inj e1
      obtain ⟨rfl, es2⟩ := Prod.mk.inj es
      obtain ⟨ecl, ed⟩ := Prod.mk.inj es2
      have ecl : cls = .ref (L.CT c) := ecl
      subst ed
      cases (show u = Value.ref a from rx); rcases hd with ⟨dd, ws, rfl, h2, hl, rr⟩ | ⟨_, rfl, _⟩
      · obtain ⟨vv, gv, hv, rv, _⟩ := rr.get hp
        have lk : (ns.zip ws).lookup fl = some vv := zip_at hc.2 (hl.trans rr.length) hv
        obtain ⟨ha, _⟩ := I1.pin (a, oe) (List.mem_append_left _ List.mem_cons_self); obtain ⟨vs, hdt⟩ := hf
        have hx : ObjOk X.prog X.w H1 s1.heap dd (.xd (ns.zip ws)) := I1.hok dd _ h2
        obtain ⟨mA, hns, hr⟩ := hx
        obtain ⟨od, ho, hlk⟩ := lookIn_ns hns
        obtain ⟨u2, hu, ru⟩ := RelO.some_of (v := vv) (o := mA fl) (by rw [← lk]; exact hr fl)
        have J : PySem.W.InstAt s1.heap a oe (L.CT c) (some od) := ⟨ha, hz.1.trans ecl, by unfold PySem.W.notCls; rw [hdt] <;> rfl, by rw [hz.2]; exact ho⟩
        have T := hcs c hc.1
        rw [hL] at T
        exact HandSPX.exc_get I1.kIn J T.xa T.xg T.xe (PySem.W.findObj_own T.xh T.xn rfl (by rw [hlk, hu])) (handed_of ru) ⟨vv, H1, I1.tok _, ru, k vv H1 gv s01 rv⟩
      · exact absurd hc.2 (fun z => nomatch z)
    · rw [if_neg hc] at hp
      exact nomatch hp
  | _ => exact nomatch hp
end
end VL
end
section
set_option Elab.async false
set_option linter.all false
set_option maxRecDepth 100000
namespace VL
open PySem L2 PySem.Spec PyProof.Rows
/-! ### def __iter__(self): return iter(self.f) -/
theorem it_ok {P : Program} {w : World} {K : PySem.W.Frag} {mg : Str → Option Value} {base : Heap} {x qual : Str} {st : Stmt} {f C : Addr} {fd : FuncData} {N : List Str} {sf fld : Str} {k : Nat} (Fn : Fun K x qual st f fd) (Sc : FnScope N [sf] (defScope st)) (cl : Cls K C) (na : NoAttr K C fld)
    (hbody : ∀ (cdv : Value) (A : Around) (outer : List PySem.Env) (s : Shared) (H : Hp) (E : XK),
      PSs (cxOf (L2.CX P w) P w K mg base N qual (defScope st) f cdv A outer s H E) (defBody st) (tRet (tCB (rIter K) (tCons (tFld K (tVar 0) fld) tNil)))) :
    FnOk P w K mg base (L2.CX P w) (k + 1) f fd [sf] (spIt K C fld) := by
  refine Fn.okX Sc (fun vs H Q E h => ?_) (fun cdv A outer s H vs Q E hr h => ⟨_, hbody cdv A outer s H E, ?_⟩)
  · obtain ⟨a, dx, fs, l, ys, rfl, _⟩ := h
    rfl
  · obtain ⟨a, dx, fs, l, ys, rfl, ha, hl, sq, q⟩ := h
    exact ⟨.ref a, rfl, a, C, dx, fs, .ref l, rfl, ha, cl, na, hl, l, ys, rfl, sq, q⟩
/-- the rest of what a list's methods want for k31 -/
theorem nox_map {α : Type} (f : α → D) (h : ∀ x, (f x).nox = true) : ∀ l : List α, noxL (l.map f) = true
  | [] => rfl
  | x :: r => by
    show ((f x).nox && noxL (r.map f)) = true
    rw [h x, nox_map f h r]; rfl
theorem fro_map {α : Type} (f : α → D) (h : ∀ x, (f x).fro = true) : ∀ l : List α, froL (l.map f) = true
  | [] => rfl
  | x :: r => by
    show ((f x).fro && froL (r.map f)) = true
    rw [h x, fro_map f h r]; rfl
theorem own_map {α : Type} (f : α → D) (h : ∀ x, (f x).own = true) : ∀ l : List α, ownL (l.map f) = true
  | [] => rfl
  | x :: r => by
    show ((f x).own && ownL (r.map f)) = true
    rw [h x, own_map f h r]; rfl
theorem frz_map {α : Type} (f g : α → D) (h : ∀ x, (f x).frz = g x) : ∀ l : List α, frzL (l.map f) = l.map g
  | [] => rfl
  | x :: r => by
    show (f x).frz :: frzL (r.map f) = g x :: r.map g
    rw [h x, frz_map f g h r]
end VL
end
section
set_option Elab.async false
set_option linter.all false
set_option maxRecDepth 100000
namespace VL
open PySem L2
/-! ### an old thing as a value: the names that it comes from are locked -/
def lock1 (i : Nat) (ρ : Env) : Env := match ρ.at i with
  | some d => ρ.set i (some d.frz)
  | none => ρ
def lockE : List Nat → Env → Env
  | [], ρ => ρ
  | i :: is, ρ => lockE is (lock1 i ρ)
def liftA (is : List Nat) (p : PM) : EM := fun ρ => match p ρ with
  | some d => if d.fro = true then .ok d ρ else match p (lockE is ρ) with
      | some d' => if d'.fro = true then .ok d' (lockE is ρ) else .bad
      | none => .bad
  | none => .bad
section
variable {X : Cx} {L : Ly} {W : WX} {S : List Nat} {e : Expr} {pos : Pos} {pa : PM} {Kp F : AP} {H : Hp} {σ : L2.St}
theorem EnvR.lock1 {ρ : Env} {f : Fp} {i : Nat} (E : EnvR L F H ρ σ f) (G : Good Kp F H f) : ∃ F' f', EnvR L F' H (VL.lock1 i ρ) σ f' ∧ Good Kp F' H f' ∧ Stp Kp F H F' H := by
  unfold VL.lock1
  cases ei : ρ.at i with
  | none => exact ⟨F, f, E, G, Stp.refl⟩
  | some d =>
    obtain ⟨v, g, h, h1, h2, h3, h4, h5⟩ := E.get ei
    subst h2
    have hF : ∀ x, F x → F x ∨ 1 ≤ g x := fun x y => .inl y
    have r' : Rep L (fun x => F x ∨ 1 ≤ g x) H d.frz v f0 := Rep.lock hF d h3 fun x y => .inr y
    have hm : ∀ {ρ' : Env} {σ' : L2.St} {f' : Fp}, EnvR L F H ρ' σ' f' → EnvR L (fun x => F x ∨ 1 ≤ g x) H ρ' σ' f' := fun x => x.mono hF (fun _ _ x _ => x) fun _ _ _ x => x
    refine ⟨fun x => F x ∨ 1 ≤ g x, h, ?_, ⟨fun x => ?_, fun x y => ?_, G.kp, fun x y => ?_⟩, ⟨fun _ _ x _ => x, hF, fun x y => y.imp id fun y => (G.own x (by rw [fadd_at]; omega)).2.1⟩⟩
    · have q := (hm h4).fill h1 r'
      rw [f0_fadd] at q
      exact q
    · have := G.lin x; rw [fadd_at] at this; omega
    · have h1 := G.lin x
      have h2 := G.own x (by rw [fadd_at]; omega)
      rw [fadd_at] at h1
      exact ⟨fun z => z.elim h2.1 fun z => by omega, h2.2⟩
    · rcases y with y | y
      · exact G.fr x y
      · exact (G.own x (by rw [fadd_at]; omega)).2.2
theorem EnvR.lockE : ∀ {is : List Nat} {F : AP} {ρ : Env} {f : Fp}, EnvR L F H ρ σ f → Good Kp F H f → ∃ F' f', EnvR L F' H (VL.lockE is ρ) σ f' ∧ Good Kp F' H f' ∧ Stp Kp F H F' H
  | [], F, ρ, f, E, G => ⟨F, f, E, G, Stp.refl⟩
  | i :: is, F, ρ, f, E, G => by
      obtain ⟨F1, f1, E1, G1, s1⟩ := E.lock1 (i := i) G
      obtain ⟨F2, f2, E2, G2, s2⟩ := EnvR.lockE (is := is) E1 G1
      exact ⟨F2, f2, E2, G2, s1.trans s2 fun _ x => x⟩
theorem ee_lock {is : List Nat} (h : PE X e (tP L pa)) : PE X e (tD L W (liftA is pa)) := h.imp fun σ H Q ⟨Kp, F, ρ, g, E, G, p⟩ => by
  unfold liftA at p
  cases e1 : pa ρ with
  | none => rw [e1] at p; exact p.elim
  | some d =>
    rw [e1] at p
    dsimp only at p
    by_cases hf : d.fro = true
    · rw [if_pos hf] at p
      refine ⟨F, ρ, g, d, E, e1, fun v H' k s r => ?_⟩
      obtain rfl := Rep.fro0 d hf r
      exact p F H' g (E.same s) (Stp.same s) v f0 r (by rw [fadd_f0]; exact G.same s)
    · rw [if_neg hf] at p
      cases e2 : pa (lockE is ρ) with
      | none => rw [e2] at p; exact p.elim
      | some d' =>
        rw [e2] at p
        dsimp only at p
        by_cases hf' : d'.fro = true
        · rw [if_pos hf'] at p
          obtain ⟨F2, f2, E2, G2, s2⟩ := E.lockE (is := is) G
          refine ⟨F2, _, f2, d', E2, e2, fun v H' k s r => ?_⟩
          obtain rfl := Rep.fro0 d' hf' r
          exact p F2 H' f2 (E2.same s) (s2.trans (Stp.same s) fun _ x => x) v f0 r (by rw [fadd_f0]; exact G2.same s)
        · rw [if_neg hf'] at p
          exact p.elim
theorem imp_n : ∀ σ H Q, tD L W (liftN pa) σ H Q → tN L pa σ H Q := fun σ H Q ⟨Kp, F, ρ, g, E, G, p⟩ => by
  unfold liftN at p
  cases e : pa ρ with
  | none => rw [e] at p; exact p.elim
  | some d =>
    rw [e] at p
    exact ⟨F, ρ, g, d, E, e, fun v H' k s n r => p F H' g (E.same s) (Stp.same s) v k r (G.new s n)⟩
theorem ss_setLcN {elt tg iter : Expr} {ifs : List Expr} {scope : Scope} {own : List (Str × Nat)} {wi : TI} {f fe : PM} {gm : GM} {tc : PT'} {i : Nat} {y : Str} {py spos : Pos} (hS : i ∉ S) (hc : X.calm = true) (hN : X.N.Nodup) (hy : X.N[i]? = some y) (hyl : X.env.scope.names.lookup y = some .local) (hsw : swapsWith (.ListComp elt [⟨tg, iter, ifs, 0⟩] scope pos) (some (.Name y py)) spos.line X.env = pure true)
    (hi : PI X tg iter wi) (B : BlkN X L scope own tg elt ifs gm tc fe) (w : ∀ σ H Q, tN L f σ H Q → tLc wi (tGp L (wipeRl (own.map (·.2))) gm) (tPT L tc) (tN L fe) (own.map (·.2)) σ H Q)
    (hs : ∀ x, foldedSetIterable iter X.env x = pure x := by intro _; rfl) : PS X (.Assign [.Name y py] (.ListComp elt [⟨tg, iter, ifs, 0⟩] scope pos) spos) (tS L W S (setM i (liftN f))) :=
  (ps_setLc hc hN hy hyl hsw hi B.ok B.hg B.ht B.he hs).imp fun D σ H h => w σ H _ (imp_n σ H _ (imp_set hS D σ H h))
end
end VL
end
section
set_option Elab.async false
set_option linter.all false
set_option maxRecDepth 100000
namespace VL
open PySem L2
/-- a test that is never reached -/
def badT : PT' := fun _ => none
theorem pq_bad {X : Cx} {L : Ly} {e : Expr} : PT X e (tPT L badT) := ⟨fun pins s σ H Q I ⟨F, ρ, g, b, E, e, k⟩ => nomatch e⟩
theorem wipe_set (vs : List Nat) (i : Nat) (h : i ∈ vs) (σ : L2.St) (y : Option V) : L2.wipe (List.set σ i y) vs = L2.wipe σ vs := by
  apply List.ext_getElem?
  intro j
  by_cases hj : j ∈ vs
  · by_cases hl : j < σ.length
    · rw [wipe_in hj hl, wipe_in hj (by rw [List.length_set]; exact hl)]
    · rw [List.getElem?_eq_none (by rw [wipe_length, List.length_set]; omega), List.getElem?_eq_none (by rw [wipe_length]; omega)]
  · rw [wipe_out hj, wipe_out hj, List.getElem?_set_ne (fun e : i = j => hj (by rw [← e]; exact h))]
theorem wipe_nm {vs : List Nat} {i : Nat} (h : i ∈ vs) : ∀ (σ : L2.St) (y : Option V), wipeRl vs σ (List.set σ i y) := fun σ y => wipe_set vs i h σ y
end VL
end
section
set_option Elab.async false
set_option linter.all false
set_option maxRecDepth 100000
noncomputable section
namespace K31
open PySem L2 VL
def EXS_pair : List Str := ["NotJoined"]
def EXS_place : List Str := ["BadPlace"]
def EXS_number : List Str := ["BadCount"]
def EXS : List Str := ["NotJoined", "BadPlace", "BadCount"]
def tabI : Tab := [((.inl "int", .inl "int"), true), ((.inl "int", .inl "bool"), false), ((.inl "list", .inl "list"), true), ((.inl "tuple", .inl "tuple"), true), ((.inr "Floor", .inr "Floor"), true)]
def tabX : Tab := [((.inr "NotJoined", .inr "BadCount"), false), ((.inr "NotJoined", .inr "BadFloor"), false), ((.inr "NotJoined", .inr "BadPlace"), false), ((.inr "NotJoined", .inr "FitError"), true),
  ((.inr "BadPlace", .inr "BadCount"), false), ((.inr "BadPlace", .inr "BadFloor"), false), ((.inr "BadPlace", .inr "NotJoined"), false), ((.inr "BadPlace", .inl "ValueError"), true),
  ((.inr "BadCount", .inr "BadFloor"), false), ((.inr "BadCount", .inr "NotJoined"), false), ((.inr "BadCount", .inr "FitError"), true)]
def tabE : Tab := [((.inr "NotJoined", .inr "NotJoined"), true), ((.inr "BadPlace", .inr "BadPlace"), true), ((.inr "BadCount", .inr "BadPlace"), false), ((.inr "BadCount", .inr "BadCount"), true)]
def b_overlap : SM := (retM (liftN (opP ltD (callP max2D (consP (opP ixD (nP 0) (nP 2)) (consP (opP ixD (nP 1) (nP 2)) nilP))) (callP min2D (consP (opP ixD (nP 0) (opP addX (nP 2) (cP (.int 2)))) (consP (opP ixD (nP 1) (opP addX (nP 2) (cP (.int 2)))) nilP))))))
def m_overlap : List D → FR := mkF 3 3 [0, 1, 2] b_overlap
def b_Floor___len__ : SM := (retM (liftN (callP lenD (consP (fldP ["Floor"] "_rooms" (nP 0)) nilP))))
def m_Floor___len__ : List D → FR := mkF 1 1 [0] b_Floor___len__
def b_Floor___eq__ : SM := (retM (liftA [] (andP (callP (isiD tabI) (consP (nP 1) (consP (cP (.cls "Floor")) nilP))) (andP (opP eqD (fldP ["Floor"] "width" (nP 0)) (fldP ["Floor"] "width" (nP 1))) (andP (opP eqD (fldP ["Floor"] "height" (nP 0)) (fldP ["Floor"] "height" (nP 1))) (opP eqD (fldP ["Floor"] "_rooms" (nP 0)) (fldP ["Floor"] "_rooms" (nP 1))))))))
def m_Floor___eq__ : List D → FR := mkF 2 2 [0, 1] b_Floor___eq__
def b_Floor_room : SM := (retM (liftA [0] (opP ixD (fldP ["Floor"] "_rooms" (nP 0)) (nP 1))))
def m_Floor_room : List D → FR := mkF 2 2 [0, 1] b_Floor_room
def b_union_of : SM := (seqM (forM itT (liftA [] (tupP (consP (cP (.int 0)) (consP (cP (.int 1)) nilP)))) (nmG 2) (seqM (setM 3 (liftA [] (andP (opP eqD (opP ixD (nP 0) (opP subD (cP (.int 1)) (nP 2))) (opP ixD (nP 1) (opP subD (cP (.int 1)) (nP 2)))) (opP eqD (opP ixD (nP 0) (opP subD (cP (.int 3)) (nP 2))) (opP ixD (nP 1) (opP subD (cP (.int 3)) (nP 2))))))) (seqM (ifM (liftT (andT (valT (nP 3)) (valT (opP eqD (opP ixD (nP 0) (opP addX (nP 2) (cP (.int 2)))) (opP ixD (nP 1) (nP 2)))))) (retM (liftA [0, 1] (tupP (consP (opP ixD (nP 0) (cP (.int 0))) (consP (opP ixD (nP 0) (cP (.int 1))) (consP (opP ixD (nP 1) (cP (.int 2))) (consP (opP ixD (nP 1) (cP (.int 3))) nilP))))))) nxM) (ifM (liftT (andT (valT (nP 3)) (valT (opP eqD (opP ixD (nP 1) (opP addX (nP 2) (cP (.int 2)))) (opP ixD (nP 0) (nP 2)))))) (retM (liftA [1, 0] (tupP (consP (opP ixD (nP 1) (cP (.int 0))) (consP (opP ixD (nP 1) (cP (.int 1))) (consP (opP ixD (nP 0) (cP (.int 2))) (consP (opP ixD (nP 0) (cP (.int 3))) nilP))))))) nxM)))) (retM (liftA [] (cP .non))))
def m_union_of : List D → FR := mkF 2 4 [0, 1] b_union_of
def b__law_int : SM := (retM (liftA [] (andP (callP (isiD tabI) (consP (nP 0) (consP (cP (.ty "int")) nilP))) (notP (callP (isiD tabI) (consP (nP 0) (consP (cP (.ty "bool")) nilP)))))))
def m__law_int : List D → FR := mkF 1 1 [0] b__law_int
def b__law_state : SM := (seqM (setM 2 (liftA [] (cP (.int 0)))) (seqM (ifM (liftT (valT (opP ltD (nP 1) (callP lenD (consP (nP 0) nilP))))) (setM 2 (liftN (callP absD (consP (callP toIntD (consP (opP ixD (nP 0) (nP 1)) nilP)) nilP)))) nxM) (seqM (ifM (liftT (valT (opP geD (nP 2) (cP (.int 1000000000000000000))))) (retM (liftN (lstN (consP (nP 2) (consP (cP (.int 0)) (consP (cP (.int 1)) nilP)))))) nxM) (seqM (forM itL (liftN (sliceN (nP 0) noB (atB (cP (.int 63))))) (nmG 3) (setM 2 (liftN (opP modD (callP toIntD (consP (opP addX (opP addX (opP mulD (nP 2) (cP (.int 31))) (callP absD (consP (callP toIntD (consP (nP 3) nilP)) nilP))) (nP 1)) nilP)) (cP (.int 999999999989)))))) (retM (liftN (lstN (consP (opP addX (nP 2) (opP mulD (cP (.int 101)) (nP 1))) (consP (cP (.int 0)) (consP (cP (.int 0)) nilP))))))))))
def m__law_state : List D → FR := mkF 2 4 [0, 1] b__law_state
def b__law_next : SM := (seqM (stoM (nmL 0) (cP (.int 1)) (liftN (opP addX (opP ixD (nP 0) (cP (.int 1))) (cP (.int 1))))) (seqM (ifM (liftT (andT (valT (opP eqD (opP ixD (nP 0) (cP (.int 2))) (cP (.int 1)))) (valT (opP gtD (opP ixD (nP 0) (cP (.int 0))) (cP (.int 0)))))) (seqM (setM 2 (liftN (opP modD (callP toIntD (consP (opP ixD (nP 0) (cP (.int 0))) nilP)) (nP 1)))) (seqM (stoM (nmL 0) (cP (.int 0)) (liftN (opP fdivD (callP toIntD (consP (opP ixD (nP 0) (cP (.int 0))) nilP)) (nP 1)))) (retM (nM 2)))) nxM) (seqM (setM 3 (liftN (opP modD (callP toIntD (consP (opP addX (opP addX (opP ixD (nP 0) (cP (.int 0))) (opP mulD (cP (.int 7919)) (opP ixD (nP 0) (cP (.int 1))))) (cP (.int 13))) nilP)) (cP (.int 2147483647))))) (seqM (setM 3 (liftN (opP modD (callP toIntD (consP (opP mulD (nP 3) (opP addX (nP 3) (cP (.int 48271)))) nilP)) (cP (.int 2147483629))))) (seqM (setM 3 (liftN (opP modD (callP toIntD (consP (opP addX (opP mulD (nP 3) (opP addX (nP 3) (cP (.int 69621)))) (opP mulD (cP (.int 31)) (opP ixD (nP 0) (cP (.int 1))))) nilP)) (cP (.int 2147483647))))) (retM (liftN (opP modD (callP toIntD (consP (opP fdivD (nP 3) (cP (.int 9))) nilP)) (nP 1)))))))))
def m__law_next : List D → FR := mkF 2 4 [0, 1] b__law_next
def b__law_over : SM := (retM (liftN (opP gtD (callP min2D (consP (opP ixD (nP 0) (opP addX (nP 2) (cP (.int 2)))) (consP (opP ixD (nP 1) (opP addX (nP 2) (cP (.int 2)))) nilP))) (callP max2D (consP (opP ixD (nP 0) (nP 2)) (consP (opP ixD (nP 1) (nP 2)) nilP))))))
def m__law_over : List D → FR := mkF 3 3 [0, 1, 2] b__law_over
def b__law_union : SM := (seqM (setM 2 (liftA [] (tupP (consP (callP min2D (consP (opP ixD (nP 0) (cP (.int 0))) (consP (opP ixD (nP 1) (cP (.int 0))) nilP))) (consP (callP min2D (consP (opP ixD (nP 0) (cP (.int 1))) (consP (opP ixD (nP 1) (cP (.int 1))) nilP))) (consP (callP max2D (consP (opP ixD (nP 0) (cP (.int 2))) (consP (opP ixD (nP 1) (cP (.int 2))) nilP))) (consP (callP max2D (consP (opP ixD (nP 0) (cP (.int 3))) (consP (opP ixD (nP 1) (cP (.int 3))) nilP))) nilP))))))) (seqM (setM 3 (liftA [] (cP (.int 0)))) (seqM (forM itL (liftN (lstN (consP (nP 0) (consP (nP 1) nilP)))) (nmG 4) (setM 3 (liftN (opP addX (nP 3) (opP mulD (opP subD (opP ixD (nP 4) (cP (.int 2))) (opP ixD (nP 4) (cP (.int 0)))) (opP subD (opP ixD (nP 4) (cP (.int 3))) (opP ixD (nP 4) (cP (.int 1))))))))) (seqM (ifM (liftT (valT (opP eqD (nP 3) (opP mulD (opP subD (opP ixD (nP 2) (cP (.int 2))) (opP ixD (nP 2) (cP (.int 0)))) (opP subD (opP ixD (nP 2) (cP (.int 3))) (opP ixD (nP 2) (cP (.int 1)))))))) (retM (nM 2)) nxM) (retM (liftA [] (cP .non)))))))
def m__law_union : List D → FR := mkF 2 5 [0, 1] b__law_union
def b__law_parts : SM := (seqM (setM 4 (liftN (callP listD (consP (opP ixD (nP 0) (nP 1)) nilP)))) (seqM (stoM (nmL 4) (opP addX (nP 2) (cP (.int 2))) (liftA [3] (nP 3))) (seqM (setM 5 (liftN (callP listD (consP (opP ixD (nP 0) (nP 1)) nilP)))) (seqM (stoM (nmL 5) (nP 2) (liftA [3] (nP 3))) (seqM (setM 6 (liftN (callP listD (consP (nP 0) nilP)))) (seqM (stoM (nmL 6) (nP 1) (liftA [4] (tupP (consP (opP ixD (nP 4) (cP (.int 0))) (consP (opP ixD (nP 4) (cP (.int 1))) (consP (opP ixD (nP 4) (cP (.int 2))) (consP (opP ixD (nP 4) (cP (.int 3))) nilP))))))) (seqM (exprM (mtdN moAppend 6 (consE (liftA [5] (tupP (consP (opP ixD (nP 5) (cP (.int 0))) (consP (opP ixD (nP 5) (cP (.int 1))) (consP (opP ixD (nP 5) (cP (.int 2))) (consP (opP ixD (nP 5) (cP (.int 3))) nilP)))))) nilE))) (retM (nM 6)))))))))
def m__law_parts : List D → FR := mkF 4 7 [0, 1, 2, 3] b__law_parts
def b_check_rooms : SM := (ifM (liftT (notT (valT (chainP leD leD (cP (.int 1)) (nP 0) (cP (.int 20)))))) (raiseP "BadCount" "number" (nP 0)) nxM)
def m_check_rooms : List D → FR := mkF 1 1 [0] b_check_rooms
def b_room_fault : SM := (seqM (asgM (tupG 4 (consG (nmG 4) (consG (nmG 5) (consG (nmG 6) (consG (nmG 7) nilG))))) (liftA [2] (opP ixD (nP 2) (nP 3)))) (seqM (ifM (liftT (orT (valT (opP geD (nP 4) (nP 6))) (valT (opP geD (nP 5) (nP 7))))) (retM (liftA [3] (tupP (consP (cP (.str "empty")) (consP (nP 3) nilP))))) nxM) (seqM (ifM (liftT (orT (valT (opP ltD (nP 4) (cP (.int 0)))) (orT (valT (opP ltD (nP 5) (cP (.int 0)))) (orT (valT (opP gtD (nP 6) (nP 0))) (valT (opP gtD (nP 7) (nP 1))))))) (retM (liftA [3] (tupP (consP (cP (.str "outside")) (consP (nP 3) nilP))))) nxM) (seqM (forR itR1 (consE (liftA [3] (nP 3)) nilE) (nmG 8) (ifM (liftT (andT (valT (callN m_overlap (consP (opP ixD (nP 2) (nP 8)) (consP (opP ixD (nP 2) (nP 3)) (consP (cP (.int 0)) nilP))))) (valT (callN m_overlap (consP (opP ixD (nP 2) (nP 8)) (consP (opP ixD (nP 2) (nP 3)) (consP (cP (.int 1)) nilP))))))) (retM (liftA [8, 3] (tupP (consP (cP (.str "overlap")) (consP (nP 8) (consP (nP 3) nilP)))))) nxM)) (retM (liftA [] (cP .non)))))))
def m_room_fault : List D → FR := mkF 4 9 [0, 1, 2, 3] b_room_fault
def b__law_ints : SM := (seqM (ifM (liftT (notT (valT (callP (isiD tabI) (consP (nP 0) (consP (cP (.ty "list")) nilP)))))) (retM (liftA [] (cP (.bl false)))) nxM) (retM (liftN (opP eqD (callP lenD (consP (lcN piL (nP 0) [1] (nmG 1) (notT (valT (callN m__law_int (consP (nP 1) nilP)))) (froP (nP 1))) nilP)) (cP (.int 0))))))
def m__law_ints : List D → FR := mkF 1 2 [0] b__law_ints
def b__law_push : SM := (seqM (setM 3 (callM m__law_next (consL 0 (consE (liftA [] (cP (.int 2))) nilE)))) (seqM (setM 4 (liftN (callP sortedPD (consP (lcN piE (nP 2) [9, 10] (tupG 2 (consG (nmG 9) (consG (nmG 10) nilG))) (valT (opP eqD (opP ixD (nP 10) (opP addX (nP 3) (cP (.int 2)))) (opP ixD (nP 1) (nP 3)))) (froP (tupP (consP (opP subD (cP (.int 0)) (opP ixD (nP 10) (opP subD (cP (.int 1)) (nP 3)))) (consP (nP 9) nilP))))) nilP)))) (seqM (setM 5 (opE addX (liftA [] (cP (.int 1))) (callM m__law_next (consL 0 (consE (liftN (callP lenD (consP (nP 4) nilP))) nilE))))) (seqM (setM 6 (opE addX (liftA [] (cP (.int 1))) (callM m__law_next (consL 0 (consE (liftA [] (cP (.int 3))) nilE))))) (seqM (setM 7 (liftN (lstN (consP (cP (.int 0)) (consP (cP (.int 0)) (consP (cP (.int 0)) (consP (cP (.int 0)) nilP))))))) (seqM (stoM (nmL 7) (nP 3) (liftA [1] (opP ixD (nP 1) (nP 3)))) (seqM (stoM (nmL 7) (opP addX (nP 3) (cP (.int 2))) (liftN (opP addX (opP ixD (nP 1) (nP 3)) (nP 6)))) (seqM (stoM (nmL 7) (opP subD (cP (.int 1)) (nP 3)) (liftA [2] (opP ixD (opP ixD (nP 2) (opP ixD (opP ixD (nP 4) (opP subD (nP 5) (cP (.int 1)))) (cP (.int 1)))) (opP subD (cP (.int 1)) (nP 3))))) (seqM (stoM (nmL 7) (opP subD (cP (.int 3)) (nP 3)) (liftA [1] (opP ixD (nP 1) (opP subD (cP (.int 1)) (nP 3))))) (seqM (forM itL (liftN (sliceN (nP 4) (atB (nP 5)) noB)) (tupG 2 (consG (nmG 8) (consG (nmG 9) nilG))) (stoM (ixL (nmL 2) (nP 9)) (opP addX (nP 3) (cP (.int 2))) (liftN (opP addX (opP ixD (nP 1) (nP 3)) (nP 6))))) (seqM (stoM (nmL 1) (nP 3) (liftN (opP addX (opP ixD (nP 1) (nP 3)) (nP 6)))) (exprM (mtdN moAppend 2 (consE (nM 7) nilE))))))))))))))
def m__law_push : List D → FR := mkF 3 11 [0, 1, 2] b__law_push
def b__law_border : SM := (seqM (setM 3 (liftN (lstN (consP (nP 2) nilP)))) (seqM (setM 4 (liftN (lstN nilP))) (seqM (setM 5 (liftA [0] (opP ixD (opP ixD (nP 0) (nP 2)) (opP addX (nP 1) (cP (.int 2)))))) (seqM (forR itR1 (consE (liftN (callP lenD (consP (nP 0) nilP))) nilE) (nmG 6) (seqM (setM 7 (liftN (opP addX (callP lenD (consP (nP 3) nilP)) (callP lenD (consP (nP 4) nilP))))) (seqM (forR itR1 (consE (liftN (callP lenD (consP (nP 0) nilP))) nilE) (nmG 8) (seqM (ifM (liftT (andT (valT (opP eqD (opP ixD (opP ixD (nP 0) (nP 8)) (nP 1)) (nP 5))) (valT (opP (inD true) (nP 8) (nP 4))))) (ifM (liftT (valT (opP gtD (callP lenD (consP (lcN piL (nP 3) [9] (nmG 9) (valT (callN m__law_over (consP (opP ixD (nP 0) (nP 9)) (consP (opP ixD (nP 0) (nP 8)) (consP (opP subD (cP (.int 1)) (nP 1)) nilP))))) (froP (nP 9))) nilP)) (cP (.int 0))))) (exprM (mtdN moAppend 4 (consE (liftA [8] (nP 8)) nilE))) nxM) nxM) (ifM (liftT (andT (valT (opP eqD (opP ixD (opP ixD (nP 0) (nP 8)) (opP addX (nP 1) (cP (.int 2)))) (nP 5))) (valT (opP (inD true) (nP 8) (nP 3))))) (ifM (liftT (valT (opP gtD (callP lenD (consP (lcN piL (nP 4) [9] (nmG 9) (valT (callN m__law_over (consP (opP ixD (nP 0) (nP 9)) (consP (opP ixD (nP 0) (nP 8)) (consP (opP subD (cP (.int 1)) (nP 1)) nilP))))) (froP (nP 9))) nilP)) (cP (.int 0))))) (exprM (mtdN moAppend 3 (consE (liftA [8] (nP 8)) nilE))) nxM) nxM))) (ifM (liftT (valT (opP eqD (opP addX (callP lenD (consP (nP 3) nilP)) (callP lenD (consP (nP 4) nilP))) (nP 7)))) bkM nxM)))) (retM (lstE (consE (nM 3) (consE (nM 4) nilE))))))))
def m__law_border : List D → FR := mkF 3 10 [0, 1, 2] b__law_border
def b__law_order : SM := (retM (lcM itL (callE sortedPD (consE (lcQ itR1 (consE (liftA [1] (nP 1)) nilE) [3] (nmG 3) yesM (tupE (consE (callM m__law_next (consL 0 (consE (liftA [] (cP (.int 997))) nilE))) (consE (liftA [3] (nP 3)) nilE)))) nilE)) [2] (nmG 2) yesM (liftA [2] (opP ixD (nP 2) (cP (.int 1))))))
def m__law_order : List D → FR := mkF 2 4 [0, 1] b__law_order
def b__law_unions : SM := (seqM (setM 1 (liftN (lstN nilP))) (seqM (forR itR1 (consE (liftN (callP lenD (consP (nP 0) nilP))) nilE) (nmG 2) (setM 1 (liftN (opP addX (nP 1) (lcNA piR2 (consP (opP addX (nP 2) (cP (.int 1))) (consP (callP lenD (consP (nP 0) nilP)) nilP)) [3] (nmG 3) (valT (opP notNonD (callN m__law_union (consP (opP ixD (nP 0) (nP 2)) (consP (opP ixD (nP 0) (nP 3)) nilP))) (cP .non))) (froP (tupP (consP (nP 2) (consP (nP 3) nilP))))))))) (retM (nM 1))))
def m__law_unions : List D → FR := mkF 1 4 [0] b__law_unions
def b__law_together : SM := (seqM (setM 3 (liftN (callN m__law_union (consP (opP ixD (nP 0) (nP 1)) (consP (opP ixD (nP 0) (nP 2)) nilP))))) (seqM (ifM (liftT (valT (opP isNonD (nP 3) (cP .non)))) (retM (liftA [] (cP .non))) nxM) (seqM (setM 4 (liftN (lstN nilP))) (seqM (forR itR1 (consE (liftN (callP lenD (consP (nP 0) nilP))) nilE) (nmG 5) (ifM (liftT (valT (opP eqD (nP 5) (nP 1)))) (exprM (mtdN moAppend 4 (consE (nM 3) nilE))) (ifM (liftT (valT (opP neD (nP 5) (nP 2)))) (exprM (mtdN moAppend 4 (consE (liftA [0] (opP ixD (nP 0) (nP 5))) nilE))) nxM))) (retM (nM 4))))))
def m__law_together : List D → FR := mkF 3 6 [0, 1, 2] b__law_together
def b_floor_fault : SM := (seqM (ifM (liftT (notT (valT (chainP leD leD (cP (.int 1)) (callP lenD (consP (nP 2) nilP)) (cP (.int 20)))))) (retM (liftA [] (tupP (consP (cP (.str "count")) (consP (callP lenD (consP (nP 2) nilP)) nilP))))) nxM) (seqM (ifM (liftT (orT (valT (opP ltD (nP 0) (cP (.int 1)))) (valT (opP ltD (nP 1) (cP (.int 1)))))) (retM (liftA [] (tupP (consP (cP (.str "outer")) nilP)))) nxM) (seqM (setM 3 (liftN (opP mulD (nP 0) (nP 1)))) (seqM (forM itE (liftA [2] (nP 2)) (tupG 2 (consG (nmG 4) (consG (tupG 4 (consG (nmG 5) (consG (nmG 6) (consG (nmG 7) (consG (nmG 8) nilG))))) nilG))) (seqM (setM 9 (liftN (callN m_room_fault (consP (nP 0) (consP (nP 1) (consP (nP 2) (consP (nP 4) nilP))))))) (seqM (ifM (liftT (valT (opP notNonD (nP 9) (cP .non)))) (retM (nM 9)) nxM) (augM (· - ·) 3 (liftN (opP mulD (opP subD (nP 7) (nP 5)) (opP subD (nP 8) (nP 6)))))))) (seqM (ifM (liftT (valT (opP gtD (nP 3) (cP (.int 0))))) (retM (liftA [3] (tupP (consP (cP (.str "gap")) (consP (nP 3) nilP))))) nxM) (retM (liftA [] (cP .non))))))))
def m_floor_fault : List D → FR := mkF 3 10 [0, 1, 2] b_floor_fault
def b__law_slide : SM := (seqM (setM 3 (callM m__law_next (consL 0 (consE (liftA [] (cP (.int 2))) nilE)))) (seqM (setM 4 (callM m__law_next (consL 0 (consE (liftN (callP lenD (consP (nP 2) nilP))) nilE)))) (seqM (ifM (liftT (valT (opP eqD (opP ixD (opP ixD (nP 2) (nP 4)) (opP addX (nP 3) (cP (.int 2)))) (opP ixD (nP 1) (nP 3))))) retN nxM) (seqM (setM 5 (liftN (callN m__law_border (consP (nP 2) (consP (nP 3) (consP (nP 4) nilP)))))) (seqM (setM 6 (liftN (callP maxLD (consP (lcN piL (opP ixD (nP 5) (cP (.int 0))) [9] (nmG 9) yesP (froP (opP ixD (opP ixD (nP 2) (nP 9)) (nP 3)))) nilP)))) (seqM (setM 7 (liftN (callP minLD (consP (lcN piL (opP ixD (nP 5) (cP (.int 1))) [9] (nmG 9) yesP (froP (opP ixD (opP ixD (nP 2) (nP 9)) (opP addX (nP 3) (cP (.int 2)))))) nilP)))) (ifM (liftT (valT (opP geD (opP subD (nP 7) (nP 6)) (cP (.int 3))))) (seqM (setM 8 (opE addX (liftN (opP addX (nP 6) (cP (.int 1)))) (callM m__law_next (consL 0 (consE (liftN (opP subD (opP subD (nP 7) (nP 6)) (cP (.int 1)))) nilE))))) (seqM (forM itL (liftA [5] (opP ixD (nP 5) (cP (.int 0)))) (nmG 9) (stoM (ixL (nmL 2) (nP 9)) (opP addX (nP 3) (cP (.int 2))) (liftA [8] (nP 8)))) (forM itL (liftA [5] (opP ixD (nP 5) (cP (.int 1)))) (nmG 9) (stoM (ixL (nmL 2) (nP 9)) (nP 3) (liftA [8] (nP 8)))))) nxM)))))))
def m__law_slide : List D → FR := mkF 3 10 [0, 1, 2] b__law_slide
def b_Floor___init__ : SM := (seqM (setM 4 (liftN (callN m_floor_fault (consP (nP 1) (consP (nP 2) (consP (nP 3) nilP)))))) (seqM (ifM (liftT (valT (opP notNonD (nP 4) (cP .non)))) (raiseP "BadFloor" "fault" (nP 4)) nxM) (seqM (stfM ["Floor"] "width" (nmL 0) (liftA [1] (nP 1))) (seqM (stfM ["Floor"] "height" (nmL 0) (liftA [2] (nP 2))) (stfM ["Floor"] "_rooms" (nmL 0) (liftN (lcN piL (nP 3) [5, 6, 7, 8] (tupG 4 (consG (nmG 5) (consG (nmG 6) (consG (nmG 7) (consG (nmG 8) nilG))))) yesP (froP (tupP (consP (nP 5) (consP (nP 6) (consP (nP 7) (consP (nP 8) nilP)))))))))))))
def m_Floor___init__ : List D → FR := mkF 4 9 [0, 1, 2, 3] b_Floor___init__
def b__law_floor : SM := (seqM (setM 4 (lstE (consE (opE addX (liftA [] (cP (.int 1))) (callM m__law_next (consL 0 (consE (liftA [] (cP (.int 3))) nilE)))) (consE (opE addX (liftA [] (cP (.int 1))) (callM m__law_next (consL 0 (consE (liftA [] (cP (.int 3))) nilE)))) nilE)))) (seqM (setM 5 (lstE (consE (liftN (lstN (consP (cP (.int 0)) (consP (cP (.int 0)) (consP (opP ixD (nP 4) (cP (.int 0))) (consP (opP ixD (nP 4) (cP (.int 1))) nilP)))))) nilE))) (seqM (forR itR1 (consE (liftN (opP subD (nP 1) (cP (.int 1)))) nilE) (nmG 6) (exprM (callM m__law_push (consL 0 (consL 4 (consL 5 nilE)))))) (seqM (forR itR1 (consE (liftA [2] (nP 2)) nilE) (nmG 6) (seqM (setM 7 (liftN (lcN piL (nP 5) [8] (nmG 8) yesP (callP listD (consP (nP 8) nilP))))) (seqM (exprM (callM m__law_slide (consL 0 (consL 4 (consL 5 nilE))))) (ifM (liftT (andT (valT (nP 3)) badT)) badM nxM)))) (retM (lstE (consE (nM 4) (consE (liftN (lcN piL (nP 5) [8] (nmG 8) yesP (froP (tupP (consP (opP ixD (nP 8) (cP (.int 0))) (consP (opP ixD (nP 8) (cP (.int 1))) (consP (opP ixD (nP 8) (cP (.int 2))) (consP (opP ixD (nP 8) (cP (.int 3))) nilP)))))))) nilE))))))))
def m__law_floor : List D → FR := mkF 4 9 [0, 1, 2, 3] b__law_floor
def b_joinable : SM := (seqM (setM 1 (liftN (callP (listOD "Floor" "_rooms" m_Floor___len__) (consP (nP 0) nilP)))) (seqM (setM 2 (liftN (lstN nilP))) (seqM (forR itR1 (consE (liftN (callP lenD (consP (nP 1) nilP))) nilE) (nmG 3) (forR itR2 (consE (liftN (opP addX (nP 3) (cP (.int 1)))) (consE (liftN (callP lenD (consP (nP 1) nilP))) nilE)) (nmG 4) (ifM (liftT (valT (opP notNonD (callN m_union_of (consP (opP ixD (nP 1) (nP 3)) (consP (opP ixD (nP 1) (nP 4)) nilP))) (cP .non)))) (exprM (mtdN moAppend 2 (consE (liftA [3, 4] (tupP (consP (nP 3) (consP (nP 4) nilP)))) nilE))) nxM))) (retM (nM 2)))))
def m_joinable : List D → FR := mkF 1 5 [0] b_joinable
def b__law_drawn : SM := (seqM (setM 1 (callM m__law_next (consL 0 (consE (liftA [] (cP (.int 8))) nilE)))) (seqM (setM 2 (opE addX (liftA [] (cP (.int 1))) (callM m__law_next (consL 0 (consE (liftA [] (cP (.int 9))) nilE))))) (seqM (ifM (liftT (valT (opP gtD (nP 1) (cP (.int 5))))) (setM 2 (liftN (opP addX (cP (.int 13)) (nP 1)))) nxM) (seqM (setM 3 (callM m__law_floor (consL 0 (consE (liftA [2] (nP 2)) (consE (callM m__law_next (consL 0 (consE (liftA [] (cP (.int 10))) nilE))) (consE (liftA [] (cP (.bl false))) nilE)))))) (seqM (ifM (liftT (valT (opP eqD (nP 1) (cP (.int 5))))) (seqM (setM 4 (opE addX (liftA [] (cP (.int 1))) (callM m__law_next (consL 0 (consE (liftA [] (cP (.int 4))) nilE))))) (seqM (setM 5 (opE addX (liftA [] (cP (.int 1))) (callM m__law_next (consL 0 (consE (liftA [] (cP (.int 5))) nilE))))) (seqM (setM 6 (liftN (lstN nilP))) (seqM (forR itR1 (consE (liftN (opP mulD (nP 4) (nP 5))) nilE) (nmG 7) (seqM (setM 8 (liftN (opP modD (callP toIntD (consP (nP 7) nilP)) (nP 4)))) (exprM (mtdN moAppend 6 (consE (liftA [8] (tupP (consP (nP 8) (consP (opP fdivD (nP 7) (nP 4)) (consP (opP addX (nP 8) (cP (.int 1))) (consP (opP addX (opP fdivD (nP 7) (nP 4)) (cP (.int 1))) nilP)))))) nilE))))) (setM 3 (lstE (consE (liftN (lstN (consP (nP 4) (consP (nP 5) nilP)))) (consE (nM 6) nilE)))))))) nxM) (seqM (setM 6 (lcM itL (callM m__law_order (consL 0 (consE (liftN (callP lenD (consP (opP ixD (nP 3) (cP (.int 1))) nilP))) nilE))) [7] (nmG 7) yesM (liftA [3] (opP ixD (opP ixD (nP 3) (cP (.int 1))) (nP 7))))) (seqM (setM 9 (opE (ixE ixD) (liftN (lstN (consP (cP (.int 1)) (consP (cP (.int 2)) (consP (cP (.int 3)) (consP (opP powD (cP (.int 10)) (cP (.int 7))) nilP)))))) (callM m__law_next (consL 0 (consE (liftA [] (cP (.int 4))) nilE))))) (seqM (setM 10 (opE (ixE ixD) (liftN (lstN (consP (cP (.int 1)) (consP (cP (.int 2)) (consP (cP (.int 3)) (consP (opP powD (cP (.int 10)) (cP (.int 7))) nilP)))))) (callM m__law_next (consL 0 (consE (liftA [] (cP (.int 4))) nilE))))) (seqM (setM 6 (liftN (lcN piL (nP 6) [11] (nmG 11) yesP (froP (tupP (consP (opP mulD (opP ixD (nP 11) (cP (.int 0))) (nP 9)) (consP (opP mulD (opP ixD (nP 11) (cP (.int 1))) (nP 10)) (consP (opP mulD (opP ixD (nP 11) (cP (.int 2))) (nP 9)) (consP (opP mulD (opP ixD (nP 11) (cP (.int 3))) (nP 10)) nilP))))))))) (retM (lstE (consE (liftN (lstN (consP (opP mulD (opP ixD (opP ixD (nP 3) (cP (.int 0))) (cP (.int 0))) (nP 9)) (consP (opP mulD (opP ixD (opP ixD (nP 3) (cP (.int 0))) (cP (.int 1))) (nP 10)) nilP)))) (consE (nM 6) nilE)))))))))))))
def m__law_drawn : List D → FR := mkF 1 12 [0] b__law_drawn
def b__law_is : SM := (seqM (ifM (liftT (orT (notT (valT (callP (isiD tabI) (consP (nP 0) (consP (cP (.cls "Floor")) nilP))))) (orT (notT (valT (callN m__law_int (consP (fldP ["Floor"] "width" (nP 0)) nilP)))) (notT (valT (callN m__law_int (consP (fldP ["Floor"] "height" (nP 0)) nilP))))))) (retM (liftA [] (cP (.bl false)))) nxM) (seqM (ifM (liftT (valT (opP neD (callP (lenOD "Floor" m_Floor___len__) (consP (nP 0) nilP)) (callP lenD (consP (nP 2) nilP))))) (retM (liftA [] (cP (.bl false)))) nxM) (seqM (setM 3 (liftN (lcNA piR1 (consP (callP lenD (consP (nP 2) nilP)) nilP) [5] (nmG 5) yesP (methN "Floor" "room" (nP 0) m_Floor_room (consP (nP 5) nilP))))) (seqM (forM itL (liftA [3] (nP 3)) (nmG 4) (ifM (liftT (orT (notT (valT (callP (isiD tabI) (consP (nP 4) (consP (cP (.ty "tuple")) nilP))))) (notT (valT (callN m__law_ints (consP (callP listD (consP (nP 4) nilP)) nilP)))))) (retM (liftA [] (cP (.bl false)))) nxM)) (retM (liftA [] (andP (opP eqD (lstN (consP (fldP ["Floor"] "width" (nP 0)) (consP (fldP ["Floor"] "height" (nP 0)) nilP))) (nP 1)) (andP (opP eqD (nP 3) (nP 2)) (opP eqD (callP (listOD "Floor" "_rooms" m_Floor___len__) (consP (nP 0) nilP)) (nP 2))))))))))
def m__law_is : List D → FR := mkF 3 6 [0, 1, 2] b__law_is
def b_split_room : SM := (seqM (setM 4 (liftN (methN "Floor" "room" (nP 0) m_Floor_room (consP (nP 1) nilP)))) (seqM (ifM (liftT (notT (valT (chainP ltD ltD (opP ixD (nP 4) (nP 2)) (nP 3) (opP ixD (nP 4) (opP addX (nP 2) (cP (.int 2)))))))) (raiseP "BadPlace" "place" (nP 3)) nxM) (seqM (exprM (callB m_check_rooms (consP (opP addX (callP (lenOD "Floor" m_Floor___len__) (consP (nP 0) nilP)) (cP (.int 1))) nilP))) (seqM (setM 5 (liftN (callP listD (consP (nP 4) nilP)))) (seqM (stoM (nmL 5) (opP addX (nP 2) (cP (.int 2))) (liftA [3] (nP 3))) (seqM (setM 6 (liftN (callP listD (consP (nP 4) nilP)))) (seqM (stoM (nmL 6) (nP 2) (liftA [3] (nP 3))) (seqM (setM 7 (liftN (callP (listOD "Floor" "_rooms" m_Floor___len__) (consP (nP 0) nilP)))) (seqM (stoM (nmL 7) (nP 1) (liftN (callP tupleD (consP (nP 5) nilP)))) (seqM (exprM (mtdN moAppend 7 (consE (liftN (callP tupleD (consP (nP 6) nilP))) nilE))) (retM (mkM "Floor" m_Floor___init__ (consE (liftA [0] (fldP ["Floor"] "width" (nP 0))) (consE (liftA [0] (fldP ["Floor"] "height" (nP 0))) (consE (nM 7) nilE)))))))))))))))
def m_split_room : List D → FR := mkF 4 8 [0, 1, 2, 3] b_split_room
def b_join_rooms : SM := (seqM (setM 3 (liftN (callN m_union_of (consP (methN "Floor" "room" (nP 0) m_Floor_room (consP (nP 1) nilP)) (consP (methN "Floor" "room" (nP 0) m_Floor_room (consP (nP 2) nilP)) nilP))))) (seqM (ifM (liftT (valT (opP isNonD (nP 3) (cP .non)))) (raiseP "NotJoined" "pair" (tupP (consP (nP 1) (consP (nP 2) nilP)))) nxM) (seqM (setM 4 (liftN (callP (listOD "Floor" "_rooms" m_Floor___len__) (consP (nP 0) nilP)))) (seqM (stoM (nmL 4) (nP 1) (liftA [3] (nP 3))) (seqM (exprM (mtdN moPopAt 4 (consE (nM 2) nilE))) (retM (mkM "Floor" m_Floor___init__ (consE (liftA [0] (fldP ["Floor"] "width" (nP 0))) (consE (liftA [0] (fldP ["Floor"] "height" (nP 0))) (consE (nM 4) nilE))))))))))
def m_join_rooms : List D → FR := mkF 3 5 [0, 1, 2] b_join_rooms
def b__law_listed : SM := (seqM (setM 2 (liftN (callN m__law_unions (consP (nP 1) nilP)))) (seqM (forR itR1 (consE (liftA [] (cP (.int 2))) nilE) (nmG 3) (seqM (setM 4 (liftN (callN m_joinable (consP (nP 0) nilP)))) (seqM (ifM (liftT (notT (valT (callP (isiD tabI) (consP (nP 4) (consP (cP (.ty "list")) nilP)))))) (retM (liftA [] (cP (.bl false)))) nxM) (seqM (forN 4 (nmG 5) (ifM (liftT (orT (notT (valT (callP (isiD tabI) (consP (nP 5) (consP (cP (.ty "tuple")) nilP))))) (notT (valT (callN m__law_ints (consP (callP listD (consP (nP 5) nilP)) nilP)))))) (retM (liftA [] (cP (.bl false)))) nxM)) (seqM (ifM (liftT (valT (opP neD (nP 4) (nP 2)))) (retM (liftA [] (cP (.bl false)))) nxM) (seqM (exprM (mtdN moAppend 4 (consE (liftA [] (tupP (consP (cP (.int 0)) (consP (cP (.int 0)) nilP)))) nilE))) (stoM (nmL 4) (cP (.int 0)) (liftA [] (tupP (consP (cP (.int 7)) (consP (cP (.int 7)) nilP))))))))))) (retM (liftA [] (cP (.bl true))))))
def m__law_listed : List D → FR := mkF 2 6 [0, 1] b__law_listed
def b__law_join : SM := (seqM (setM 5 (liftN (callN m__law_together (consP (nP 2) (consP (nP 3) (consP (nP 4) nilP)))))) (seqM (setM 6 (liftA [] (cP (.bl false)))) (seqM (setM 7 (liftA [] (cP .non))) (seqM (tryM tabE (setM 7 (callB m_join_rooms (consP (nP 0) (consP (nP 3) (consP (nP 4) nilP))))) [((.inr "NotJoined"), some 8, (seqM (ifM (liftT (orT (valT (callP (isxD EXS tabX) (consP (nP 8) (consP (tupP (consP (cP (.cls "BadCount")) (consP (cP (.cls "BadFloor")) (consP (cP (.cls "BadPlace")) nilP)))) nilP)))) (notT (valT (callP (isxD EXS tabX) (consP (nP 8) (consP (cP (.cls "FitError")) nilP))))))) (retM (liftA [] (cP (.bl false)))) nxM) (seqM (setM 6 (liftA [] (cP (.bl true)))) (setM 7 (liftA [8] (xfldP EXS_pair "pair" (nP 8))))))), ((.inr "FitError"), none, (retM (liftA [] (cP (.bl false)))))]) (seqM (ifM (liftT (valT (opP isNonD (nP 5) (cP .non)))) (retM (liftA [] (andP (nP 6) (andP (callP (isiD tabI) (consP (nP 7) (consP (cP (.ty "tuple")) nilP))) (andP (callN m__law_ints (consP (callP listD (consP (nP 7) nilP)) nilP)) (opP eqD (nP 7) (tupP (consP (nP 3) (consP (nP 4) nilP))))))))) nxM) (retM (liftA [] (andP (notP (nP 6)) (callN m__law_is (consP (nP 7) (consP (nP 1) (consP (nP 5) nilP))))))))))))
def m__law_join : List D → FR := mkF 5 9 [0, 1, 2, 3, 4] b__law_join
def b__law_split : SM := (seqM (setM 6 (liftA [] (cP (.str "floor")))) (seqM (setM 7 (liftA [] (cP .non))) (seqM (tryM tabE (setM 7 (callB m_split_room (consP (nP 0) (consP (nP 3) (consP (nP 4) (consP (nP 5) nilP)))))) [((.inr "BadPlace"), some 8, (seqM (ifM (liftT (orT (valT (callP (isxD EXS tabX) (consP (nP 8) (consP (tupP (consP (cP (.cls "BadCount")) (consP (cP (.cls "BadFloor")) (consP (cP (.cls "NotJoined")) nilP)))) nilP)))) (notT (valT (callP (isxD EXS tabX) (consP (nP 8) (consP (cP (.ty "ValueError")) nilP))))))) (retM (liftA [] (cP (.bl false)))) nxM) (seqM (setM 6 (liftA [] (cP (.str "place")))) (setM 7 (liftA [8] (xfldP EXS_place "place" (nP 8))))))), ((.inr "BadCount"), some 8, (seqM (ifM (liftT (orT (valT (callP (isxD EXS tabX) (consP (nP 8) (consP (tupP (consP (cP (.cls "BadFloor")) (consP (cP (.cls "NotJoined")) nilP))) nilP)))) (notT (valT (callP (isxD EXS tabX) (consP (nP 8) (consP (cP (.cls "FitError")) nilP))))))) (retM (liftA [] (cP (.bl false)))) nxM) (seqM (setM 6 (liftA [] (cP (.str "count")))) (setM 7 (liftA [8] (xfldP EXS_number "number" (nP 8))))))), ((.inr "FitError"), none, (retM (liftA [] (cP (.bl false)))))]) (seqM (ifM (liftT (notT (valT (chainP ltD ltD (opP ixD (opP ixD (nP 2) (nP 3)) (nP 4)) (nP 5) (opP ixD (opP ixD (nP 2) (nP 3)) (opP addX (nP 4) (cP (.int 2)))))))) (retM (liftA [] (andP (opP eqD (nP 6) (cP (.str "place"))) (andP (callN m__law_int (consP (nP 7) nilP)) (opP eqD (nP 7) (nP 5)))))) nxM) (seqM (ifM (liftT (valT (opP eqD (callP lenD (consP (nP 2) nilP)) (cP (.int 20))))) (retM (liftA [] (andP (opP eqD (nP 6) (cP (.str "count"))) (andP (callN m__law_int (consP (nP 7) nilP)) (opP eqD (nP 7) (cP (.int 21))))))) nxM) (retM (liftA [] (andP (opP eqD (nP 6) (cP (.str "floor"))) (callN m__law_is (consP (nP 7) (consP (nP 1) (consP (callN m__law_parts (consP (nP 2) (consP (nP 3) (consP (nP 4) (consP (nP 5) nilP))))) nilP))))))))))))
def m__law_split : List D → FR := mkF 6 9 [0, 1, 2, 3, 4, 5] b__law_split
def b__law_back : SM := (seqM (setM 6 (liftN (callP lenD (consP (nP 2) nilP)))) (seqM (setM 7 (liftN (callN m__law_parts (consP (nP 2) (consP (nP 3) (consP (nP 4) (consP (nP 5) nilP))))))) (seqM (setM 8 (liftN (callN m_split_room (consP (nP 0) (consP (nP 3) (consP (nP 4) (consP (nP 5) nilP))))))) (seqM (setM 9 (liftN (callN m_join_rooms (consP (nP 8) (consP (nP 3) (consP (nP 6) nilP)))))) (seqM (ifM (liftT (orT (notT (valT (callN m__law_is (consP (nP 9) (consP (nP 1) (consP (nP 2) nilP)))))) (valT (opP notBlD (opP (eqOD "Floor" m_Floor___eq__) (nP 9) (nP 0)) (cP (.bl true)))))) (retM (liftA [] (cP (.bl false)))) nxM) (seqM (ifM (liftT (orT (notT (valT (callN m__law_join (consP (nP 8) (consP (nP 1) (consP (nP 7) (consP (nP 6) (consP (nP 3) nilP)))))))) (notT (valT (callN m__law_listed (consP (nP 8) (consP (nP 7) nilP))))))) (retM (liftA [] (cP (.bl false)))) nxM) (retM (liftA [] (andP (callN m__law_is (consP (nP 8) (consP (nP 1) (consP (nP 7) nilP)))) (opP isBlD (opP (eqOD "Floor" m_Floor___eq__) (nP 8) (nP 0)) (cP (.bl false))))))))))))
def m__law_back : List D → FR := mkF 6 10 [0, 1, 2, 3, 4, 5] b__law_back
def b__law_apart : SM := (seqM (setM 4 (liftN (callN m__law_unions (consP (nP 3) nilP)))) (seqM (ifM (liftT (valT (opP eqD (nP 4) (lstN nilP)))) (retM (liftA [] (cP (.bl true)))) nxM) (seqM (setM 5 (nixE ixD 4 (callM m__law_next (consL 0 (consE (liftN (callP lenD (consP (nP 4) nilP))) nilE))))) (seqM (setM 6 (nixE ixD 5 (callM m__law_next (consL 0 (consE (liftA [] (cP (.int 2))) nilE))))) (seqM (setM 7 (liftN (opP subD (opP addX (opP ixD (nP 5) (cP (.int 0))) (opP ixD (nP 5) (cP (.int 1)))) (nP 6)))) (seqM (setM 8 (liftN (callP toIntD (consP (andP (opP eqD (opP ixD (opP ixD (nP 3) (nP 6)) (cP (.int 0))) (opP ixD (opP ixD (nP 3) (nP 7)) (cP (.int 0)))) (opP eqD (opP ixD (opP ixD (nP 3) (nP 6)) (cP (.int 2))) (opP ixD (opP ixD (nP 3) (nP 7)) (cP (.int 2))))) nilP)))) (seqM (setM 9 (liftN (callP max2D (consP (opP ixD (opP ixD (nP 3) (nP 6)) (nP 8)) (consP (opP ixD (opP ixD (nP 3) (nP 7)) (nP 8)) nilP))))) (seqM (setM 10 (liftN (callN m__law_together (consP (nP 3) (consP (nP 6) (consP (nP 7) nilP)))))) (seqM (setM 11 (liftN (callN m_join_rooms (consP (nP 1) (consP (nP 6) (consP (nP 7) nilP)))))) (seqM (ifM (liftT (orT (notT (valT (callN m__law_is (consP (nP 11) (consP (nP 2) (consP (nP 10) nilP)))))) (notT (valT (callN m__law_listed (consP (nP 11) (consP (nP 10) nilP))))))) (retM (liftA [] (cP (.bl false)))) nxM) (retM (liftN (callN m__law_split (consP (nP 11) (consP (nP 2) (consP (nP 10) (consP (opP subD (nP 6) (callP toIntD (consP (opP ltD (nP 7) (nP 6)) nilP))) (consP (nP 8) (consP (nP 9) nilP)))))))))))))))))))
def m__law_apart : List D → FR := mkF 4 12 [0, 1, 2, 3] b__law_apart
def b_law : SM := (seqM (setM 1 (liftN (callN m__law_state (consP (nP 0) (consP (cP (.int 1)) nilP))))) (seqM (setM 2 (callM m__law_drawn (consE (liftN (callN m__law_state (consP (nP 0) (consP (cP (.int 0)) nilP)))) nilE))) (seqM (setM 3 (callM m__law_drawn (consE (liftN (callN m__law_state (consP (nP 0) (consP (cP (.int 2)) nilP)))) nilE))) (seqM (setM 4 (liftA [2] (opP ixD (nP 2) (cP (.int 0))))) (seqM (setM 5 (liftA [2] (opP ixD (nP 2) (cP (.int 1))))) (seqM (setM 6 (mkM "Floor" m_Floor___init__ (consE (liftA [4] (opP ixD (nP 4) (cP (.int 0)))) (consE (liftA [4] (opP ixD (nP 4) (cP (.int 1)))) (consE (liftN (callP listD (consP (nP 5) nilP))) nilE))))) (seqM (setM 7 (mkM "Floor" m_Floor___init__ (consE (liftA [3] (opP ixD (opP ixD (nP 3) (cP (.int 0))) (cP (.int 0)))) (consE (liftA [3] (opP ixD (opP ixD (nP 3) (cP (.int 0))) (cP (.int 1)))) (consE (liftN (callP listD (consP (opP ixD (nP 3) (cP (.int 1))) nilP))) nilE))))) (seqM (ifM (liftT (orT (notT (valT (callN m__law_is (consP (nP 6) (consP (nP 4) (consP (nP 5) nilP)))))) (orT (notT (valT (callN m__law_listed (consP (nP 6) (consP (nP 5) nilP))))) (notT (valT (callN m__law_listed (consP (nP 7) (consP (opP ixD (nP 3) (cP (.int 1))) nilP)))))))) (retM (liftA [] (cP (.bl false)))) nxM) (seqM (forR itR1 (consE (liftN (callP lenD (consP (nP 5) nilP))) nilE) (nmG 8) (forR itR1 (consE (liftN (callP lenD (consP (nP 5) nilP))) nilE) (nmG 9) (ifM (liftT (andT (valT (opP neD (nP 8) (nP 9))) (notT (valT (callN m__law_join (consP (nP 6) (consP (nP 4) (consP (nP 5) (consP (nP 8) (consP (nP 9) nilP)))))))))) (retM (liftA [] (cP (.bl false)))) nxM))) (seqM (setM 10 (callM m__law_next (consL 1 (consE (liftN (callP lenD (consP (nP 5) nilP))) nilE)))) (seqM (forR itR1 (consE (liftA [] (cP (.int 2))) nilE) (nmG 11) (seqM (setM 12 (liftA [5] (opP ixD (opP ixD (nP 5) (nP 10)) (nP 11)))) (seqM (setM 13 (liftA [5] (opP ixD (opP ixD (nP 5) (nP 10)) (opP addX (nP 11) (cP (.int 2)))))) (seqM (setM 14 (liftN (lstN (consP (opP subD (nP 12) (cP (.int 1))) (consP (nP 12) (consP (nP 13) (consP (opP addX (nP 13) (cP (.int 1))) (consP (opP subD (cP (.int 0)) (nP 13)) nilP)))))))) (seqM (ifM (liftT (valT (opP gtD (opP subD (nP 13) (nP 12)) (cP (.int 1))))) (setM 14 (opE addX (liftA [14] (nP 14)) (lstE (consE (liftN (opP addX (nP 12) (cP (.int 1)))) (consE (liftN (opP subD (nP 13) (cP (.int 1)))) (consE (opE addX (liftN (opP addX (nP 12) (cP (.int 1)))) (callM m__law_next (consL 1 (consE (liftN (opP subD (opP subD (nP 13) (nP 12)) (cP (.int 1)))) nilE)))) nilE)))))) nxM) (forM itL (liftA [14] (nP 14)) (nmG 15) (seqM (ifM (liftT (notT (valT (callN m__law_split (consP (nP 6) (consP (nP 4) (consP (nP 5) (consP (nP 10) (consP (nP 11) (consP (nP 15) nilP)))))))))) (retM (liftA [] (cP (.bl false)))) nxM) (ifM (liftT (andT (valT (chainP ltD ltD (nP 12) (nP 15) (nP 13))) (andT (valT (opP ltD (callP lenD (consP (nP 5) nilP)) (cP (.int 20)))) (notT (valT (callN m__law_back (consP (nP 6) (consP (nP 4) (consP (nP 5) (consP (nP 10) (consP (nP 11) (consP (nP 15) nilP)))))))))))) (retM (liftA [] (cP (.bl false)))) nxM)))))))) (seqM (ifM (orM (notM (valM (callM m__law_apart (consL 1 (consE (liftA [7] (nP 7)) (consE (liftA [3] (opP ixD (nP 3) (cP (.int 0)))) (consE (liftA [3] (opP ixD (nP 3) (cP (.int 1)))) nilE))))))) (notM (valM (callM m__law_apart (consL 1 (consE (liftA [6] (nP 6)) (consE (liftA [4] (nP 4)) (consE (liftA [5] (nP 5)) nilE)))))))) (retM (liftA [] (cP (.bl false)))) nxM) (retM (liftA [] (andP (callN m__law_is (consP (nP 6) (consP (nP 4) (consP (nP 5) nilP)))) (andP (callN m__law_listed (consP (nP 6) (consP (nP 5) nilP))) (callN m__law_is (consP (nP 7) (consP (opP ixD (nP 3) (cP (.int 0))) (consP (opP ixD (nP 3) (cP (.int 1))) nilP))))))))))))))))))))
def m_law : List D → FR := mkF 1 16 [0] b_law
end K31
end
end
section
set_option Elab.async false
set_option linter.all false
set_option maxRecDepth 100000
noncomputable section
namespace K31
open PySem L2 VL PySem.OwnErr
def topS (i : Nat) : Stmt := PySem.Challenge.pw_roomsfit_k31_split_and_join.main.body.getD i (.Pass ⟨0, 0, 0, 0⟩)
def metS (i j : Nat) : Stmt := match topS i with
  | .ClassDef _ _ _ suite _ _ _ _ _ _ _ => suite.getD j (.Pass ⟨0, 0, 0, 0⟩)
  | s => s
abbrev N_overlap : List Str := ["first", "second", "axis"]
theorem sc_overlap : FnScope N_overlap ["first", "second", "axis"] (defScope (topS 9)) := ⟨rfl, rfl, rfl, by decide +kernel, rfl, by decide +kernel, by decide +kernel⟩
abbrev N_Floor___len__ : List Str := ["self"]
theorem sc_Floor___len__ : FnScope N_Floor___len__ ["self"] (defScope (metS 14 1)) := ⟨rfl, rfl, rfl, by decide +kernel, rfl, by decide +kernel, by decide +kernel⟩
abbrev N_Floor___iter__ : List Str := ["self"]
theorem sc_Floor___iter__ : FnScope N_Floor___iter__ ["self"] (defScope (metS 14 2)) := ⟨rfl, rfl, rfl, by decide +kernel, rfl, by decide +kernel, by decide +kernel⟩
abbrev N_Floor___eq__ : List Str := ["self", "other"]
theorem sc_Floor___eq__ : FnScope N_Floor___eq__ ["self", "other"] (defScope (metS 14 3)) := ⟨rfl, rfl, rfl, by decide +kernel, rfl, by decide +kernel, by decide +kernel⟩
abbrev N_Floor_room : List Str := ["self", "k"]
theorem sc_Floor_room : FnScope N_Floor_room ["self", "k"] (defScope (metS 14 4)) := ⟨rfl, rfl, rfl, by decide +kernel, rfl, by decide +kernel, by decide +kernel⟩
abbrev N_union_of : List Str := ["one", "two", "axis", "level"]
theorem sc_union_of : FnScope N_union_of ["one", "two"] (defScope (topS 16)) := ⟨rfl, rfl, rfl, by decide +kernel, rfl, by decide +kernel, by decide +kernel⟩
abbrev N__law_int : List Str := ["value"]
theorem sc__law_int : FnScope N__law_int ["value"] (defScope (topS 21)) := ⟨rfl, rfl, rfl, by decide +kernel, rfl, by decide +kernel, by decide +kernel⟩
abbrev N__law_state : List Str := ["script", "k", "cell", "other"]
theorem sc__law_state : FnScope N__law_state ["script", "k"] (defScope (topS 23)) := ⟨rfl, rfl, rfl, by decide +kernel, rfl, by decide +kernel, by decide +kernel⟩
abbrev N__law_next : List Str := ["state", "size", "value", "mixed"]
theorem sc__law_next : FnScope N__law_next ["state", "size"] (defScope (topS 24)) := ⟨rfl, rfl, rfl, by decide +kernel, rfl, by decide +kernel, by decide +kernel⟩
abbrev N__law_over : List Str := ["a", "b", "axis"]
theorem sc__law_over : FnScope N__law_over ["a", "b", "axis"] (defScope (topS 25)) := ⟨rfl, rfl, rfl, by decide +kernel, rfl, by decide +kernel, by decide +kernel⟩
abbrev N__law_union : List Str := ["one", "two", "box", "area", "room"]
theorem sc__law_union : FnScope N__law_union ["one", "two"] (defScope (topS 34)) := ⟨rfl, rfl, rfl, by decide +kernel, rfl, by decide +kernel, by decide +kernel⟩
abbrev N__law_parts : List Str := ["rooms", "k", "axis", "place", "ahead", "behind", "found"]
theorem sc__law_parts : FnScope N__law_parts ["rooms", "k", "axis", "place"] (defScope (topS 38)) := ⟨rfl, rfl, rfl, by decide +kernel, rfl, by decide +kernel, by decide +kernel⟩
abbrev N_check_rooms : List Str := ["rooms"]
theorem sc_check_rooms : FnScope N_check_rooms ["rooms"] (defScope (topS 8)) := ⟨rfl, rfl, rfl, by decide +kernel, rfl, by decide +kernel, by decide +kernel⟩
abbrev N_room_fault : List Str := ["width", "height", "rooms", "place", "x0", "y0", "x1", "y1", "earlier"]
theorem sc_room_fault : FnScope N_room_fault ["width", "height", "rooms", "place"] (defScope (topS 12)) := ⟨rfl, rfl, rfl, by decide +kernel, rfl, by decide +kernel, by decide +kernel⟩
abbrev N__law_ints : List Str := ["value", "x"]
theorem sc__law_ints : FnScope N__law_ints ["value"] (defScope (topS 22)) := ⟨rfl, rfl, rfl, by decide +kernel, rfl, by decide +kernel, by decide +kernel⟩
abbrev N__law_push : List Str := ["state", "size", "rooms", "axis", "ends", "many", "strip", "fresh", "place", "k", "room"]
theorem sc__law_push : FnScope N__law_push ["state", "size", "rooms"] (defScope (topS 26)) := ⟨rfl, rfl, rfl, by decide +kernel, rfl, by decide +kernel, by decide +kernel⟩
abbrev N__law_border : List Str := ["rooms", "axis", "first", "lows", "highs", "place", "turn", "many", "k", "j"]
theorem sc__law_border : FnScope N__law_border ["rooms", "axis", "first"] (defScope (topS 27)) := ⟨rfl, rfl, rfl, by decide +kernel, rfl, by decide +kernel, by decide +kernel⟩
abbrev N__law_order : List Str := ["state", "many", "pair", "k"]
theorem sc__law_order : FnScope N__law_order ["state", "many"] (defScope (topS 31)) := ⟨rfl, rfl, rfl, by decide +kernel, rfl, by decide +kernel, by decide +kernel⟩
abbrev N__law_unions : List Str := ["rooms", "found", "a", "b"]
theorem sc__law_unions : FnScope N__law_unions ["rooms"] (defScope (topS 35)) := ⟨rfl, rfl, rfl, by decide +kernel, rfl, by decide +kernel, by decide +kernel⟩
abbrev N__law_together : List Str := ["rooms", "a", "b", "box", "found", "k"]
theorem sc__law_together : FnScope N__law_together ["rooms", "a", "b"] (defScope (topS 36)) := ⟨rfl, rfl, rfl, by decide +kernel, rfl, by decide +kernel, by decide +kernel⟩
abbrev N_floor_fault : List Str := ["width", "height", "rooms", "free", "place", "x0", "y0", "x1", "y1", "found"]
theorem sc_floor_fault : FnScope N_floor_fault ["width", "height", "rooms"] (defScope (topS 13)) := ⟨rfl, rfl, rfl, by decide +kernel, rfl, by decide +kernel, by decide +kernel⟩
abbrev N__law_slide : List Str := ["state", "size", "rooms", "axis", "first", "border", "low", "high", "fresh", "k"]
theorem sc__law_slide : FnScope N__law_slide ["state", "size", "rooms"] (defScope (topS 28)) := ⟨rfl, rfl, rfl, by decide +kernel, rfl, by decide +kernel, by decide +kernel⟩
abbrev N_Floor___init__ : List Str := ["self", "width", "height", "rooms", "found", "x0", "y0", "x1", "y1"]
theorem sc_Floor___init__ : FnScope N_Floor___init__ ["self", "width", "height", "rooms"] (defScope (metS 14 0)) := ⟨rfl, rfl, rfl, by decide +kernel, rfl, by decide +kernel, by decide +kernel⟩
abbrev N__law_floor : List Str := ["state", "rooms", "slides", "plain", "size", "found", "k", "before", "room"]
theorem sc__law_floor : FnScope N__law_floor ["state", "rooms", "slides", "plain"] (defScope (topS 30)) := ⟨rfl, rfl, rfl, by decide +kernel, rfl, by decide +kernel, by decide +kernel⟩
abbrev N_joinable : List Str := ["floor", "rooms", "found", "a", "b"]
theorem sc_joinable : FnScope N_joinable ["floor"] (defScope (topS 19)) := ⟨rfl, rfl, rfl, by decide +kernel, rfl, by decide +kernel, by decide +kernel⟩
abbrev N__law_drawn : List Str := ["state", "kind", "many", "found", "columns", "lines", "rooms", "k", "x", "wide", "high", "room"]
theorem sc__law_drawn : FnScope N__law_drawn ["state"] (defScope (topS 32)) := ⟨rfl, rfl, rfl, by decide +kernel, rfl, by decide +kernel, by decide +kernel⟩
abbrev N__law_is : List Str := ["floor", "size", "rooms", "told", "room", "k"]
theorem sc__law_is : FnScope N__law_is ["floor", "size", "rooms"] (defScope (topS 33)) := ⟨rfl, rfl, rfl, by decide +kernel, rfl, by decide +kernel, by decide +kernel⟩
abbrev N_split_room : List Str := ["floor", "room", "axis", "place", "old", "ahead", "behind", "rooms"]
theorem sc_split_room : FnScope N_split_room ["floor", "room", "axis", "place"] (defScope (topS 17)) := ⟨rfl, rfl, rfl, by decide +kernel, rfl, by decide +kernel, by decide +kernel⟩
abbrev N_join_rooms : List Str := ["floor", "a", "b", "found", "rooms"]
theorem sc_join_rooms : FnScope N_join_rooms ["floor", "a", "b"] (defScope (topS 18)) := ⟨rfl, rfl, rfl, by decide +kernel, rfl, by decide +kernel, by decide +kernel⟩
abbrev N__law_listed : List Str := ["floor", "rooms", "due", "again", "told", "pair"]
theorem sc__law_listed : FnScope N__law_listed ["floor", "rooms"] (defScope (topS 41)) := ⟨rfl, rfl, rfl, by decide +kernel, rfl, by decide +kernel, by decide +kernel⟩
abbrev N__law_join : List Str := ["floor", "size", "rooms", "a", "b", "due", "refused", "told", "e"]
theorem sc__law_join : FnScope N__law_join ["floor", "size", "rooms", "a", "b"] (defScope (topS 37)) := ⟨rfl, rfl, rfl, by decide +kernel, rfl, by decide +kernel, by decide +kernel⟩
abbrev N__law_split : List Str := ["floor", "size", "rooms", "k", "axis", "place", "kind", "told", "e"]
theorem sc__law_split : FnScope N__law_split ["floor", "size", "rooms", "k", "axis", "place"] (defScope (topS 39)) := ⟨rfl, rfl, rfl, by decide +kernel, rfl, by decide +kernel, by decide +kernel⟩
abbrev N__law_back : List Str := ["floor", "size", "rooms", "k", "axis", "place", "many", "parts", "told", "back"]
theorem sc__law_back : FnScope N__law_back ["floor", "size", "rooms", "k", "axis", "place"] (defScope (topS 40)) := ⟨rfl, rfl, rfl, by decide +kernel, rfl, by decide +kernel, by decide +kernel⟩
abbrev N__law_apart : List Str := ["state", "floor", "size", "rooms", "pairs", "pair", "a", "b", "axis", "place", "whole", "told"]
theorem sc__law_apart : FnScope N__law_apart ["state", "floor", "size", "rooms"] (defScope (topS 42)) := ⟨rfl, rfl, rfl, by decide +kernel, rfl, by decide +kernel, by decide +kernel⟩
abbrev N_law : List Str := ["script", "state", "one", "two", "size", "rooms", "floor", "other", "a", "b", "k", "axis", "low", "high", "places", "place"]
theorem sc_law : FnScope N_law ["script"] (defScope (topS 43)) := ⟨rfl, rfl, rfl, by decide +kernel, rfl, by decide +kernel, by decide +kernel⟩
structure Defs where
  CT : Str → Addr
  f_overlap : Addr
  d_overlap : FuncData
  f_Floor___len__ : Addr
  d_Floor___len__ : FuncData
  f_Floor___iter__ : Addr
  d_Floor___iter__ : FuncData
  f_Floor___eq__ : Addr
  d_Floor___eq__ : FuncData
  f_Floor_room : Addr
  d_Floor_room : FuncData
  f_union_of : Addr
  d_union_of : FuncData
  f__law_int : Addr
  d__law_int : FuncData
  f__law_state : Addr
  d__law_state : FuncData
  f__law_next : Addr
  d__law_next : FuncData
  f__law_over : Addr
  d__law_over : FuncData
  f__law_union : Addr
  d__law_union : FuncData
  f__law_parts : Addr
  d__law_parts : FuncData
  f_check_rooms : Addr
  d_check_rooms : FuncData
  f_room_fault : Addr
  d_room_fault : FuncData
  f__law_ints : Addr
  d__law_ints : FuncData
  f__law_push : Addr
  d__law_push : FuncData
  f__law_border : Addr
  d__law_border : FuncData
  f__law_order : Addr
  d__law_order : FuncData
  f__law_unions : Addr
  d__law_unions : FuncData
  f__law_together : Addr
  d__law_together : FuncData
  f_floor_fault : Addr
  d_floor_fault : FuncData
  f__law_slide : Addr
  d__law_slide : FuncData
  f_Floor___init__ : Addr
  d_Floor___init__ : FuncData
  f__law_floor : Addr
  d__law_floor : FuncData
  f_joinable : Addr
  d_joinable : FuncData
  f__law_drawn : Addr
  d__law_drawn : FuncData
  f__law_is : Addr
  d__law_is : FuncData
  f_split_room : Addr
  d_split_room : FuncData
  f_join_rooms : Addr
  d_join_rooms : FuncData
  f__law_listed : Addr
  d__law_listed : FuncData
  f__law_join : Addr
  d__law_join : FuncData
  f__law_split : Addr
  d__law_split : FuncData
  f__law_back : Addr
  d__law_back : FuncData
  f__law_apart : Addr
  d__law_apart : FuncData
  f_law : Addr
  d_law : FuncData
  i_BadCount : Addr
  i_BadFloor : Addr
  i_BadPlace : Addr
  i_NotJoined : Addr
  t_MOST_ROOMS_tools : Tok
  t_MOST_ROOMS_floors : Tok
def LY (K : PySem.W.Frag) (D : Defs) : Ly := ⟨K, D.CT, none⟩
structure Txt (P : Program) (K : PySem.W.Frag) (mg : Str → Option Value) (D : Defs) : Prop where
  F_overlap : Fun K "overlap" "overlap" (topS 9) D.f_overlap D.d_overlap
  b_overlap : Binds K D.d_overlap ["first", "second", "axis"] []
  g_overlap : mg "overlap" = some (.ref D.f_overlap)
  F_Floor___len__ : Fun K "__len__" "Floor.__len__" (metS 14 1) D.f_Floor___len__ D.d_Floor___len__
  b_Floor___len__ : Binds K D.d_Floor___len__ ["self"] []
  F_Floor___iter__ : Fun K "__iter__" "Floor.__iter__" (metS 14 2) D.f_Floor___iter__ D.d_Floor___iter__
  b_Floor___iter__ : Binds K D.d_Floor___iter__ ["self"] []
  F_Floor___eq__ : Fun K "__eq__" "Floor.__eq__" (metS 14 3) D.f_Floor___eq__ D.d_Floor___eq__
  b_Floor___eq__ : Binds K D.d_Floor___eq__ ["self", "other"] []
  F_Floor_room : Fun K "room" "Floor.room" (metS 14 4) D.f_Floor_room D.d_Floor_room
  b_Floor_room : Binds K D.d_Floor_room ["self", "k"] []
  F_union_of : Fun K "union_of" "union_of" (topS 16) D.f_union_of D.d_union_of
  b_union_of : Binds K D.d_union_of ["one", "two"] []
  g_union_of : mg "union_of" = some (.ref D.f_union_of)
  F__law_int : Fun K "_law_int" "_law_int" (topS 21) D.f__law_int D.d__law_int
  b__law_int : Binds K D.d__law_int ["value"] []
  g__law_int : mg "_law_int" = some (.ref D.f__law_int)
  F__law_state : Fun K "_law_state" "_law_state" (topS 23) D.f__law_state D.d__law_state
  b__law_state : Binds K D.d__law_state ["script", "k"] []
  g__law_state : mg "_law_state" = some (.ref D.f__law_state)
  F__law_next : Fun K "_law_next" "_law_next" (topS 24) D.f__law_next D.d__law_next
  b__law_next : Binds K D.d__law_next ["state", "size"] []
  g__law_next : mg "_law_next" = some (.ref D.f__law_next)
  F__law_over : Fun K "_law_over" "_law_over" (topS 25) D.f__law_over D.d__law_over
  b__law_over : Binds K D.d__law_over ["a", "b", "axis"] []
  g__law_over : mg "_law_over" = some (.ref D.f__law_over)
  F__law_union : Fun K "_law_union" "_law_union" (topS 34) D.f__law_union D.d__law_union
  b__law_union : Binds K D.d__law_union ["one", "two"] []
  g__law_union : mg "_law_union" = some (.ref D.f__law_union)
  F__law_parts : Fun K "_law_parts" "_law_parts" (topS 38) D.f__law_parts D.d__law_parts
  b__law_parts : Binds K D.d__law_parts ["rooms", "k", "axis", "place"] []
  g__law_parts : mg "_law_parts" = some (.ref D.f__law_parts)
  F_check_rooms : Fun K "check_rooms" "check_rooms" (topS 8) D.f_check_rooms D.d_check_rooms
  b_check_rooms : Binds K D.d_check_rooms ["rooms"] []
  g_check_rooms : mg "check_rooms" = some (.ref D.f_check_rooms)
  F_room_fault : Fun K "room_fault" "room_fault" (topS 12) D.f_room_fault D.d_room_fault
  b_room_fault : Binds K D.d_room_fault ["width", "height", "rooms", "place"] []
  g_room_fault : mg "room_fault" = some (.ref D.f_room_fault)
  F__law_ints : Fun K "_law_ints" "_law_ints" (topS 22) D.f__law_ints D.d__law_ints
  b__law_ints : Binds K D.d__law_ints ["value"] []
  g__law_ints : mg "_law_ints" = some (.ref D.f__law_ints)
  F__law_push : Fun K "_law_push" "_law_push" (topS 26) D.f__law_push D.d__law_push
  b__law_push : Binds K D.d__law_push ["state", "size", "rooms"] []
  g__law_push : mg "_law_push" = some (.ref D.f__law_push)
  F__law_border : Fun K "_law_border" "_law_border" (topS 27) D.f__law_border D.d__law_border
  b__law_border : Binds K D.d__law_border ["rooms", "axis", "first"] []
  g__law_border : mg "_law_border" = some (.ref D.f__law_border)
  F__law_order : Fun K "_law_order" "_law_order" (topS 31) D.f__law_order D.d__law_order
  b__law_order : Binds K D.d__law_order ["state", "many"] []
  g__law_order : mg "_law_order" = some (.ref D.f__law_order)
  F__law_unions : Fun K "_law_unions" "_law_unions" (topS 35) D.f__law_unions D.d__law_unions
  b__law_unions : Binds K D.d__law_unions ["rooms"] []
  g__law_unions : mg "_law_unions" = some (.ref D.f__law_unions)
  F__law_together : Fun K "_law_together" "_law_together" (topS 36) D.f__law_together D.d__law_together
  b__law_together : Binds K D.d__law_together ["rooms", "a", "b"] []
  g__law_together : mg "_law_together" = some (.ref D.f__law_together)
  F_floor_fault : Fun K "floor_fault" "floor_fault" (topS 13) D.f_floor_fault D.d_floor_fault
  b_floor_fault : Binds K D.d_floor_fault ["width", "height", "rooms"] []
  g_floor_fault : mg "floor_fault" = some (.ref D.f_floor_fault)
  F__law_slide : Fun K "_law_slide" "_law_slide" (topS 28) D.f__law_slide D.d__law_slide
  b__law_slide : Binds K D.d__law_slide ["state", "size", "rooms"] []
  g__law_slide : mg "_law_slide" = some (.ref D.f__law_slide)
  F_Floor___init__ : Fun K "__init__" "Floor.__init__" (metS 14 0) D.f_Floor___init__ D.d_Floor___init__
  b_Floor___init__ : Binds K D.d_Floor___init__ ["self", "width", "height", "rooms"] []
  F__law_floor : Fun K "_law_floor" "_law_floor" (topS 30) D.f__law_floor D.d__law_floor
  b__law_floor : Binds K D.d__law_floor ["state", "rooms", "slides", "plain"] []
  g__law_floor : mg "_law_floor" = some (.ref D.f__law_floor)
  F_joinable : Fun K "joinable" "joinable" (topS 19) D.f_joinable D.d_joinable
  b_joinable : Binds K D.d_joinable ["floor"] []
  g_joinable : mg "joinable" = some (.ref D.f_joinable)
  F__law_drawn : Fun K "_law_drawn" "_law_drawn" (topS 32) D.f__law_drawn D.d__law_drawn
  b__law_drawn : Binds K D.d__law_drawn ["state"] []
  g__law_drawn : mg "_law_drawn" = some (.ref D.f__law_drawn)
  F__law_is : Fun K "_law_is" "_law_is" (topS 33) D.f__law_is D.d__law_is
  b__law_is : Binds K D.d__law_is ["floor", "size", "rooms"] []
  g__law_is : mg "_law_is" = some (.ref D.f__law_is)
  F_split_room : Fun K "split_room" "split_room" (topS 17) D.f_split_room D.d_split_room
  b_split_room : Binds K D.d_split_room ["floor", "room", "axis", "place"] []
  g_split_room : mg "split_room" = some (.ref D.f_split_room)
  F_join_rooms : Fun K "join_rooms" "join_rooms" (topS 18) D.f_join_rooms D.d_join_rooms
  b_join_rooms : Binds K D.d_join_rooms ["floor", "a", "b"] []
  g_join_rooms : mg "join_rooms" = some (.ref D.f_join_rooms)
  F__law_listed : Fun K "_law_listed" "_law_listed" (topS 41) D.f__law_listed D.d__law_listed
  b__law_listed : Binds K D.d__law_listed ["floor", "rooms"] []
  g__law_listed : mg "_law_listed" = some (.ref D.f__law_listed)
  F__law_join : Fun K "_law_join" "_law_join" (topS 37) D.f__law_join D.d__law_join
  b__law_join : Binds K D.d__law_join ["floor", "size", "rooms", "a", "b"] []
  g__law_join : mg "_law_join" = some (.ref D.f__law_join)
  F__law_split : Fun K "_law_split" "_law_split" (topS 39) D.f__law_split D.d__law_split
  b__law_split : Binds K D.d__law_split ["floor", "size", "rooms", "k", "axis", "place"] []
  g__law_split : mg "_law_split" = some (.ref D.f__law_split)
  F__law_back : Fun K "_law_back" "_law_back" (topS 40) D.f__law_back D.d__law_back
  b__law_back : Binds K D.d__law_back ["floor", "size", "rooms", "k", "axis", "place"] []
  g__law_back : mg "_law_back" = some (.ref D.f__law_back)
  F__law_apart : Fun K "_law_apart" "_law_apart" (topS 42) D.f__law_apart D.d__law_apart
  b__law_apart : Binds K D.d__law_apart ["state", "floor", "size", "rooms"] []
  g__law_apart : mg "_law_apart" = some (.ref D.f__law_apart)
  F_law : Fun K "law" "law" (topS 43) D.f_law D.d_law
  b_law : Binds K D.d_law ["script"] []
  g_law : mg "law" = some (.ref D.f_law)
  n_len : mg "len" = none
  n_abs : mg "abs" = none
  n_int : mg "int" = none
  n_max : mg "max" = none
  n_min : mg "min" = none
  n_sorted : mg "sorted" = none
  n_list : mg "list" = none
  n_tuple : mg "tuple" = none
  n_isinstance : mg "isinstance" = none
  n_range : mg "range" = none
  n_enumerate : mg "enumerate" = none
  n_bool : mg "bool" = none
  n_iter : mg "iter" = none
  n_ValueError : mg "ValueError" = none
  k_MOST_ROOMS_tools : mg "MOST_ROOMS_tools" = some (.int 20 D.t_MOST_ROOMS_tools)
  k_MOST_ROOMS_floors : mg "MOST_ROOMS_floors" = some (.int 20 D.t_MOST_ROOMS_floors)
  g_FitError : mg "FitError" = some (.ref (D.CT "FitError"))
  g_BadCount : mg "BadCount" = some (.ref (D.CT "BadCount"))
  g_BadFloor : mg "BadFloor" = some (.ref (D.CT "BadFloor"))
  g_BadPlace : mg "BadPlace" = some (.ref (D.CT "BadPlace"))
  g_NotJoined : mg "NotJoined" = some (.ref (D.CT "NotJoined"))
  g_Floor : mg "Floor" = some (.ref (D.CT "Floor"))
  e_BadCount : ErrTxt P K "number" (D.CT "BadCount") D.i_BadCount
  e_BadFloor : ErrTxt P K "fault" (D.CT "BadFloor") D.i_BadFloor
  e_BadPlace : ErrTxt P K "place" (D.CT "BadPlace") D.i_BadPlace
  e_NotJoined : ErrTxt P K "pair" (D.CT "NotJoined") D.i_NotJoined
  eqC : PySem.W.findIn K (.ref (D.CT "Floor")) "__eq__" = some (some (.ref D.f_Floor___eq__))
  eqF : PySem.W.isFn K (.ref D.f_Floor___eq__) = true
  lenC : PySem.W.findIn K (.ref (D.CT "Floor")) "__len__" = some (some (.ref D.f_Floor___len__))
  lenF : PySem.W.isFn K (.ref D.f_Floor___len__) = true
  itC : PySem.W.findIn K (.ref (D.CT "Floor")) "__iter__" = some (some (.ref D.f_Floor___iter__))
  itF : PySem.W.isFn K (.ref D.f_Floor___iter__) = true
  clO : Cls K (D.CT "Floor")
  mkO : Mk K (D.CT "Floor") D.f_Floor___init__
  mt_room : Meth K (D.CT "Floor") "room" D.f_Floor_room
  fl__rooms : ∀ c ∈ (["Floor"] : List Str), Cls K (D.CT c) ∧ NoAttr K (D.CT c) "_rooms"
  fl_height : ∀ c ∈ (["Floor"] : List Str), Cls K (D.CT c) ∧ NoAttr K (D.CT c) "height"
  fl_width : ∀ c ∈ (["Floor"] : List Str), Cls K (D.CT c) ∧ NoAttr K (D.CT c) "width"
  tI : TabOk (LY K D) tabI
  tX : TabOk (LY K D) tabX
  tE : TabX (LY K D) tabE
  ownI : ∀ c, (∃ u b, ((Sum.inr c, u), b) ∈ tabI) → OwnC (LY K D) c
  exC : ∀ c ∈ EXS, ExcC K (D.CT c)
  xf_pair : ∀ c ∈ EXS_pair, XFld K (D.CT c) "pair"
  xf_place : ∀ c ∈ EXS_place, XFld K (D.CT c) "place"
  xf_number : ∀ c ∈ EXS_number, XFld K (D.CT c) "number"
theorem fo_fault : FldOk "fault" := ⟨by decide, by decide, by decide, by decide, by decide, fun _ _ _ _ _ _ _ _ _ _ _ _ _ _ => rfl⟩
theorem fo_number : FldOk "number" := ⟨by decide, by decide, by decide, by decide, by decide, fun _ _ _ _ _ _ _ _ _ _ _ _ _ _ => rfl⟩
theorem fo_pair : FldOk "pair" := ⟨by decide, by decide, by decide, by decide, by decide, fun _ _ _ _ _ _ _ _ _ _ _ _ _ _ => rfl⟩
theorem fo_place : FldOk "place" := ⟨by decide, by decide, by decide, by decide, by decide, fun _ _ _ _ _ _ _ _ _ _ _ _ _ _ => rfl⟩
end K31
end
end
section
set_option Elab.async false
set_option linter.all false
set_option maxRecDepth 100000
set_option maxHeartbeats 4000001
noncomputable section
namespace K31
open PySem L2 VL PySem.OwnErr
variable {P : Program} {w : World} {K : PySem.W.Frag} {mg : Str → Option Value} {base : Heap} {D : Defs}
theorem ok_overlap (T : Txt P K mg D) : FnOk P w K mg base (L2.CX P w) 1 D.f_overlap D.d_overlap ["first", "second", "axis"] (spM (LY K D) m_overlap) :=
  fn_ok (N := N_overlap) (ps := ["first", "second", "axis"]) (L := LY K D) (S := [0, 1, 2]) (body := b_overlap) T.F_overlap sc_overlap (by decide) (by decide) fun cdv A outer s H E hr =>
    (sss_one (ss_ret (ee_n (pn_cmp op_lt eff_lt (pn_pp (pn_callB (call_max2 rfl) eff_max2 rfl T.n_max (by decide +kernel) (pap_cons (pp_ix ix_seq pure_ix (pp_name (pv 0)) (pp_name (pv 2)) (fun _ _ => rfl)) (pap_cons (pp_ix ix_seq pure_ix (pp_name (pv 1)) (pp_name (pv 2)) (fun _ _ => rfl)) pap_nil)))) (pn_pp (pn_callB (call_min2 rfl) eff_min2 rfl T.n_min (by decide +kernel) (pap_cons (pp_ix ix_seq pure_ix (pp_name (pv 0)) (pn_pp (pn_op op_addX eff_addX (pp_name (pv 2)) (pp_const (d := .int 2) pe_int fun _ _ => ⟨rfl, rfl⟩))) (fun _ _ => rfl)) (pap_cons (pp_ix ix_seq pure_ix (pp_name (pv 1)) (pn_pp (pn_op op_addX eff_addX (pp_name (pv 2)) (pp_const (d := .int 2) pe_int fun _ _ => ⟨rfl, rfl⟩))) (fun _ _ => rfl)) pap_nil)))) (by first | exact nomark _ | rfl)))))
theorem ok_Floor___len__ (T : Txt P K mg D) : FnOk P w K mg base (L2.CX P w) 1 D.f_Floor___len__ D.d_Floor___len__ ["self"] (spM (LY K D) m_Floor___len__) :=
  fn_ok (N := N_Floor___len__) (ps := ["self"]) (L := LY K D) (S := [0]) (body := b_Floor___len__) T.F_Floor___len__ sc_Floor___len__ (by decide) (by decide) fun cdv A outer s H E hr =>
    (sss_one (ss_ret (ee_n (pn_callB call_len eff_len rfl T.n_len (by decide +kernel) (pap_cons (pp_fld rfl T.fl__rooms (pp_name (pv 0))) pap_nil)))))
theorem ok_Floor___iter__ (T : Txt P K mg D) : FnOk P w K mg base (L2.CX P w) 1 D.f_Floor___iter__ D.d_Floor___iter__ ["self"] (spIt K (D.CT "Floor") "_rooms") :=
  it_ok T.F_Floor___iter__ sc_Floor___iter__ T.clO (T.fl__rooms _ (by decide)).2 fun cdv A outer s H E => pss_one (ps_ret (pe_callB call_iterL rfl T.n_iter (by decide +kernel) (pa_cons (pe_fld (pv 0) rfl) pa_nil)))
theorem ok_Floor___eq__ (T : Txt P K mg D) : FnOk P w K mg base (L2.CX P w) 1 D.f_Floor___eq__ D.d_Floor___eq__ ["self", "other"] (spM (LY K D) m_Floor___eq__) :=
  fn_ok (N := N_Floor___eq__) (ps := ["self", "other"]) (L := LY K D) (S := [0, 1]) (body := b_Floor___eq__) T.F_Floor___eq__ sc_Floor___eq__ (by decide) (by decide) fun cdv A outer s H E hr =>
    (sss_one (ss_ret (ee_lock (is := []) (pp_and (pn_pp (pn_callB call_isiA (eff_isi T.tI T.ownI) rfl T.n_isinstance (by decide +kernel) (pap_cons (pp_name (pv 1)) (pap_cons (pp_const (pe_glob (v := .ref (D.CT "Floor")) rfl T.g_Floor rfl) fun _ _ => ⟨rfl, rfl⟩) pap_nil)))) (pp_and (pn_pp (pn_cmp (op_eqA hr.units) eff_eq (pp_fld rfl T.fl_width (pp_name (pv 0))) (pp_fld rfl T.fl_width (pp_name (pv 1))) (by first | exact nomark _ | rfl))) (pp_and (pn_pp (pn_cmp (op_eqA hr.units) eff_eq (pp_fld rfl T.fl_height (pp_name (pv 0))) (pp_fld rfl T.fl_height (pp_name (pv 1))) (by first | exact nomark _ | rfl))) (pp_one (pn_pp (pn_cmp (op_eqA hr.units) eff_eq (pp_fld rfl T.fl__rooms (pp_name (pv 0))) (pp_fld rfl T.fl__rooms (pp_name (pv 1))) (by first | exact nomark _ | rfl))))))))))
theorem ok_Floor_room (T : Txt P K mg D) : FnOk P w K mg base (L2.CX P w) 1 D.f_Floor_room D.d_Floor_room ["self", "k"] (spM (LY K D) m_Floor_room) :=
  fn_ok (N := N_Floor_room) (ps := ["self", "k"]) (L := LY K D) (S := [0, 1]) (body := b_Floor_room) T.F_Floor_room sc_Floor_room (by decide) (by decide) fun cdv A outer s H E hr =>
    (sss_one (ss_ret (ee_lock (is := [0]) (pp_ix ix_seq pure_ix (pp_fld rfl T.fl__rooms (pp_name (pv 0))) (pp_name (pv 1)) (fun _ _ => rfl)))))
theorem ok_union_of (T : Txt P K mg D) : FnOk P w K mg base (L2.CX P w) 1 D.f_union_of D.d_union_of ["one", "two"] (spM (LY K D) m_union_of) :=
  fn_ok (N := N_union_of) (ps := ["one", "two"]) (L := LY K D) (S := [0, 1]) (body := b_union_of) T.F_union_of sc_union_of (by decide) (by decide) fun cdv A outer s H E hr =>
    (sss_cons (ss_forT (by rfl) (by exact passes_of rfl) (by rfl) (by exact (ee_lock (is := []) (pp_tup (pap_cons (pp_const (d := .int 0) pe_int fun _ _ => ⟨rfl, rfl⟩) (pap_cons (pp_const (d := .int 1) pe_int fun _ _ => ⟨rfl, rfl⟩) pap_nil))))) (by exact (sg_nm (i := 2) (keep_nm (by decide)) sc_union_of.nd rfl (by first | exact .inl rfl | exact .inr rfl))) (by exact (sss_cons (ss_set (i := 3) (by decide) sc_union_of.nd rfl (by first | exact .inl rfl | exact .inr rfl) (ee_lock (is := []) (pp_and (pn_pp (pn_cmp (op_eqA hr.units) eff_eq (pp_ix ix_seq pure_ix (pp_name (pv 0)) (pn_pp (pn_op op_sub eff_sub (pp_const (d := .int 1) pe_int fun _ _ => ⟨rfl, rfl⟩) (pp_name (pv 2)))) (fun _ _ => rfl)) (pp_ix ix_seq pure_ix (pp_name (pv 1)) (pn_pp (pn_op op_sub eff_sub (pp_const (d := .int 1) pe_int fun _ _ => ⟨rfl, rfl⟩) (pp_name (pv 2)))) (fun _ _ => rfl)) (by first | exact nomark _ | rfl))) (pp_one (pn_pp (pn_cmp (op_eqA hr.units) eff_eq (pp_ix ix_seq pure_ix (pp_name (pv 0)) (pn_pp (pn_op op_sub eff_sub (pp_const (d := .int 3) pe_int fun _ _ => ⟨rfl, rfl⟩) (pp_name (pv 2)))) (fun _ _ => rfl)) (pp_ix ix_seq pure_ix (pp_name (pv 1)) (pn_pp (pn_op op_sub eff_sub (pp_const (d := .int 3) pe_int fun _ _ => ⟨rfl, rfl⟩) (pp_name (pv 2)))) (fun _ _ => rfl)) (by first | exact nomark _ | rfl))))))) (sss_cons (ss_if (et_lift (L2.PW.pt (pqw_and (pq_val (pp_name (pv 3))) (pqw_and1 (pq_cmp (op_eqA hr.units) eff_eq.pure (pp_ix ix_seq pure_ix (pp_name (pv 0)) (pn_pp (pn_op op_addX eff_addX (pp_name (pv 2)) (pp_const (d := .int 2) pe_int fun _ _ => ⟨rfl, rfl⟩))) (fun _ _ => rfl)) (pp_ix ix_seq pure_ix (pp_name (pv 1)) (pp_name (pv 2)) (fun _ _ => rfl)) (by first | exact nomark _ | rfl)))))) (sss_one (ss_ret (ee_lock (is := [0, 1]) (pp_tup (pap_cons (pp_ix ix_seq pure_ix (pp_name (pv 0)) (pp_const (d := .int 0) pe_int fun _ _ => ⟨rfl, rfl⟩) (fun _ _ => rfl)) (pap_cons (pp_ix ix_seq pure_ix (pp_name (pv 0)) (pp_const (d := .int 1) pe_int fun _ _ => ⟨rfl, rfl⟩) (fun _ _ => rfl)) (pap_cons (pp_ix ix_seq pure_ix (pp_name (pv 1)) (pp_const (d := .int 2) pe_int fun _ _ => ⟨rfl, rfl⟩) (fun _ _ => rfl)) (pap_cons (pp_ix ix_seq pure_ix (pp_name (pv 1)) (pp_const (d := .int 3) pe_int fun _ _ => ⟨rfl, rfl⟩) (fun _ _ => rfl)) pap_nil)))))))) sss_nil) (sss_one (ss_if (et_lift (L2.PW.pt (pqw_and (pq_val (pp_name (pv 3))) (pqw_and1 (pq_cmp (op_eqA hr.units) eff_eq.pure (pp_ix ix_seq pure_ix (pp_name (pv 1)) (pn_pp (pn_op op_addX eff_addX (pp_name (pv 2)) (pp_const (d := .int 2) pe_int fun _ _ => ⟨rfl, rfl⟩))) (fun _ _ => rfl)) (pp_ix ix_seq pure_ix (pp_name (pv 0)) (pp_name (pv 2)) (fun _ _ => rfl)) (by first | exact nomark _ | rfl)))))) (sss_one (ss_ret (ee_lock (is := [1, 0]) (pp_tup (pap_cons (pp_ix ix_seq pure_ix (pp_name (pv 1)) (pp_const (d := .int 0) pe_int fun _ _ => ⟨rfl, rfl⟩) (fun _ _ => rfl)) (pap_cons (pp_ix ix_seq pure_ix (pp_name (pv 1)) (pp_const (d := .int 1) pe_int fun _ _ => ⟨rfl, rfl⟩) (fun _ _ => rfl)) (pap_cons (pp_ix ix_seq pure_ix (pp_name (pv 0)) (pp_const (d := .int 2) pe_int fun _ _ => ⟨rfl, rfl⟩) (fun _ _ => rfl)) (pap_cons (pp_ix ix_seq pure_ix (pp_name (pv 0)) (pp_const (d := .int 3) pe_int fun _ _ => ⟨rfl, rfl⟩) (fun _ _ => rfl)) pap_nil)))))))) sss_nil)))))) (sss_one (ss_ret (ee_lock (is := []) (pp_const (d := .non) pe_non fun _ _ => ⟨rfl, rfl⟩)))))
theorem ok__law_int (T : Txt P K mg D) : FnOk P w K mg base (L2.CX P w) 1 D.f__law_int D.d__law_int ["value"] (spM (LY K D) m__law_int) :=
  fn_ok (N := N__law_int) (ps := ["value"]) (L := LY K D) (S := [0]) (body := b__law_int) T.F__law_int sc__law_int (by decide) (by decide) fun cdv A outer s H E hr =>
    (sss_one (ss_ret (ee_lock (is := []) (pp_and (pn_pp (pn_callB call_isiA (eff_isi T.tI T.ownI) rfl T.n_isinstance (by decide +kernel) (pap_cons (pp_name (pv 0)) (pap_cons (pp_const (pe_bltn (v := .ty "int") (u := .type "int") rfl T.n_int (by decide +kernel) rfl) fun _ _ => ⟨rfl, rfl⟩) pap_nil)))) (pp_one (pp_not (pn_pp (pn_callB call_isiA (eff_isi T.tI T.ownI) rfl T.n_isinstance (by decide +kernel) (pap_cons (pp_name (pv 0)) (pap_cons (pp_const (pe_bltn (v := .ty "bool") (u := .type "bool") rfl T.n_bool (by decide +kernel) rfl) fun _ _ => ⟨rfl, rfl⟩) pap_nil))))))))))
theorem ok__law_state (T : Txt P K mg D) : FnOk P w K mg base (L2.CX P w) 1 D.f__law_state D.d__law_state ["script", "k"] (spM (LY K D) m__law_state) :=
  fn_ok (N := N__law_state) (ps := ["script", "k"]) (L := LY K D) (S := [0, 1]) (body := b__law_state) T.F__law_state sc__law_state (by decide) (by decide) fun cdv A outer s H E hr =>
    (sss_cons (ss_set (i := 2) (by decide) sc__law_state.nd rfl (by first | exact .inl rfl | exact .inr rfl) (ee_lock (is := []) (pp_const (d := .int 0) pe_int fun _ _ => ⟨rfl, rfl⟩))) (sss_cons (ss_if (et_lift (pq_cmp op_lt eff_lt.pure (pp_name (pv 1)) (pn_pp (pn_callB call_len eff_len rfl T.n_len (by decide +kernel) (pap_cons (pp_name (pv 0)) pap_nil))) (by first | exact nomark _ | rfl))) (sss_one (ss_set (i := 2) (by decide) sc__law_state.nd rfl (by first | exact .inl rfl | exact .inr rfl) (ee_n (pn_callB call_abs eff_abs rfl T.n_abs (by decide +kernel) (pap_cons (pn_pp (pn_callTy call_int1 eff_int1 rfl T.n_int (by decide +kernel) (pap_cons (pp_ix ix_seq pure_ix (pp_name (pv 0)) (pp_name (pv 1)) (fun _ _ => rfl)) pap_nil))) pap_nil))))) sss_nil) (sss_cons (ss_if (et_lift (pq_cmp op_ge eff_ge.pure (pp_name (pv 2)) (pp_const (d := .int 1000000000000000000) pe_int fun _ _ => ⟨rfl, rfl⟩) (by first | exact nomark _ | rfl))) (sss_one (ss_ret (ee_n (pn_lst (pap_cons (pp_name (pv 2)) (pap_cons (pp_const (d := .int 0) pe_int fun _ _ => ⟨rfl, rfl⟩) (pap_cons (pp_const (d := .int 1) pe_int fun _ _ => ⟨rfl, rfl⟩) pap_nil))))))) sss_nil) (sss_cons (ss_forL (by rfl) (by exact passes_of rfl) (by rfl) (by exact (ee_n (pn_slice rfl (pp_name (pv 0)) om_none (om_some (pp_const (d := .int 63) pe_int fun _ _ => ⟨rfl, rfl⟩))))) (by exact (sg_nm (i := 3) (keep_nm (by decide)) sc__law_state.nd rfl (by first | exact .inl rfl | exact .inr rfl))) (by exact (sss_one (ss_set (i := 2) (by decide) sc__law_state.nd rfl (by first | exact .inl rfl | exact .inr rfl) (ee_n (pn_op op_mod eff_mod (pn_pp (pn_callTy call_int1 eff_int1 rfl T.n_int (by decide +kernel) (pap_cons (pn_pp (pn_op op_addX eff_addX (pn_pp (pn_op op_addX eff_addX (pn_pp (pn_op op_mul eff_mul (pp_name (pv 2)) (pp_const (d := .int 31) pe_int fun _ _ => ⟨rfl, rfl⟩))) (pn_pp (pn_callB call_abs eff_abs rfl T.n_abs (by decide +kernel) (pap_cons (pn_pp (pn_callTy call_int1 eff_int1 rfl T.n_int (by decide +kernel) (pap_cons (pp_name (pv 3)) pap_nil))) pap_nil))))) (pp_name (pv 1)))) pap_nil))) (pp_const (d := .int 999999999989) pe_int fun _ _ => ⟨rfl, rfl⟩))))))) (sss_one (ss_ret (ee_n (pn_lst (pap_cons (pn_pp (pn_op op_addX eff_addX (pp_name (pv 2)) (pn_pp (pn_op op_mul eff_mul (pp_const (d := .int 101) pe_int fun _ _ => ⟨rfl, rfl⟩) (pp_name (pv 1)))))) (pap_cons (pp_const (d := .int 0) pe_int fun _ _ => ⟨rfl, rfl⟩) (pap_cons (pp_const (d := .int 0) pe_int fun _ _ => ⟨rfl, rfl⟩) pap_nil)))))))))))
theorem ok__law_next (T : Txt P K mg D) : FnOk P w K mg base (L2.CX P w) 1 D.f__law_next D.d__law_next ["state", "size"] (spM (LY K D) m__law_next) :=
  fn_ok (N := N__law_next) (ps := ["state", "size"]) (L := LY K D) (S := [0, 1]) (body := b__law_next) T.F__law_next sc__law_next (by decide) (by decide) fun cdv A outer s H E hr =>
    (sss_cons (ss_store rfl (by exact (ee_n (pn_op op_addX eff_addX (pp_ix ix_seq pure_ix (pp_name (pv 0)) (pp_const (d := .int 1) pe_int fun _ _ => ⟨rfl, rfl⟩) (fun _ _ => rfl)) (pp_const (d := .int 1) pe_int fun _ _ => ⟨rfl, rfl⟩)))) (by exact (loc_name (pv 0))) (by exact (pp_const (d := .int 1) pe_int fun _ _ => ⟨rfl, rfl⟩))) (sss_cons (ss_if (et_lift (L2.PW.pt (pqw_and (pq_cmp (op_eqA hr.units) eff_eq.pure (pp_ix ix_seq pure_ix (pp_name (pv 0)) (pp_const (d := .int 2) pe_int fun _ _ => ⟨rfl, rfl⟩) (fun _ _ => rfl)) (pp_const (d := .int 1) pe_int fun _ _ => ⟨rfl, rfl⟩) (by first | exact nomark _ | rfl)) (pqw_and1 (pq_cmp op_gt eff_gt.pure (pp_ix ix_seq pure_ix (pp_name (pv 0)) (pp_const (d := .int 0) pe_int fun _ _ => ⟨rfl, rfl⟩) (fun _ _ => rfl)) (pp_const (d := .int 0) pe_int fun _ _ => ⟨rfl, rfl⟩) (by first | exact nomark _ | rfl)))))) (sss_cons (ss_set (i := 2) (by decide) sc__law_next.nd rfl (by first | exact .inl rfl | exact .inr rfl) (ee_n (pn_op op_mod eff_mod (pn_pp (pn_callTy call_int1 eff_int1 rfl T.n_int (by decide +kernel) (pap_cons (pp_ix ix_seq pure_ix (pp_name (pv 0)) (pp_const (d := .int 0) pe_int fun _ _ => ⟨rfl, rfl⟩) (fun _ _ => rfl)) pap_nil))) (pp_name (pv 1))))) (sss_cons (ss_store rfl (by exact (ee_n (pn_op op_fdivW eff_fdiv (pn_pp (pn_callTy call_int1 eff_int1 rfl T.n_int (by decide +kernel) (pap_cons (pp_ix ix_seq pure_ix (pp_name (pv 0)) (pp_const (d := .int 0) pe_int fun _ _ => ⟨rfl, rfl⟩) (fun _ _ => rfl)) pap_nil))) (pp_name (pv 1))))) (by exact (loc_name (pv 0))) (by exact (pp_const (d := .int 0) pe_int fun _ _ => ⟨rfl, rfl⟩))) (sss_one (ss_ret (ee_nM (pv 2)))))) sss_nil) (sss_cons (ss_set (i := 3) (by decide) sc__law_next.nd rfl (by first | exact .inl rfl | exact .inr rfl) (ee_n (pn_op op_mod eff_mod (pn_pp (pn_callTy call_int1 eff_int1 rfl T.n_int (by decide +kernel) (pap_cons (pn_pp (pn_op op_addX eff_addX (pn_pp (pn_op op_addX eff_addX (pp_ix ix_seq pure_ix (pp_name (pv 0)) (pp_const (d := .int 0) pe_int fun _ _ => ⟨rfl, rfl⟩) (fun _ _ => rfl)) (pn_pp (pn_op op_mul eff_mul (pp_const (d := .int 7919) pe_int fun _ _ => ⟨rfl, rfl⟩) (pp_ix ix_seq pure_ix (pp_name (pv 0)) (pp_const (d := .int 1) pe_int fun _ _ => ⟨rfl, rfl⟩) (fun _ _ => rfl)))))) (pp_const (d := .int 13) pe_int fun _ _ => ⟨rfl, rfl⟩))) pap_nil))) (pp_const (d := .int 2147483647) pe_int fun _ _ => ⟨rfl, rfl⟩)))) (sss_cons (ss_set (i := 3) (by decide) sc__law_next.nd rfl (by first | exact .inl rfl | exact .inr rfl) (ee_n (pn_op op_mod eff_mod (pn_pp (pn_callTy call_int1 eff_int1 rfl T.n_int (by decide +kernel) (pap_cons (pn_pp (pn_op op_mul eff_mul (pp_name (pv 3)) (pn_pp (pn_op op_addX eff_addX (pp_name (pv 3)) (pp_const (d := .int 48271) pe_int fun _ _ => ⟨rfl, rfl⟩))))) pap_nil))) (pp_const (d := .int 2147483629) pe_int fun _ _ => ⟨rfl, rfl⟩)))) (sss_cons (ss_set (i := 3) (by decide) sc__law_next.nd rfl (by first | exact .inl rfl | exact .inr rfl) (ee_n (pn_op op_mod eff_mod (pn_pp (pn_callTy call_int1 eff_int1 rfl T.n_int (by decide +kernel) (pap_cons (pn_pp (pn_op op_addX eff_addX (pn_pp (pn_op op_mul eff_mul (pp_name (pv 3)) (pn_pp (pn_op op_addX eff_addX (pp_name (pv 3)) (pp_const (d := .int 69621) pe_int fun _ _ => ⟨rfl, rfl⟩))))) (pn_pp (pn_op op_mul eff_mul (pp_const (d := .int 31) pe_int fun _ _ => ⟨rfl, rfl⟩) (pp_ix ix_seq pure_ix (pp_name (pv 0)) (pp_const (d := .int 1) pe_int fun _ _ => ⟨rfl, rfl⟩) (fun _ _ => rfl)))))) pap_nil))) (pp_const (d := .int 2147483647) pe_int fun _ _ => ⟨rfl, rfl⟩)))) (sss_one (ss_ret (ee_n (pn_op op_mod eff_mod (pn_pp (pn_callTy call_int1 eff_int1 rfl T.n_int (by decide +kernel) (pap_cons (pn_pp (pn_op op_fdivW eff_fdiv (pp_name (pv 3)) (pp_const (d := .int 9) pe_int fun _ _ => ⟨rfl, rfl⟩))) pap_nil))) (pp_name (pv 1)))))))))))
theorem ok__law_over (T : Txt P K mg D) : FnOk P w K mg base (L2.CX P w) 1 D.f__law_over D.d__law_over ["a", "b", "axis"] (spM (LY K D) m__law_over) :=
  fn_ok (N := N__law_over) (ps := ["a", "b", "axis"]) (L := LY K D) (S := [0, 1, 2]) (body := b__law_over) T.F__law_over sc__law_over (by decide) (by decide) fun cdv A outer s H E hr =>
    (sss_one (ss_ret (ee_n (pn_cmp op_gt eff_gt (pn_pp (pn_callB (call_min2 rfl) eff_min2 rfl T.n_min (by decide +kernel) (pap_cons (pp_ix ix_seq pure_ix (pp_name (pv 0)) (pn_pp (pn_op op_addX eff_addX (pp_name (pv 2)) (pp_const (d := .int 2) pe_int fun _ _ => ⟨rfl, rfl⟩))) (fun _ _ => rfl)) (pap_cons (pp_ix ix_seq pure_ix (pp_name (pv 1)) (pn_pp (pn_op op_addX eff_addX (pp_name (pv 2)) (pp_const (d := .int 2) pe_int fun _ _ => ⟨rfl, rfl⟩))) (fun _ _ => rfl)) pap_nil)))) (pn_pp (pn_callB (call_max2 rfl) eff_max2 rfl T.n_max (by decide +kernel) (pap_cons (pp_ix ix_seq pure_ix (pp_name (pv 0)) (pp_name (pv 2)) (fun _ _ => rfl)) (pap_cons (pp_ix ix_seq pure_ix (pp_name (pv 1)) (pp_name (pv 2)) (fun _ _ => rfl)) pap_nil)))) (by first | exact nomark _ | rfl)))))
theorem ok__law_union (T : Txt P K mg D) : FnOk P w K mg base (L2.CX P w) 1 D.f__law_union D.d__law_union ["one", "two"] (spM (LY K D) m__law_union) :=
  fn_ok (N := N__law_union) (ps := ["one", "two"]) (L := LY K D) (S := [0, 1]) (body := b__law_union) T.F__law_union sc__law_union (by decide) (by decide) fun cdv A outer s H E hr =>
    (sss_cons (ss_set (i := 2) (by decide) sc__law_union.nd rfl (by first | exact .inl rfl | exact .inr rfl) (ee_lock (is := []) (pp_tup (pap_cons (pn_pp (pn_callB (call_min2 rfl) eff_min2 rfl T.n_min (by decide +kernel) (pap_cons (pp_ix ix_seq pure_ix (pp_name (pv 0)) (pp_const (d := .int 0) pe_int fun _ _ => ⟨rfl, rfl⟩) (fun _ _ => rfl)) (pap_cons (pp_ix ix_seq pure_ix (pp_name (pv 1)) (pp_const (d := .int 0) pe_int fun _ _ => ⟨rfl, rfl⟩) (fun _ _ => rfl)) pap_nil)))) (pap_cons (pn_pp (pn_callB (call_min2 rfl) eff_min2 rfl T.n_min (by decide +kernel) (pap_cons (pp_ix ix_seq pure_ix (pp_name (pv 0)) (pp_const (d := .int 1) pe_int fun _ _ => ⟨rfl, rfl⟩) (fun _ _ => rfl)) (pap_cons (pp_ix ix_seq pure_ix (pp_name (pv 1)) (pp_const (d := .int 1) pe_int fun _ _ => ⟨rfl, rfl⟩) (fun _ _ => rfl)) pap_nil)))) (pap_cons (pn_pp (pn_callB (call_max2 rfl) eff_max2 rfl T.n_max (by decide +kernel) (pap_cons (pp_ix ix_seq pure_ix (pp_name (pv 0)) (pp_const (d := .int 2) pe_int fun _ _ => ⟨rfl, rfl⟩) (fun _ _ => rfl)) (pap_cons (pp_ix ix_seq pure_ix (pp_name (pv 1)) (pp_const (d := .int 2) pe_int fun _ _ => ⟨rfl, rfl⟩) (fun _ _ => rfl)) pap_nil)))) (pap_cons (pn_pp (pn_callB (call_max2 rfl) eff_max2 rfl T.n_max (by decide +kernel) (pap_cons (pp_ix ix_seq pure_ix (pp_name (pv 0)) (pp_const (d := .int 3) pe_int fun _ _ => ⟨rfl, rfl⟩) (fun _ _ => rfl)) (pap_cons (pp_ix ix_seq pure_ix (pp_name (pv 1)) (pp_const (d := .int 3) pe_int fun _ _ => ⟨rfl, rfl⟩) (fun _ _ => rfl)) pap_nil)))) pap_nil))))))) (sss_cons (ss_set (i := 3) (by decide) sc__law_union.nd rfl (by first | exact .inl rfl | exact .inr rfl) (ee_lock (is := []) (pp_const (d := .int 0) pe_int fun _ _ => ⟨rfl, rfl⟩))) (sss_cons (ss_forL (by rfl) (by exact passes_of rfl) (by rfl) (by exact (ee_n (pn_lst (pap_cons (pp_name (pv 0)) (pap_cons (pp_name (pv 1)) pap_nil))))) (by exact (sg_nm (i := 4) (keep_nm (by decide)) sc__law_union.nd rfl (by first | exact .inl rfl | exact .inr rfl))) (by exact (sss_one (ss_set (i := 3) (by decide) sc__law_union.nd rfl (by first | exact .inl rfl | exact .inr rfl) (ee_n (pn_op op_addX eff_addX (pp_name (pv 3)) (pn_pp (pn_op op_mul eff_mul (pn_pp (pn_op op_sub eff_sub (pp_ix ix_seq pure_ix (pp_name (pv 4)) (pp_const (d := .int 2) pe_int fun _ _ => ⟨rfl, rfl⟩) (fun _ _ => rfl)) (pp_ix ix_seq pure_ix (pp_name (pv 4)) (pp_const (d := .int 0) pe_int fun _ _ => ⟨rfl, rfl⟩) (fun _ _ => rfl)))) (pn_pp (pn_op op_sub eff_sub (pp_ix ix_seq pure_ix (pp_name (pv 4)) (pp_const (d := .int 3) pe_int fun _ _ => ⟨rfl, rfl⟩) (fun _ _ => rfl)) (pp_ix ix_seq pure_ix (pp_name (pv 4)) (pp_const (d := .int 1) pe_int fun _ _ => ⟨rfl, rfl⟩) (fun _ _ => rfl)))))))))))) (sss_cons (ss_if (et_lift (pq_cmp (op_eqA hr.units) eff_eq.pure (pp_name (pv 3)) (pn_pp (pn_op op_mul eff_mul (pn_pp (pn_op op_sub eff_sub (pp_ix ix_seq pure_ix (pp_name (pv 2)) (pp_const (d := .int 2) pe_int fun _ _ => ⟨rfl, rfl⟩) (fun _ _ => rfl)) (pp_ix ix_seq pure_ix (pp_name (pv 2)) (pp_const (d := .int 0) pe_int fun _ _ => ⟨rfl, rfl⟩) (fun _ _ => rfl)))) (pn_pp (pn_op op_sub eff_sub (pp_ix ix_seq pure_ix (pp_name (pv 2)) (pp_const (d := .int 3) pe_int fun _ _ => ⟨rfl, rfl⟩) (fun _ _ => rfl)) (pp_ix ix_seq pure_ix (pp_name (pv 2)) (pp_const (d := .int 1) pe_int fun _ _ => ⟨rfl, rfl⟩) (fun _ _ => rfl)))))) (by first | exact nomark _ | rfl))) (sss_one (ss_ret (ee_nM (pv 2)))) sss_nil) (sss_one (ss_ret (ee_lock (is := []) (pp_const (d := .non) pe_non fun _ _ => ⟨rfl, rfl⟩))))))))
theorem ok__law_parts (T : Txt P K mg D) : FnOk P w K mg base (L2.CX P w) 1 D.f__law_parts D.d__law_parts ["rooms", "k", "axis", "place"] (spM (LY K D) m__law_parts) :=
  fn_ok (N := N__law_parts) (ps := ["rooms", "k", "axis", "place"]) (L := LY K D) (S := [0, 1, 2, 3]) (body := b__law_parts) T.F__law_parts sc__law_parts (by decide) (by decide) fun cdv A outer s H E hr =>
    (sss_cons (ss_set (i := 4) (by decide) sc__law_parts.nd rfl (by first | exact .inl rfl | exact .inr rfl) (ee_n (pn_callTy call_list_of eff_list rfl T.n_list (by decide +kernel) (pap_cons (pp_ix ix_seq pure_ix (pp_name (pv 0)) (pp_name (pv 1)) (fun _ _ => rfl)) pap_nil)))) (sss_cons (ss_store rfl (by exact (ee_lock (is := [3]) (pp_name (pv 3)))) (by exact (loc_name (pv 4))) (by exact (pn_pp (pn_op op_addX eff_addX (pp_name (pv 2)) (pp_const (d := .int 2) pe_int fun _ _ => ⟨rfl, rfl⟩))))) (sss_cons (ss_set (i := 5) (by decide) sc__law_parts.nd rfl (by first | exact .inl rfl | exact .inr rfl) (ee_n (pn_callTy call_list_of eff_list rfl T.n_list (by decide +kernel) (pap_cons (pp_ix ix_seq pure_ix (pp_name (pv 0)) (pp_name (pv 1)) (fun _ _ => rfl)) pap_nil)))) (sss_cons (ss_store rfl (by exact (ee_lock (is := [3]) (pp_name (pv 3)))) (by exact (loc_name (pv 5))) (by exact (pp_name (pv 2)))) (sss_cons (ss_set (i := 6) (by decide) sc__law_parts.nd rfl (by first | exact .inl rfl | exact .inr rfl) (ee_n (pn_callTy call_list_of eff_list rfl T.n_list (by decide +kernel) (pap_cons (pp_name (pv 0)) pap_nil)))) (sss_cons (ss_store rfl (by exact (ee_lock (is := [4]) (pp_tup (pap_cons (pp_ix ix_seq pure_ix (pp_name (pv 4)) (pp_const (d := .int 0) pe_int fun _ _ => ⟨rfl, rfl⟩) (fun _ _ => rfl)) (pap_cons (pp_ix ix_seq pure_ix (pp_name (pv 4)) (pp_const (d := .int 1) pe_int fun _ _ => ⟨rfl, rfl⟩) (fun _ _ => rfl)) (pap_cons (pp_ix ix_seq pure_ix (pp_name (pv 4)) (pp_const (d := .int 2) pe_int fun _ _ => ⟨rfl, rfl⟩) (fun _ _ => rfl)) (pap_cons (pp_ix ix_seq pure_ix (pp_name (pv 4)) (pp_const (d := .int 3) pe_int fun _ _ => ⟨rfl, rfl⟩) (fun _ _ => rfl)) pap_nil))))))) (by exact (loc_name (pv 6))) (by exact (pp_name (pv 1)))) (sss_cons (ss_expr (ee_mtdN PySem.F.plainAttrs_list PySem.F.slot_list_append PySem.F.type_list_append mt_append mut_append (pv 6) (ea_cons (ee_lock (is := [5]) (pp_tup (pap_cons (pp_ix ix_seq pure_ix (pp_name (pv 5)) (pp_const (d := .int 0) pe_int fun _ _ => ⟨rfl, rfl⟩) (fun _ _ => rfl)) (pap_cons (pp_ix ix_seq pure_ix (pp_name (pv 5)) (pp_const (d := .int 1) pe_int fun _ _ => ⟨rfl, rfl⟩) (fun _ _ => rfl)) (pap_cons (pp_ix ix_seq pure_ix (pp_name (pv 5)) (pp_const (d := .int 2) pe_int fun _ _ => ⟨rfl, rfl⟩) (fun _ _ => rfl)) (pap_cons (pp_ix ix_seq pure_ix (pp_name (pv 5)) (pp_const (d := .int 3) pe_int fun _ _ => ⟨rfl, rfl⟩) (fun _ _ => rfl)) pap_nil)))))) ea_nil))) (sss_one (ss_ret (ee_nM (pv 6)))))))))))
theorem ok_check_rooms (T : Txt P K mg D) : FnOk P w K mg base (L2.CX P w) 2 D.f_check_rooms D.d_check_rooms ["rooms"] (spM (LY K D) m_check_rooms) :=
  fn_ok (N := N_check_rooms) (ps := ["rooms"]) (L := LY K D) (S := [0]) (body := b_check_rooms) T.F_check_rooms sc_check_rooms (by decide) (by decide) fun cdv A outer s H E hr =>
    (sss_one (ss_if (et_lift (pq_not (pq_chain op_le op_le eff_le.pure eff_le.pure (pp_const (d := .int 1) pe_int fun _ _ => ⟨rfl, rfl⟩) (pp_name (pv 0)) (pp_const (d := .int 20) (pe_glob (v := .int 20) rfl T.k_MOST_ROOMS_tools ⟨_, rfl⟩) fun _ _ => ⟨rfl, rfl⟩)))) (sss_one (ss_raise (k := 0) rfl T.e_BadCount fo_number T.g_BadCount (hr.mono (by decide)) (takes_of rfl rfl rfl rfl) (pp_name (pv 0)) rfl)) sss_nil))
theorem ok_room_fault (T : Txt P K mg D) : FnOk P w K mg base (L2.CX P w) 2 D.f_room_fault D.d_room_fault ["width", "height", "rooms", "place"] (spM (LY K D) m_room_fault) :=
  fn_ok (N := N_room_fault) (ps := ["width", "height", "rooms", "place"]) (L := LY K D) (S := [0, 1, 2, 3]) (body := b_room_fault) T.F_room_fault sc_room_fault (by decide) (by decide) fun cdv A outer s H E hr =>
    (sss_cons (ss_asg (by exact (ee_lock (is := [2]) (pp_ix ix_seq pure_ix (pp_name (pv 2)) (pp_name (pv 3)) (fun _ _ => rfl)))) (by exact (sg_tup rfl rfl (sgs_cons (keepRl _) (sg_nm (i := 4) (keep_nm (by decide)) sc_room_fault.nd rfl (by first | exact .inl rfl | exact .inr rfl)) (sgs_cons (keepRl _) (sg_nm (i := 5) (keep_nm (by decide)) sc_room_fault.nd rfl (by first | exact .inl rfl | exact .inr rfl)) (sgs_cons (keepRl _) (sg_nm (i := 6) (keep_nm (by decide)) sc_room_fault.nd rfl (by first | exact .inl rfl | exact .inr rfl)) (sgs_cons (keepRl _) (sg_nm (i := 7) (keep_nm (by decide)) sc_room_fault.nd rfl (by first | exact .inl rfl | exact .inr rfl)) (sgs_nil (keepRl _))))))))) (sss_cons (ss_if (et_lift (L2.PW.pt (pqw_or (pq_cmp op_ge eff_ge.pure (pp_name (pv 4)) (pp_name (pv 6)) (by first | exact nomark _ | rfl)) (pqw_or1 (pq_cmp op_ge eff_ge.pure (pp_name (pv 5)) (pp_name (pv 7)) (by first | exact nomark _ | rfl)))))) (sss_one (ss_ret (ee_lock (is := [3]) (pp_tup (pap_cons (pp_const (d := .str "empty") pe_str fun _ _ => ⟨rfl, rfl⟩) (pap_cons (pp_name (pv 3)) pap_nil)))))) sss_nil) (sss_cons (ss_if (et_lift (L2.PW.pt (pqw_or (pq_cmp op_lt eff_lt.pure (pp_name (pv 4)) (pp_const (d := .int 0) pe_int fun _ _ => ⟨rfl, rfl⟩) (by first | exact nomark _ | rfl)) (pqw_or (pq_cmp op_lt eff_lt.pure (pp_name (pv 5)) (pp_const (d := .int 0) pe_int fun _ _ => ⟨rfl, rfl⟩) (by first | exact nomark _ | rfl)) (pqw_or (pq_cmp op_gt eff_gt.pure (pp_name (pv 6)) (pp_name (pv 0)) (by first | exact nomark _ | rfl)) (pqw_or1 (pq_cmp op_gt eff_gt.pure (pp_name (pv 7)) (pp_name (pv 1)) (by first | exact nomark _ | rfl)))))))) (sss_one (ss_ret (ee_lock (is := [3]) (pp_tup (pap_cons (pp_const (d := .str "outside") pe_str fun _ _ => ⟨rfl, rfl⟩) (pap_cons (pp_name (pv 3)) pap_nil)))))) sss_nil) (sss_cons (ss_forR1 (by exact passes_of rfl) (by rfl) (by rfl) (by exact T.n_range) (by exact (ea_cons (ee_lock (is := [3]) (pp_name (pv 3))) ea_nil)) (by exact (sg_nm (i := 8) (keep_nm (by decide)) sc_room_fault.nd rfl (by first | exact .inl rfl | exact .inr rfl))) (by exact (sss_one (ss_if (et_lift (L2.PW.pt (pqw_and (pq_val (pn_pp (pn_call (ok_overlap T) (hr.mono (by decide)) rfl T.g_overlap T.F_overlap.kp T.b_overlap (pap_cons (pp_ix ix_seq pure_ix (pp_name (pv 2)) (pp_name (pv 8)) (fun _ _ => rfl)) (pap_cons (pp_ix ix_seq pure_ix (pp_name (pv 2)) (pp_name (pv 3)) (fun _ _ => rfl)) (pap_cons (pp_const (d := .int 0) pe_int fun _ _ => ⟨rfl, rfl⟩) pap_nil)))))) (pqw_and1 (pq_val (pn_pp (pn_call (ok_overlap T) (hr.mono (by decide)) rfl T.g_overlap T.F_overlap.kp T.b_overlap (pap_cons (pp_ix ix_seq pure_ix (pp_name (pv 2)) (pp_name (pv 8)) (fun _ _ => rfl)) (pap_cons (pp_ix ix_seq pure_ix (pp_name (pv 2)) (pp_name (pv 3)) (fun _ _ => rfl)) (pap_cons (pp_const (d := .int 1) pe_int fun _ _ => ⟨rfl, rfl⟩) pap_nil)))))))))) (sss_one (ss_ret (ee_lock (is := [8, 3]) (pp_tup (pap_cons (pp_const (d := .str "overlap") pe_str fun _ _ => ⟨rfl, rfl⟩) (pap_cons (pp_name (pv 8)) (pap_cons (pp_name (pv 3)) pap_nil))))))) sss_nil)))) (sss_one (ss_ret (ee_lock (is := []) (pp_const (d := .non) pe_non fun _ _ => ⟨rfl, rfl⟩))))))))
theorem ok__law_ints (T : Txt P K mg D) : FnOk P w K mg base (L2.CX P w) 2 D.f__law_ints D.d__law_ints ["value"] (spM (LY K D) m__law_ints) :=
  fn_ok (N := N__law_ints) (ps := ["value"]) (L := LY K D) (S := [0]) (body := b__law_ints) T.F__law_ints sc__law_ints (by decide) (by decide) fun cdv A outer s H E hr =>
    (sss_cons (ss_if (et_lift (pq_not (pq_val (pn_pp (pn_callB call_isiA (eff_isi T.tI T.ownI) rfl T.n_isinstance (by decide +kernel) (pap_cons (pp_name (pv 0)) (pap_cons (pp_const (pe_bltn (v := .ty "list") (u := .type "list") rfl T.n_list (by decide +kernel) rfl) fun _ _ => ⟨rfl, rfl⟩) pap_nil))))))) (sss_one (ss_ret (ee_lock (is := []) (pp_const (d := .bl false) pe_bl fun _ _ => ⟨rfl, rfl⟩)))) sss_nil) (sss_one (ss_ret (ee_n (pn_cmp (op_eqA hr.units) eff_eq (pn_pp (pn_callB call_len eff_len rfl T.n_len (by decide +kernel) (pap_cons (pn_pp (pn_lc (own := [("x", 1)]) rfl sc__law_ints.nd (pi_list (pp_name (pv 0))) ⟨(blkOk_by (own := [("x", 1)]) (N := N__law_ints) (sc := defScope (topS 22)) (by decide +kernel)), fun _ _ _ _ _ => (sgp_nm (i := 1) (wipe_nm (by decide)) sc__law_ints.nd rfl (by first | exact .inl rfl | exact .inr rfl)), fun _ _ _ _ _ => (ptts_one (pq_not (pq_val (pn_pp (pn_call (ok__law_int T) (hr.mono (by decide)) rfl T.g__law_int T.F__law_int.kp T.b__law_int (pap_cons (pp_name (pv 1)) pap_nil)))))), fun _ _ _ _ _ => (pn_fro (pp_name (pv 1)))⟩ (imp_lcNL rfl))) pap_nil))) (pp_const (d := .int 0) pe_int fun _ _ => ⟨rfl, rfl⟩) (by first | exact nomark _ | rfl))))))
theorem ok__law_push (T : Txt P K mg D) : FnOk P w K mg base (L2.CX P w) 2 D.f__law_push D.d__law_push ["state", "size", "rooms"] (spM (LY K D) m__law_push) :=
  fn_ok (N := N__law_push) (ps := ["state", "size", "rooms"]) (L := LY K D) (S := [0, 1, 2]) (body := b__law_push) T.F__law_push sc__law_push (by decide) (by decide) fun cdv A outer s H E hr =>
    (sss_cons (ss_set (i := 3) (by decide) sc__law_push.nd rfl (by first | exact .inl rfl | exact .inr rfl) (ee_call (ok__law_next T) (hr.mono (by decide)) (takes_of rfl rfl rfl rfl) rfl T.g__law_next T.F__law_next.kp T.b__law_next (ea_ld (pv 0) (ea_cons (ee_lock (is := []) (pp_const (d := .int 2) pe_int fun _ _ => ⟨rfl, rfl⟩)) ea_nil)))) (sss_cons (ss_set (i := 4) (by decide) sc__law_push.nd rfl (by first | exact .inl rfl | exact .inr rfl) (ee_n (pn_callB cr_sortedPO eff_sortedP rfl T.n_sorted (by decide +kernel) (pap_cons (pn_pp (pn_lc (own := [("k", 9), ("room", 10)]) rfl sc__law_push.nd (pi_enum rfl T.n_enumerate (pa_cons (pp_name (pv 2)) pa_nil)) ⟨(blkOk_by (own := [("k", 9), ("room", 10)]) (N := N__law_push) (sc := defScope (topS 26)) (by decide +kernel)), fun _ _ _ _ _ => (sgp_tup rfl rfl (sgps_cons (wipeRlOk _) (sgp_nm (i := 9) (wipe_nm (by decide)) sc__law_push.nd rfl (by first | exact .inl rfl | exact .inr rfl)) (sgps_cons (wipeRlOk _) (sgp_nm (i := 10) (wipe_nm (by decide)) sc__law_push.nd rfl (by first | exact .inl rfl | exact .inr rfl)) (sgps_nil (wipeRlOk _))))), fun _ _ _ _ _ => (ptts_one (pq_cmp (op_eqA hr.units) eff_eq.pure (pp_ix ix_seq pure_ix (pp_name (pv 10)) (pn_pp (pn_op op_addX eff_addX (pp_name (pv 3)) (pp_const (d := .int 2) pe_int fun _ _ => ⟨rfl, rfl⟩))) (fun _ _ => rfl)) (pp_ix ix_seq pure_ix (pp_name (pv 1)) (pp_name (pv 3)) (fun _ _ => rfl)) (by first | exact nomark _ | rfl))), fun _ _ _ _ _ => (pn_fro (pp_tup (pap_cons (pn_pp (pn_op op_sub eff_sub (pp_const (d := .int 0) pe_int fun _ _ => ⟨rfl, rfl⟩) (pp_ix ix_seq pure_ix (pp_name (pv 10)) (pn_pp (pn_op op_sub eff_sub (pp_const (d := .int 1) pe_int fun _ _ => ⟨rfl, rfl⟩) (pp_name (pv 3)))) (fun _ _ => rfl)))) (pap_cons (pp_name (pv 9)) pap_nil))))⟩ (imp_lcNE rfl))) pap_nil)))) (sss_cons (ss_set (i := 5) (by decide) sc__law_push.nd rfl (by first | exact .inl rfl | exact .inr rfl) (ee_op op_addX eff_addX (ee_lock (is := []) (pp_const (d := .int 1) pe_int fun _ _ => ⟨rfl, rfl⟩)) (ee_call (ok__law_next T) (hr.mono (by decide)) (takes_of rfl rfl rfl rfl) rfl T.g__law_next T.F__law_next.kp T.b__law_next (ea_ld (pv 0) (ea_cons (ee_n (pn_callB call_len eff_len rfl T.n_len (by decide +kernel) (pap_cons (pp_name (pv 4)) pap_nil))) ea_nil))))) (sss_cons (ss_set (i := 6) (by decide) sc__law_push.nd rfl (by first | exact .inl rfl | exact .inr rfl) (ee_op op_addX eff_addX (ee_lock (is := []) (pp_const (d := .int 1) pe_int fun _ _ => ⟨rfl, rfl⟩)) (ee_call (ok__law_next T) (hr.mono (by decide)) (takes_of rfl rfl rfl rfl) rfl T.g__law_next T.F__law_next.kp T.b__law_next (ea_ld (pv 0) (ea_cons (ee_lock (is := []) (pp_const (d := .int 3) pe_int fun _ _ => ⟨rfl, rfl⟩)) ea_nil))))) (sss_cons (ss_set (i := 7) (by decide) sc__law_push.nd rfl (by first | exact .inl rfl | exact .inr rfl) (ee_n (pn_lst (pap_cons (pp_const (d := .int 0) pe_int fun _ _ => ⟨rfl, rfl⟩) (pap_cons (pp_const (d := .int 0) pe_int fun _ _ => ⟨rfl, rfl⟩) (pap_cons (pp_const (d := .int 0) pe_int fun _ _ => ⟨rfl, rfl⟩) (pap_cons (pp_const (d := .int 0) pe_int fun _ _ => ⟨rfl, rfl⟩) pap_nil))))))) (sss_cons (ss_store rfl (by exact (ee_lock (is := [1]) (pp_ix ix_seq pure_ix (pp_name (pv 1)) (pp_name (pv 3)) (fun _ _ => rfl)))) (by exact (loc_name (pv 7))) (by exact (pp_name (pv 3)))) (sss_cons (ss_store rfl (by exact (ee_n (pn_op op_addX eff_addX (pp_ix ix_seq pure_ix (pp_name (pv 1)) (pp_name (pv 3)) (fun _ _ => rfl)) (pp_name (pv 6))))) (by exact (loc_name (pv 7))) (by exact (pn_pp (pn_op op_addX eff_addX (pp_name (pv 3)) (pp_const (d := .int 2) pe_int fun _ _ => ⟨rfl, rfl⟩))))) (sss_cons (ss_store rfl (by exact (ee_lock (is := [2]) (pp_ix ix_seq pure_ix (pp_ix ix_seq pure_ix (pp_name (pv 2)) (pp_ix ix_seq pure_ix (pp_ix ix_seq pure_ix (pp_name (pv 4)) (pn_pp (pn_op op_sub eff_sub (pp_name (pv 5)) (pp_const (d := .int 1) pe_int fun _ _ => ⟨rfl, rfl⟩))) (fun _ _ => rfl)) (pp_const (d := .int 1) pe_int fun _ _ => ⟨rfl, rfl⟩) (fun _ _ => rfl)) (fun _ _ => rfl)) (pn_pp (pn_op op_sub eff_sub (pp_const (d := .int 1) pe_int fun _ _ => ⟨rfl, rfl⟩) (pp_name (pv 3)))) (fun _ _ => rfl)))) (by exact (loc_name (pv 7))) (by exact (pn_pp (pn_op op_sub eff_sub (pp_const (d := .int 1) pe_int fun _ _ => ⟨rfl, rfl⟩) (pp_name (pv 3)))))) (sss_cons (ss_store rfl (by exact (ee_lock (is := [1]) (pp_ix ix_seq pure_ix (pp_name (pv 1)) (pn_pp (pn_op op_sub eff_sub (pp_const (d := .int 1) pe_int fun _ _ => ⟨rfl, rfl⟩) (pp_name (pv 3)))) (fun _ _ => rfl)))) (by exact (loc_name (pv 7))) (by exact (pn_pp (pn_op op_sub eff_sub (pp_const (d := .int 3) pe_int fun _ _ => ⟨rfl, rfl⟩) (pp_name (pv 3)))))) (sss_cons (ss_forL (by rfl) (by exact passes_of rfl) (by rfl) (by exact (ee_n (pn_slice rfl (pp_name (pv 4)) (om_some (pp_name (pv 5))) om_none))) (by exact (sg_tup rfl rfl (sgs_cons (keepRl _) (sg_nm (i := 8) (keep_nm (by decide)) sc__law_push.nd rfl (by first | exact .inl rfl | exact .inr rfl)) (sgs_cons (keepRl _) (sg_nm (i := 9) (keep_nm (by decide)) sc__law_push.nd rfl (by first | exact .inl rfl | exact .inr rfl)) (sgs_nil (keepRl _)))))) (by exact (sss_one (ss_store rfl (by exact (ee_n (pn_op op_addX eff_addX (pp_ix ix_seq pure_ix (pp_name (pv 1)) (pp_name (pv 3)) (fun _ _ => rfl)) (pp_name (pv 6))))) (by exact (loc_ix rfl (loc_name (pv 2)) (pp_name (pv 9)) (fun _ _ => rfl))) (by exact (pn_pp (pn_op op_addX eff_addX (pp_name (pv 3)) (pp_const (d := .int 2) pe_int fun _ _ => ⟨rfl, rfl⟩)))))))) (sss_cons (ss_store rfl (by exact (ee_n (pn_op op_addX eff_addX (pp_ix ix_seq pure_ix (pp_name (pv 1)) (pp_name (pv 3)) (fun _ _ => rfl)) (pp_name (pv 6))))) (by exact (loc_name (pv 1))) (by exact (pp_name (pv 3)))) (sss_one (ss_expr (ee_mtdN PySem.F.plainAttrs_list PySem.F.slot_list_append PySem.F.type_list_append mt_append mut_append (pv 2) (ea_cons (ee_nM (pv 7)) ea_nil)))))))))))))))
theorem ok__law_border (T : Txt P K mg D) : FnOk P w K mg base (L2.CX P w) 2 D.f__law_border D.d__law_border ["rooms", "axis", "first"] (spM (LY K D) m__law_border) :=
  fn_ok (N := N__law_border) (ps := ["rooms", "axis", "first"]) (L := LY K D) (S := [0, 1, 2]) (body := b__law_border) T.F__law_border sc__law_border (by decide) (by decide) fun cdv A outer s H E hr =>
    (sss_cons (ss_set (i := 3) (by decide) sc__law_border.nd rfl (by first | exact .inl rfl | exact .inr rfl) (ee_n (pn_lst (pap_cons (pp_name (pv 2)) pap_nil)))) (sss_cons (ss_set (i := 4) (by decide) sc__law_border.nd rfl (by first | exact .inl rfl | exact .inr rfl) (ee_n (pn_lst pap_nil))) (sss_cons (ss_set (i := 5) (by decide) sc__law_border.nd rfl (by first | exact .inl rfl | exact .inr rfl) (ee_lock (is := [0]) (pp_ix ix_seq pure_ix (pp_ix ix_seq pure_ix (pp_name (pv 0)) (pp_name (pv 2)) (fun _ _ => rfl)) (pn_pp (pn_op op_addX eff_addX (pp_name (pv 1)) (pp_const (d := .int 2) pe_int fun _ _ => ⟨rfl, rfl⟩))) (fun _ _ => rfl)))) (sss_cons (ss_forR1 (by exact passes_of rfl) (by rfl) (by rfl) (by exact T.n_range) (by exact (ea_cons (ee_n (pn_callB call_len eff_len rfl T.n_len (by decide +kernel) (pap_cons (pp_name (pv 0)) pap_nil))) ea_nil)) (by exact (sg_nm (i := 6) (keep_nm (by decide)) sc__law_border.nd rfl (by first | exact .inl rfl | exact .inr rfl))) (by exact (sss_cons (ss_set (i := 7) (by decide) sc__law_border.nd rfl (by first | exact .inl rfl | exact .inr rfl) (ee_n (pn_op op_addX eff_addX (pn_pp (pn_callB call_len eff_len rfl T.n_len (by decide +kernel) (pap_cons (pp_name (pv 3)) pap_nil))) (pn_pp (pn_callB call_len eff_len rfl T.n_len (by decide +kernel) (pap_cons (pp_name (pv 4)) pap_nil)))))) (sss_cons (ss_forR1 (by exact passes_of rfl) (by rfl) (by rfl) (by exact T.n_range) (by exact (ea_cons (ee_n (pn_callB call_len eff_len rfl T.n_len (by decide +kernel) (pap_cons (pp_name (pv 0)) pap_nil))) ea_nil)) (by exact (sg_nm (i := 8) (keep_nm (by decide)) sc__law_border.nd rfl (by first | exact .inl rfl | exact .inr rfl))) (by exact (sss_cons (ss_if (et_lift (L2.PW.pt (pqw_and (pq_cmp (op_eqA hr.units) eff_eq.pure (pp_ix ix_seq pure_ix (pp_ix ix_seq pure_ix (pp_name (pv 0)) (pp_name (pv 8)) (fun _ _ => rfl)) (pp_name (pv 1)) (fun _ _ => rfl)) (pp_name (pv 5)) (by first | exact nomark _ | rfl)) (pqw_and1 (pq_cmp op_notIn_seq eff_in.pure (pp_name (pv 8)) (pp_name (pv 4)) (by first | exact nomark _ | rfl)))))) (sss_one (ss_if (et_lift (pq_cmp op_gt eff_gt.pure (pn_pp (pn_callB call_len eff_len rfl T.n_len (by decide +kernel) (pap_cons (pn_pp (pn_lc (own := [("j", 9)]) rfl sc__law_border.nd (pi_list (pp_name (pv 3))) ⟨(blkOk_by (own := [("j", 9)]) (N := N__law_border) (sc := defScope (topS 27)) (by decide +kernel)), fun _ _ _ _ _ => (sgp_nm (i := 9) (wipe_nm (by decide)) sc__law_border.nd rfl (by first | exact .inl rfl | exact .inr rfl)), fun _ _ _ _ _ => (ptts_one (pq_val (pn_pp (pn_call (ok__law_over T) (hr.mono (by decide)) rfl T.g__law_over T.F__law_over.kp T.b__law_over (pap_cons (pp_ix ix_seq pure_ix (pp_name (pv 0)) (pp_name (pv 9)) (fun _ _ => rfl)) (pap_cons (pp_ix ix_seq pure_ix (pp_name (pv 0)) (pp_name (pv 8)) (fun _ _ => rfl)) (pap_cons (pn_pp (pn_op op_sub eff_sub (pp_const (d := .int 1) pe_int fun _ _ => ⟨rfl, rfl⟩) (pp_name (pv 1)))) pap_nil))))))), fun _ _ _ _ _ => (pn_fro (pp_name (pv 9)))⟩ (imp_lcNL rfl))) pap_nil))) (pp_const (d := .int 0) pe_int fun _ _ => ⟨rfl, rfl⟩) (by first | exact nomark _ | rfl))) (sss_one (ss_expr (ee_mtdN PySem.F.plainAttrs_list PySem.F.slot_list_append PySem.F.type_list_append mt_append mut_append (pv 4) (ea_cons (ee_lock (is := [8]) (pp_name (pv 8))) ea_nil)))) sss_nil)) sss_nil) (sss_one (ss_if (et_lift (L2.PW.pt (pqw_and (pq_cmp (op_eqA hr.units) eff_eq.pure (pp_ix ix_seq pure_ix (pp_ix ix_seq pure_ix (pp_name (pv 0)) (pp_name (pv 8)) (fun _ _ => rfl)) (pn_pp (pn_op op_addX eff_addX (pp_name (pv 1)) (pp_const (d := .int 2) pe_int fun _ _ => ⟨rfl, rfl⟩))) (fun _ _ => rfl)) (pp_name (pv 5)) (by first | exact nomark _ | rfl)) (pqw_and1 (pq_cmp op_notIn_seq eff_in.pure (pp_name (pv 8)) (pp_name (pv 3)) (by first | exact nomark _ | rfl)))))) (sss_one (ss_if (et_lift (pq_cmp op_gt eff_gt.pure (pn_pp (pn_callB call_len eff_len rfl T.n_len (by decide +kernel) (pap_cons (pn_pp (pn_lc (own := [("j", 9)]) rfl sc__law_border.nd (pi_list (pp_name (pv 4))) ⟨(blkOk_by (own := [("j", 9)]) (N := N__law_border) (sc := defScope (topS 27)) (by decide +kernel)), fun _ _ _ _ _ => (sgp_nm (i := 9) (wipe_nm (by decide)) sc__law_border.nd rfl (by first | exact .inl rfl | exact .inr rfl)), fun _ _ _ _ _ => (ptts_one (pq_val (pn_pp (pn_call (ok__law_over T) (hr.mono (by decide)) rfl T.g__law_over T.F__law_over.kp T.b__law_over (pap_cons (pp_ix ix_seq pure_ix (pp_name (pv 0)) (pp_name (pv 9)) (fun _ _ => rfl)) (pap_cons (pp_ix ix_seq pure_ix (pp_name (pv 0)) (pp_name (pv 8)) (fun _ _ => rfl)) (pap_cons (pn_pp (pn_op op_sub eff_sub (pp_const (d := .int 1) pe_int fun _ _ => ⟨rfl, rfl⟩) (pp_name (pv 1)))) pap_nil))))))), fun _ _ _ _ _ => (pn_fro (pp_name (pv 9)))⟩ (imp_lcNL rfl))) pap_nil))) (pp_const (d := .int 0) pe_int fun _ _ => ⟨rfl, rfl⟩) (by first | exact nomark _ | rfl))) (sss_one (ss_expr (ee_mtdN PySem.F.plainAttrs_list PySem.F.slot_list_append PySem.F.type_list_append mt_append mut_append (pv 3) (ea_cons (ee_lock (is := [8]) (pp_name (pv 8))) ea_nil)))) sss_nil)) sss_nil))))) (sss_one (ss_if (et_lift (pq_cmp (op_eqA hr.units) eff_eq.pure (pn_pp (pn_op op_addX eff_addX (pn_pp (pn_callB call_len eff_len rfl T.n_len (by decide +kernel) (pap_cons (pp_name (pv 3)) pap_nil))) (pn_pp (pn_callB call_len eff_len rfl T.n_len (by decide +kernel) (pap_cons (pp_name (pv 4)) pap_nil))))) (pp_name (pv 7)) (by first | exact nomark _ | rfl))) (sss_one ss_break) sss_nil)))))) (sss_one (ss_ret (ee_lst (ea_cons (ee_nM (pv 3)) (ea_cons (ee_nM (pv 4)) ea_nil)))))))))
theorem ok__law_order (T : Txt P K mg D) : FnOk P w K mg base (L2.CX P w) 2 D.f__law_order D.d__law_order ["state", "many"] (spM (LY K D) m__law_order) :=
  fn_ok (N := N__law_order) (ps := ["state", "many"]) (L := LY K D) (S := [0, 1]) (body := b__law_order) T.F__law_order sc__law_order (by decide) (by decide) fun cdv A outer s H E hr =>
    (sss_one (ss_ret (ee_lc (own := [("pair", 2)]) rfl sc__law_order.nd (pi_list (ee_callB cr_sortedPO eff_sortedP rfl T.n_sorted (by decide +kernel) (ea_cons (ee_lc (own := [("k", 3)]) rfl sc__law_order.nd (pi_range1 rfl T.n_range (ea_cons (ee_lock (is := [1]) (pp_name (pv 1))) ea_nil)) ⟨(blkOk_by (own := [("k", 3)]) (N := N__law_order) (sc := defScope (topS 31)) (by decide +kernel)), fun _ _ _ _ _ => (sg_nm (i := 3) (wipe_nm (by decide)) sc__law_order.nd rfl (by first | exact .inl rfl | exact .inr rfl)), fun _ _ _ _ _ => etts_nil, fun _ _ _ _ _ => (ee_tup (ea_cons (ee_call (ok__law_next T) (hr.mono (by decide)) takes0 rfl T.g__law_next T.F__law_next.kp T.b__law_next (ea_ld (pv 0) (ea_cons (ee_lock (is := []) (pp_const (d := .int 997) pe_int fun _ _ => ⟨rfl, rfl⟩)) ea_nil))) (ea_cons (ee_lock (is := [3]) (pp_name (pv 3))) ea_nil)))⟩ imp_lcR1) ea_nil))) ⟨(blkOk_by (own := [("pair", 2)]) (N := N__law_order) (sc := defScope (topS 31)) (by decide +kernel)), fun _ _ _ _ _ => (sg_nm (i := 2) (wipe_nm (by decide)) sc__law_order.nd rfl (by first | exact .inl rfl | exact .inr rfl)), fun _ _ _ _ _ => etts_nil, fun _ _ _ _ _ => (ee_lock (is := [2]) (pp_ix ix_seq pure_ix (pp_name (pv 2)) (pp_const (d := .int 1) pe_int fun _ _ => ⟨rfl, rfl⟩) (fun _ _ => rfl)))⟩ (imp_lcL rfl))))
theorem ok__law_unions (T : Txt P K mg D) : FnOk P w K mg base (L2.CX P w) 2 D.f__law_unions D.d__law_unions ["rooms"] (spM (LY K D) m__law_unions) :=
  fn_ok (N := N__law_unions) (ps := ["rooms"]) (L := LY K D) (S := [0]) (body := b__law_unions) T.F__law_unions sc__law_unions (by decide) (by decide) fun cdv A outer s H E hr =>
    (sss_cons (ss_set (i := 1) (by decide) sc__law_unions.nd rfl (by first | exact .inl rfl | exact .inr rfl) (ee_n (pn_lst pap_nil))) (sss_cons (ss_forR1 (by exact passes_of rfl) (by rfl) (by rfl) (by exact T.n_range) (by exact (ea_cons (ee_n (pn_callB call_len eff_len rfl T.n_len (by decide +kernel) (pap_cons (pp_name (pv 0)) pap_nil))) ea_nil)) (by exact (sg_nm (i := 2) (keep_nm (by decide)) sc__law_unions.nd rfl (by first | exact .inl rfl | exact .inr rfl))) (by exact (sss_one (ss_set (i := 1) (by decide) sc__law_unions.nd rfl (by first | exact .inl rfl | exact .inr rfl) (ee_n (pn_op op_addX eff_addX (pp_name (pv 1)) (pn_pp (pn_lc (own := [("b", 3)]) rfl sc__law_unions.nd (pi_range2 rfl T.n_range (pap_cons (pn_pp (pn_op op_addX eff_addX (pp_name (pv 2)) (pp_const (d := .int 1) pe_int fun _ _ => ⟨rfl, rfl⟩))) (pap_cons (pn_pp (pn_callB call_len eff_len rfl T.n_len (by decide +kernel) (pap_cons (pp_name (pv 0)) pap_nil))) pap_nil))) ⟨(blkOk_by (own := [("b", 3)]) (N := N__law_unions) (sc := defScope (topS 35)) (by decide +kernel)), fun _ _ _ _ _ => (sgp_nm (i := 3) (wipe_nm (by decide)) sc__law_unions.nd rfl (by first | exact .inl rfl | exact .inr rfl)), fun _ _ _ _ _ => (ptts_one (pq_cmp op_notN eff_notN.pure (pn_pp (pn_call (ok__law_union T) (hr.mono (by decide)) rfl T.g__law_union T.F__law_union.kp T.b__law_union (pap_cons (pp_ix ix_seq pure_ix (pp_name (pv 0)) (pp_name (pv 2)) (fun _ _ => rfl)) (pap_cons (pp_ix ix_seq pure_ix (pp_name (pv 0)) (pp_name (pv 3)) (fun _ _ => rfl)) pap_nil)))) (pp_const (d := .non) pe_non fun _ _ => ⟨rfl, rfl⟩) (by first | exact nomark _ | rfl))), fun _ _ _ _ _ => (pn_fro (pp_tup (pap_cons (pp_name (pv 2)) (pap_cons (pp_name (pv 3)) pap_nil))))⟩ imp_lcNR2)))))))) (sss_one (ss_ret (ee_nM (pv 1))))))
theorem ok__law_together (T : Txt P K mg D) : FnOk P w K mg base (L2.CX P w) 2 D.f__law_together D.d__law_together ["rooms", "a", "b"] (spM (LY K D) m__law_together) :=
  fn_ok (N := N__law_together) (ps := ["rooms", "a", "b"]) (L := LY K D) (S := [0, 1, 2]) (body := b__law_together) T.F__law_together sc__law_together (by decide) (by decide) fun cdv A outer s H E hr =>
    (sss_cons (ss_set (i := 3) (by decide) sc__law_together.nd rfl (by first | exact .inl rfl | exact .inr rfl) (ee_n (pn_call (ok__law_union T) (hr.mono (by decide)) rfl T.g__law_union T.F__law_union.kp T.b__law_union (pap_cons (pp_ix ix_seq pure_ix (pp_name (pv 0)) (pp_name (pv 1)) (fun _ _ => rfl)) (pap_cons (pp_ix ix_seq pure_ix (pp_name (pv 0)) (pp_name (pv 2)) (fun _ _ => rfl)) pap_nil))))) (sss_cons (ss_if (et_lift (pq_cmp op_isN eff_isN.pure (pp_name (pv 3)) (pp_const (d := .non) pe_non fun _ _ => ⟨rfl, rfl⟩) (by first | exact nomark _ | rfl))) (sss_one (ss_ret (ee_lock (is := []) (pp_const (d := .non) pe_non fun _ _ => ⟨rfl, rfl⟩)))) sss_nil) (sss_cons (ss_set (i := 4) (by decide) sc__law_together.nd rfl (by first | exact .inl rfl | exact .inr rfl) (ee_n (pn_lst pap_nil))) (sss_cons (ss_forR1 (by exact passes_of rfl) (by rfl) (by rfl) (by exact T.n_range) (by exact (ea_cons (ee_n (pn_callB call_len eff_len rfl T.n_len (by decide +kernel) (pap_cons (pp_name (pv 0)) pap_nil))) ea_nil)) (by exact (sg_nm (i := 5) (keep_nm (by decide)) sc__law_together.nd rfl (by first | exact .inl rfl | exact .inr rfl))) (by exact (sss_one (ss_if (et_lift (pq_cmp (op_eqA hr.units) eff_eq.pure (pp_name (pv 5)) (pp_name (pv 1)) (by first | exact nomark _ | rfl))) (sss_one (ss_expr (ee_mtdN PySem.F.plainAttrs_list PySem.F.slot_list_append PySem.F.type_list_append mt_append mut_append (pv 4) (ea_cons (ee_nM (pv 3)) ea_nil)))) (sss_one (ss_if (et_lift (pq_cmp (op_neA hr.units) eff_ne.pure (pp_name (pv 5)) (pp_name (pv 2)) (by first | exact nomark _ | rfl))) (sss_one (ss_expr (ee_mtdN PySem.F.plainAttrs_list PySem.F.slot_list_append PySem.F.type_list_append mt_append mut_append (pv 4) (ea_cons (ee_lock (is := [0]) (pp_ix ix_seq pure_ix (pp_name (pv 0)) (pp_name (pv 5)) (fun _ _ => rfl))) ea_nil)))) sss_nil)))))) (sss_one (ss_ret (ee_nM (pv 4))))))))
theorem ok_floor_fault (T : Txt P K mg D) : FnOk P w K mg base (L2.CX P w) 3 D.f_floor_fault D.d_floor_fault ["width", "height", "rooms"] (spM (LY K D) m_floor_fault) :=
  fn_ok (N := N_floor_fault) (ps := ["width", "height", "rooms"]) (L := LY K D) (S := [0, 1, 2]) (body := b_floor_fault) T.F_floor_fault sc_floor_fault (by decide) (by decide) fun cdv A outer s H E hr =>
    (sss_cons (ss_if (et_lift (pq_not (pq_chain op_le op_le eff_le.pure eff_le.pure (pp_const (d := .int 1) pe_int fun _ _ => ⟨rfl, rfl⟩) (pn_pp (pn_callB call_len eff_len rfl T.n_len (by decide +kernel) (pap_cons (pp_name (pv 2)) pap_nil))) (pp_const (d := .int 20) (pe_glob (v := .int 20) rfl T.k_MOST_ROOMS_floors ⟨_, rfl⟩) fun _ _ => ⟨rfl, rfl⟩)))) (sss_one (ss_ret (ee_lock (is := []) (pp_tup (pap_cons (pp_const (d := .str "count") pe_str fun _ _ => ⟨rfl, rfl⟩) (pap_cons (pn_pp (pn_callB call_len eff_len rfl T.n_len (by decide +kernel) (pap_cons (pp_name (pv 2)) pap_nil))) pap_nil)))))) sss_nil) (sss_cons (ss_if (et_lift (L2.PW.pt (pqw_or (pq_cmp op_lt eff_lt.pure (pp_name (pv 0)) (pp_const (d := .int 1) pe_int fun _ _ => ⟨rfl, rfl⟩) (by first | exact nomark _ | rfl)) (pqw_or1 (pq_cmp op_lt eff_lt.pure (pp_name (pv 1)) (pp_const (d := .int 1) pe_int fun _ _ => ⟨rfl, rfl⟩) (by first | exact nomark _ | rfl)))))) (sss_one (ss_ret (ee_lock (is := []) (pp_tup (pap_cons (pp_const (d := .str "outer") pe_str fun _ _ => ⟨rfl, rfl⟩) pap_nil))))) sss_nil) (sss_cons (ss_set (i := 3) (by decide) sc_floor_fault.nd rfl (by first | exact .inl rfl | exact .inr rfl) (ee_n (pn_op op_mul eff_mul (pp_name (pv 0)) (pp_name (pv 1))))) (sss_cons (ss_forE (by rfl) (by exact passes_of rfl) (by rfl) (by rfl) (by exact T.n_enumerate) (by exact (ee_lock (is := [2]) (pp_name (pv 2)))) (by exact (sg_tup rfl rfl (sgs_cons (keepRl _) (sg_nm (i := 4) (keep_nm (by decide)) sc_floor_fault.nd rfl (by first | exact .inl rfl | exact .inr rfl)) (sgs_cons (keepRl _) (sg_tup rfl rfl (sgs_cons (keepRl _) (sg_nm (i := 5) (keep_nm (by decide)) sc_floor_fault.nd rfl (by first | exact .inl rfl | exact .inr rfl)) (sgs_cons (keepRl _) (sg_nm (i := 6) (keep_nm (by decide)) sc_floor_fault.nd rfl (by first | exact .inl rfl | exact .inr rfl)) (sgs_cons (keepRl _) (sg_nm (i := 7) (keep_nm (by decide)) sc_floor_fault.nd rfl (by first | exact .inl rfl | exact .inr rfl)) (sgs_cons (keepRl _) (sg_nm (i := 8) (keep_nm (by decide)) sc_floor_fault.nd rfl (by first | exact .inl rfl | exact .inr rfl)) (sgs_nil (keepRl _))))))) (sgs_nil (keepRl _)))))) (by exact (sss_cons (ss_set (i := 9) (by decide) sc_floor_fault.nd rfl (by first | exact .inl rfl | exact .inr rfl) (ee_n (pn_call (ok_room_fault T) (hr.mono (by decide)) rfl T.g_room_fault T.F_room_fault.kp T.b_room_fault (pap_cons (pp_name (pv 0)) (pap_cons (pp_name (pv 1)) (pap_cons (pp_name (pv 2)) (pap_cons (pp_name (pv 4)) pap_nil))))))) (sss_cons (ss_if (et_lift (pq_cmp op_notN eff_notN.pure (pp_name (pv 9)) (pp_const (d := .non) pe_non fun _ _ => ⟨rfl, rfl⟩) (by first | exact nomark _ | rfl))) (sss_one (ss_ret (ee_nM (pv 9)))) sss_nil) (sss_one (ss_aug (i := 3) (by decide) ip_sub sc_floor_fault.nd rfl (by first | exact .inl rfl | exact .inr rfl) (ee_n (pn_op op_mul eff_mul (pn_pp (pn_op op_sub eff_sub (pp_name (pv 7)) (pp_name (pv 5)))) (pn_pp (pn_op op_sub eff_sub (pp_name (pv 8)) (pp_name (pv 6)))))))))))) (sss_cons (ss_if (et_lift (pq_cmp op_gt eff_gt.pure (pp_name (pv 3)) (pp_const (d := .int 0) pe_int fun _ _ => ⟨rfl, rfl⟩) (by first | exact nomark _ | rfl))) (sss_one (ss_ret (ee_lock (is := [3]) (pp_tup (pap_cons (pp_const (d := .str "gap") pe_str fun _ _ => ⟨rfl, rfl⟩) (pap_cons (pp_name (pv 3)) pap_nil)))))) sss_nil) (sss_one (ss_ret (ee_lock (is := []) (pp_const (d := .non) pe_non fun _ _ => ⟨rfl, rfl⟩)))))))))
theorem ok__law_slide (T : Txt P K mg D) : FnOk P w K mg base (L2.CX P w) 3 D.f__law_slide D.d__law_slide ["state", "size", "rooms"] (spM (LY K D) m__law_slide) :=
  fn_ok (N := N__law_slide) (ps := ["state", "size", "rooms"]) (L := LY K D) (S := [0, 1, 2]) (body := b__law_slide) T.F__law_slide sc__law_slide (by decide) (by decide) fun cdv A outer s H E hr =>
    (sss_cons (ss_set (i := 3) (by decide) sc__law_slide.nd rfl (by first | exact .inl rfl | exact .inr rfl) (ee_call (ok__law_next T) (hr.mono (by decide)) (takes_of rfl rfl rfl rfl) rfl T.g__law_next T.F__law_next.kp T.b__law_next (ea_ld (pv 0) (ea_cons (ee_lock (is := []) (pp_const (d := .int 2) pe_int fun _ _ => ⟨rfl, rfl⟩)) ea_nil)))) (sss_cons (ss_set (i := 4) (by decide) sc__law_slide.nd rfl (by first | exact .inl rfl | exact .inr rfl) (ee_call (ok__law_next T) (hr.mono (by decide)) (takes_of rfl rfl rfl rfl) rfl T.g__law_next T.F__law_next.kp T.b__law_next (ea_ld (pv 0) (ea_cons (ee_n (pn_callB call_len eff_len rfl T.n_len (by decide +kernel) (pap_cons (pp_name (pv 2)) pap_nil))) ea_nil)))) (sss_cons (ss_if (et_lift (pq_cmp (op_eqA hr.units) eff_eq.pure (pp_ix ix_seq pure_ix (pp_ix ix_seq pure_ix (pp_name (pv 2)) (pp_name (pv 4)) (fun _ _ => rfl)) (pn_pp (pn_op op_addX eff_addX (pp_name (pv 3)) (pp_const (d := .int 2) pe_int fun _ _ => ⟨rfl, rfl⟩))) (fun _ _ => rfl)) (pp_ix ix_seq pure_ix (pp_name (pv 1)) (pp_name (pv 3)) (fun _ _ => rfl)) (by first | exact nomark _ | rfl))) (sss_one ss_retN) sss_nil) (sss_cons (ss_set (i := 5) (by decide) sc__law_slide.nd rfl (by first | exact .inl rfl | exact .inr rfl) (ee_n (pn_call (ok__law_border T) (hr.mono (by decide)) rfl T.g__law_border T.F__law_border.kp T.b__law_border (pap_cons (pp_name (pv 2)) (pap_cons (pp_name (pv 3)) (pap_cons (pp_name (pv 4)) pap_nil)))))) (sss_cons (ss_set (i := 6) (by decide) sc__law_slide.nd rfl (by first | exact .inl rfl | exact .inr rfl) (ee_n (pn_callB (cr_max rfl) eff_maxL rfl T.n_max (by decide +kernel) (pap_cons (pn_pp (pn_lc (own := [("k", 9)]) rfl sc__law_slide.nd (pi_list (pp_ix ix_seq pure_ix (pp_name (pv 5)) (pp_const (d := .int 0) pe_int fun _ _ => ⟨rfl, rfl⟩) (fun _ _ => rfl))) ⟨(blkOk_by (own := [("k", 9)]) (N := N__law_slide) (sc := defScope (topS 28)) (by decide +kernel)), fun _ _ _ _ _ => (sgp_nm (i := 9) (wipe_nm (by decide)) sc__law_slide.nd rfl (by first | exact .inl rfl | exact .inr rfl)), fun _ _ _ _ _ => ptts_nil, fun _ _ _ _ _ => (pn_fro (pp_ix ix_seq pure_ix (pp_ix ix_seq pure_ix (pp_name (pv 2)) (pp_name (pv 9)) (fun _ _ => rfl)) (pp_name (pv 3)) (fun _ _ => rfl)))⟩ (imp_lcNL rfl))) pap_nil)))) (sss_cons (ss_set (i := 7) (by decide) sc__law_slide.nd rfl (by first | exact .inl rfl | exact .inr rfl) (ee_n (pn_callB (cr_min rfl) eff_minL rfl T.n_min (by decide +kernel) (pap_cons (pn_pp (pn_lc (own := [("k", 9)]) rfl sc__law_slide.nd (pi_list (pp_ix ix_seq pure_ix (pp_name (pv 5)) (pp_const (d := .int 1) pe_int fun _ _ => ⟨rfl, rfl⟩) (fun _ _ => rfl))) ⟨(blkOk_by (own := [("k", 9)]) (N := N__law_slide) (sc := defScope (topS 28)) (by decide +kernel)), fun _ _ _ _ _ => (sgp_nm (i := 9) (wipe_nm (by decide)) sc__law_slide.nd rfl (by first | exact .inl rfl | exact .inr rfl)), fun _ _ _ _ _ => ptts_nil, fun _ _ _ _ _ => (pn_fro (pp_ix ix_seq pure_ix (pp_ix ix_seq pure_ix (pp_name (pv 2)) (pp_name (pv 9)) (fun _ _ => rfl)) (pn_pp (pn_op op_addX eff_addX (pp_name (pv 3)) (pp_const (d := .int 2) pe_int fun _ _ => ⟨rfl, rfl⟩))) (fun _ _ => rfl)))⟩ (imp_lcNL rfl))) pap_nil)))) (sss_one (ss_if (et_lift (pq_cmp op_ge eff_ge.pure (pn_pp (pn_op op_sub eff_sub (pp_name (pv 7)) (pp_name (pv 6)))) (pp_const (d := .int 3) pe_int fun _ _ => ⟨rfl, rfl⟩) (by first | exact nomark _ | rfl))) (sss_cons (ss_set (i := 8) (by decide) sc__law_slide.nd rfl (by first | exact .inl rfl | exact .inr rfl) (ee_op op_addX eff_addX (ee_n (pn_op op_addX eff_addX (pp_name (pv 6)) (pp_const (d := .int 1) pe_int fun _ _ => ⟨rfl, rfl⟩))) (ee_call (ok__law_next T) (hr.mono (by decide)) (takes_of rfl rfl rfl rfl) rfl T.g__law_next T.F__law_next.kp T.b__law_next (ea_ld (pv 0) (ea_cons (ee_n (pn_op op_sub eff_sub (pn_pp (pn_op op_sub eff_sub (pp_name (pv 7)) (pp_name (pv 6)))) (pp_const (d := .int 1) pe_int fun _ _ => ⟨rfl, rfl⟩))) ea_nil))))) (sss_cons (ss_forL (by rfl) (by exact passes_of rfl) (by rfl) (by exact (ee_lock (is := [5]) (pp_ix ix_seq pure_ix (pp_name (pv 5)) (pp_const (d := .int 0) pe_int fun _ _ => ⟨rfl, rfl⟩) (fun _ _ => rfl)))) (by exact (sg_nm (i := 9) (keep_nm (by decide)) sc__law_slide.nd rfl (by first | exact .inl rfl | exact .inr rfl))) (by exact (sss_one (ss_store rfl (by exact (ee_lock (is := [8]) (pp_name (pv 8)))) (by exact (loc_ix rfl (loc_name (pv 2)) (pp_name (pv 9)) (fun _ _ => rfl))) (by exact (pn_pp (pn_op op_addX eff_addX (pp_name (pv 3)) (pp_const (d := .int 2) pe_int fun _ _ => ⟨rfl, rfl⟩)))))))) (sss_one (ss_forL (by rfl) (by exact passes_of rfl) (by rfl) (by exact (ee_lock (is := [5]) (pp_ix ix_seq pure_ix (pp_name (pv 5)) (pp_const (d := .int 1) pe_int fun _ _ => ⟨rfl, rfl⟩) (fun _ _ => rfl)))) (by exact (sg_nm (i := 9) (keep_nm (by decide)) sc__law_slide.nd rfl (by first | exact .inl rfl | exact .inr rfl))) (by exact (sss_one (ss_store rfl (by exact (ee_lock (is := [8]) (pp_name (pv 8)))) (by exact (loc_ix rfl (loc_name (pv 2)) (pp_name (pv 9)) (fun _ _ => rfl))) (by exact (pp_name (pv 3)))))))))) sss_nil))))))))
theorem ok_Floor___init__ (T : Txt P K mg D) : FnOk P w K mg base (L2.CX P w) 4 D.f_Floor___init__ D.d_Floor___init__ ["self", "width", "height", "rooms"] (spM (LY K D) m_Floor___init__) :=
  fn_ok (N := N_Floor___init__) (ps := ["self", "width", "height", "rooms"]) (L := LY K D) (S := [0, 1, 2, 3]) (body := b_Floor___init__) T.F_Floor___init__ sc_Floor___init__ (by decide) (by decide) fun cdv A outer s H E hr =>
    (sss_cons (ss_set (i := 4) (by decide) sc_Floor___init__.nd rfl (by first | exact .inl rfl | exact .inr rfl) (ee_n (pn_call (ok_floor_fault T) (hr.mono (by decide)) rfl T.g_floor_fault T.F_floor_fault.kp T.b_floor_fault (pap_cons (pp_name (pv 1)) (pap_cons (pp_name (pv 2)) (pap_cons (pp_name (pv 3)) pap_nil)))))) (sss_cons (ss_if (et_lift (pq_cmp op_notN eff_notN.pure (pp_name (pv 4)) (pp_const (d := .non) pe_non fun _ _ => ⟨rfl, rfl⟩) (by first | exact nomark _ | rfl))) (sss_one (ss_raise (k := 0) rfl T.e_BadFloor fo_fault T.g_BadFloor (hr.mono (by decide)) (takes_of rfl rfl rfl rfl) (pp_name (pv 4)) rfl)) sss_nil) (sss_cons (ss_stf rfl T.fl_width (ee_lock (is := [1]) (pp_name (pv 1))) (loc_name (pv 0))) (sss_cons (ss_stf rfl T.fl_height (ee_lock (is := [2]) (pp_name (pv 2))) (loc_name (pv 0))) (sss_one (ss_stf rfl T.fl__rooms (ee_n (pn_lc (own := [("x0", 5), ("y0", 6), ("x1", 7), ("y1", 8)]) rfl sc_Floor___init__.nd (pi_list (pp_name (pv 3))) ⟨(blkOk_by (own := [("x0", 5), ("y0", 6), ("x1", 7), ("y1", 8)]) (N := N_Floor___init__) (sc := defScope (metS 14 0)) (by decide +kernel)), fun _ _ _ _ _ => (sgp_tup rfl rfl (sgps_cons (wipeRlOk _) (sgp_nm (i := 5) (wipe_nm (by decide)) sc_Floor___init__.nd rfl (by first | exact .inl rfl | exact .inr rfl)) (sgps_cons (wipeRlOk _) (sgp_nm (i := 6) (wipe_nm (by decide)) sc_Floor___init__.nd rfl (by first | exact .inl rfl | exact .inr rfl)) (sgps_cons (wipeRlOk _) (sgp_nm (i := 7) (wipe_nm (by decide)) sc_Floor___init__.nd rfl (by first | exact .inl rfl | exact .inr rfl)) (sgps_cons (wipeRlOk _) (sgp_nm (i := 8) (wipe_nm (by decide)) sc_Floor___init__.nd rfl (by first | exact .inl rfl | exact .inr rfl)) (sgps_nil (wipeRlOk _))))))), fun _ _ _ _ _ => ptts_nil, fun _ _ _ _ _ => (pn_fro (pp_tup (pap_cons (pp_name (pv 5)) (pap_cons (pp_name (pv 6)) (pap_cons (pp_name (pv 7)) (pap_cons (pp_name (pv 8)) pap_nil))))))⟩ (imp_lcNL rfl))) (loc_name (pv 0))))))))
theorem ok__law_floor (T : Txt P K mg D) : FnOk P w K mg base (L2.CX P w) 4 D.f__law_floor D.d__law_floor ["state", "rooms", "slides", "plain"] (spM (LY K D) m__law_floor) :=
  fn_ok (N := N__law_floor) (ps := ["state", "rooms", "slides", "plain"]) (L := LY K D) (S := [0, 1, 2, 3]) (body := b__law_floor) T.F__law_floor sc__law_floor (by decide) (by decide) fun cdv A outer s H E hr =>
    (sss_cons (ss_set (i := 4) (by decide) sc__law_floor.nd rfl (by first | exact .inl rfl | exact .inr rfl) (ee_lst (ea_cons (ee_op op_addX eff_addX (ee_lock (is := []) (pp_const (d := .int 1) pe_int fun _ _ => ⟨rfl, rfl⟩)) (ee_call (ok__law_next T) (hr.mono (by decide)) (takes_of rfl rfl rfl rfl) rfl T.g__law_next T.F__law_next.kp T.b__law_next (ea_ld (pv 0) (ea_cons (ee_lock (is := []) (pp_const (d := .int 3) pe_int fun _ _ => ⟨rfl, rfl⟩)) ea_nil)))) (ea_cons (ee_op op_addX eff_addX (ee_lock (is := []) (pp_const (d := .int 1) pe_int fun _ _ => ⟨rfl, rfl⟩)) (ee_call (ok__law_next T) (hr.mono (by decide)) (takes_of rfl rfl rfl rfl) rfl T.g__law_next T.F__law_next.kp T.b__law_next (ea_ld (pv 0) (ea_cons (ee_lock (is := []) (pp_const (d := .int 3) pe_int fun _ _ => ⟨rfl, rfl⟩)) ea_nil)))) ea_nil)))) (sss_cons (ss_set (i := 5) (by decide) sc__law_floor.nd rfl (by first | exact .inl rfl | exact .inr rfl) (ee_lst (ea_cons (ee_n (pn_lst (pap_cons (pp_const (d := .int 0) pe_int fun _ _ => ⟨rfl, rfl⟩) (pap_cons (pp_const (d := .int 0) pe_int fun _ _ => ⟨rfl, rfl⟩) (pap_cons (pp_ix ix_seq pure_ix (pp_name (pv 4)) (pp_const (d := .int 0) pe_int fun _ _ => ⟨rfl, rfl⟩) (fun _ _ => rfl)) (pap_cons (pp_ix ix_seq pure_ix (pp_name (pv 4)) (pp_const (d := .int 1) pe_int fun _ _ => ⟨rfl, rfl⟩) (fun _ _ => rfl)) pap_nil)))))) ea_nil))) (sss_cons (ss_forR1 (by exact passes_of rfl) (by rfl) (by rfl) (by exact T.n_range) (by exact (ea_cons (ee_n (pn_op op_sub eff_sub (pp_name (pv 1)) (pp_const (d := .int 1) pe_int fun _ _ => ⟨rfl, rfl⟩))) ea_nil)) (by exact (sg_nm (i := 6) (keep_nm (by decide)) sc__law_floor.nd rfl (by first | exact .inl rfl | exact .inr rfl))) (by exact (sss_one (ss_expr (ee_call (ok__law_push T) (hr.mono (by decide)) (takes_of rfl rfl rfl rfl) rfl T.g__law_push T.F__law_push.kp T.b__law_push (ea_ld (pv 0) (ea_ld (pv 4) (ea_ld (pv 5) ea_nil)))))))) (sss_cons (ss_forR1 (by exact passes_of rfl) (by rfl) (by rfl) (by exact T.n_range) (by exact (ea_cons (ee_lock (is := [2]) (pp_name (pv 2))) ea_nil)) (by exact (sg_nm (i := 6) (keep_nm (by decide)) sc__law_floor.nd rfl (by first | exact .inl rfl | exact .inr rfl))) (by exact (sss_cons (ss_setLcN (own := [("room", 8)]) (i := 7) (by decide) rfl sc__law_floor.nd rfl rfl (sw_true rfl rfl rfl (by decide +kernel)) (pi_list (pp_name (pv 5))) ⟨(blkOk_by (own := [("room", 8)]) (N := N__law_floor) (sc := defScope (topS 30)) (by decide +kernel)), fun _ _ _ _ _ => (sgp_nm (i := 8) (wipe_nm (by decide)) sc__law_floor.nd rfl (by first | exact .inl rfl | exact .inr rfl)), fun _ _ _ _ _ => ptts_nil, fun _ _ _ _ _ => (pn_callTy call_list_of eff_list rfl T.n_list (by decide +kernel) (pap_cons (pp_name (pv 8)) pap_nil))⟩ (imp_lcNL rfl)) (sss_cons (ss_expr (ee_call (ok__law_slide T) (hr.mono (by decide)) (takes_of rfl rfl rfl rfl) rfl T.g__law_slide T.F__law_slide.kp T.b__law_slide (ea_ld (pv 0) (ea_ld (pv 4) (ea_ld (pv 5) ea_nil))))) (sss_one (ss_if (et_lift (L2.PW.pt (pqw_and (pq_val (pp_name (pv 3))) (pqw_and1 pq_bad)))) (sss_one ss_bad) sss_nil)))))) (sss_one (ss_ret (ee_lst (ea_cons (ee_nM (pv 4)) (ea_cons (ee_n (pn_lc (own := [("room", 8)]) rfl sc__law_floor.nd (pi_list (pp_name (pv 5))) ⟨(blkOk_by (own := [("room", 8)]) (N := N__law_floor) (sc := defScope (topS 30)) (by decide +kernel)), fun _ _ _ _ _ => (sgp_nm (i := 8) (wipe_nm (by decide)) sc__law_floor.nd rfl (by first | exact .inl rfl | exact .inr rfl)), fun _ _ _ _ _ => ptts_nil, fun _ _ _ _ _ => (pn_fro (pp_tup (pap_cons (pp_ix ix_seq pure_ix (pp_name (pv 8)) (pp_const (d := .int 0) pe_int fun _ _ => ⟨rfl, rfl⟩) (fun _ _ => rfl)) (pap_cons (pp_ix ix_seq pure_ix (pp_name (pv 8)) (pp_const (d := .int 1) pe_int fun _ _ => ⟨rfl, rfl⟩) (fun _ _ => rfl)) (pap_cons (pp_ix ix_seq pure_ix (pp_name (pv 8)) (pp_const (d := .int 2) pe_int fun _ _ => ⟨rfl, rfl⟩) (fun _ _ => rfl)) (pap_cons (pp_ix ix_seq pure_ix (pp_name (pv 8)) (pp_const (d := .int 3) pe_int fun _ _ => ⟨rfl, rfl⟩) (fun _ _ => rfl)) pap_nil))))))⟩ (imp_lcNL rfl))) ea_nil)))))))))
theorem ok_joinable (T : Txt P K mg D) : FnOk P w K mg base (L2.CX P w) 5 D.f_joinable D.d_joinable ["floor"] (spM (LY K D) m_joinable) :=
  fn_ok (N := N_joinable) (ps := ["floor"]) (L := LY K D) (S := [0]) (body := b_joinable) T.F_joinable sc_joinable (by decide) (by decide) fun cdv A outer s H E hr =>
    (sss_cons (ss_set (i := 1) (by decide) sc_joinable.nd rfl (by first | exact .inl rfl | exact .inr rfl) (ee_n (pn_callTy (call_listO rfl T.itC T.itF T.lenC T.lenF (ok_Floor___iter__ T) T.b_Floor___iter__ (ok_Floor___len__ T) T.b_Floor___len__ (hr.mono (by decide))) eff_listO rfl T.n_list (by decide +kernel) (pap_cons (pp_name (pv 0)) pap_nil)))) (sss_cons (ss_set (i := 2) (by decide) sc_joinable.nd rfl (by first | exact .inl rfl | exact .inr rfl) (ee_n (pn_lst pap_nil))) (sss_cons (ss_forR1 (by exact passes_of rfl) (by rfl) (by rfl) (by exact T.n_range) (by exact (ea_cons (ee_n (pn_callB call_len eff_len rfl T.n_len (by decide +kernel) (pap_cons (pp_name (pv 1)) pap_nil))) ea_nil)) (by exact (sg_nm (i := 3) (keep_nm (by decide)) sc_joinable.nd rfl (by first | exact .inl rfl | exact .inr rfl))) (by exact (sss_one (ss_forR2 (by exact passes_of rfl) (by rfl) (by rfl) (by exact T.n_range) (by exact (ea_cons (ee_n (pn_op op_addX eff_addX (pp_name (pv 3)) (pp_const (d := .int 1) pe_int fun _ _ => ⟨rfl, rfl⟩))) (ea_cons (ee_n (pn_callB call_len eff_len rfl T.n_len (by decide +kernel) (pap_cons (pp_name (pv 1)) pap_nil))) ea_nil))) (by exact (sg_nm (i := 4) (keep_nm (by decide)) sc_joinable.nd rfl (by first | exact .inl rfl | exact .inr rfl))) (by exact (sss_one (ss_if (et_lift (pq_cmp op_notN eff_notN.pure (pn_pp (pn_call (ok_union_of T) (hr.mono (by decide)) rfl T.g_union_of T.F_union_of.kp T.b_union_of (pap_cons (pp_ix ix_seq pure_ix (pp_name (pv 1)) (pp_name (pv 3)) (fun _ _ => rfl)) (pap_cons (pp_ix ix_seq pure_ix (pp_name (pv 1)) (pp_name (pv 4)) (fun _ _ => rfl)) pap_nil)))) (pp_const (d := .non) pe_non fun _ _ => ⟨rfl, rfl⟩) (by first | exact nomark _ | rfl))) (sss_one (ss_expr (ee_mtdN PySem.F.plainAttrs_list PySem.F.slot_list_append PySem.F.type_list_append mt_append mut_append (pv 2) (ea_cons (ee_lock (is := [3, 4]) (pp_tup (pap_cons (pp_name (pv 3)) (pap_cons (pp_name (pv 4)) pap_nil)))) ea_nil)))) sss_nil))))))) (sss_one (ss_ret (ee_nM (pv 2)))))))
theorem ok__law_drawn (T : Txt P K mg D) : FnOk P w K mg base (L2.CX P w) 5 D.f__law_drawn D.d__law_drawn ["state"] (spM (LY K D) m__law_drawn) :=
  fn_ok (N := N__law_drawn) (ps := ["state"]) (L := LY K D) (S := [0]) (body := b__law_drawn) T.F__law_drawn sc__law_drawn (by decide) (by decide) fun cdv A outer s H E hr =>
    (sss_cons (ss_set (i := 1) (by decide) sc__law_drawn.nd rfl (by first | exact .inl rfl | exact .inr rfl) (ee_call (ok__law_next T) (hr.mono (by decide)) (takes_of rfl rfl rfl rfl) rfl T.g__law_next T.F__law_next.kp T.b__law_next (ea_ld (pv 0) (ea_cons (ee_lock (is := []) (pp_const (d := .int 8) pe_int fun _ _ => ⟨rfl, rfl⟩)) ea_nil)))) (sss_cons (ss_set (i := 2) (by decide) sc__law_drawn.nd rfl (by first | exact .inl rfl | exact .inr rfl) (ee_op op_addX eff_addX (ee_lock (is := []) (pp_const (d := .int 1) pe_int fun _ _ => ⟨rfl, rfl⟩)) (ee_call (ok__law_next T) (hr.mono (by decide)) (takes_of rfl rfl rfl rfl) rfl T.g__law_next T.F__law_next.kp T.b__law_next (ea_ld (pv 0) (ea_cons (ee_lock (is := []) (pp_const (d := .int 9) pe_int fun _ _ => ⟨rfl, rfl⟩)) ea_nil))))) (sss_cons (ss_if (et_lift (pq_cmp op_gt eff_gt.pure (pp_name (pv 1)) (pp_const (d := .int 5) pe_int fun _ _ => ⟨rfl, rfl⟩) (by first | exact nomark _ | rfl))) (sss_one (ss_set (i := 2) (by decide) sc__law_drawn.nd rfl (by first | exact .inl rfl | exact .inr rfl) (ee_n (pn_op op_addX eff_addX (pp_const (d := .int 13) pe_int fun _ _ => ⟨rfl, rfl⟩) (pp_name (pv 1)))))) sss_nil) (sss_cons (ss_set (i := 3) (by decide) sc__law_drawn.nd rfl (by first | exact .inl rfl | exact .inr rfl) (ee_call (ok__law_floor T) (hr.mono (by decide)) (takes_of rfl rfl rfl rfl) rfl T.g__law_floor T.F__law_floor.kp T.b__law_floor (ea_ld (pv 0) (ea_cons (ee_lock (is := [2]) (pp_name (pv 2))) (ea_cons (ee_call (ok__law_next T) (hr.mono (by decide)) (takes_of rfl rfl rfl rfl) rfl T.g__law_next T.F__law_next.kp T.b__law_next (ea_ld (pv 0) (ea_cons (ee_lock (is := []) (pp_const (d := .int 10) pe_int fun _ _ => ⟨rfl, rfl⟩)) ea_nil))) (ea_cons (ee_lock (is := []) (pp_const (d := .bl false) pe_bl fun _ _ => ⟨rfl, rfl⟩)) ea_nil)))))) (sss_cons (ss_if (et_lift (pq_cmp (op_eqA hr.units) eff_eq.pure (pp_name (pv 1)) (pp_const (d := .int 5) pe_int fun _ _ => ⟨rfl, rfl⟩) (by first | exact nomark _ | rfl))) (sss_cons (ss_set (i := 4) (by decide) sc__law_drawn.nd rfl (by first | exact .inl rfl | exact .inr rfl) (ee_op op_addX eff_addX (ee_lock (is := []) (pp_const (d := .int 1) pe_int fun _ _ => ⟨rfl, rfl⟩)) (ee_call (ok__law_next T) (hr.mono (by decide)) (takes_of rfl rfl rfl rfl) rfl T.g__law_next T.F__law_next.kp T.b__law_next (ea_ld (pv 0) (ea_cons (ee_lock (is := []) (pp_const (d := .int 4) pe_int fun _ _ => ⟨rfl, rfl⟩)) ea_nil))))) (sss_cons (ss_set (i := 5) (by decide) sc__law_drawn.nd rfl (by first | exact .inl rfl | exact .inr rfl) (ee_op op_addX eff_addX (ee_lock (is := []) (pp_const (d := .int 1) pe_int fun _ _ => ⟨rfl, rfl⟩)) (ee_call (ok__law_next T) (hr.mono (by decide)) (takes_of rfl rfl rfl rfl) rfl T.g__law_next T.F__law_next.kp T.b__law_next (ea_ld (pv 0) (ea_cons (ee_lock (is := []) (pp_const (d := .int 5) pe_int fun _ _ => ⟨rfl, rfl⟩)) ea_nil))))) (sss_cons (ss_set (i := 6) (by decide) sc__law_drawn.nd rfl (by first | exact .inl rfl | exact .inr rfl) (ee_n (pn_lst pap_nil))) (sss_cons (ss_forR1 (by exact passes_of rfl) (by rfl) (by rfl) (by exact T.n_range) (by exact (ea_cons (ee_n (pn_op op_mul eff_mul (pp_name (pv 4)) (pp_name (pv 5)))) ea_nil)) (by exact (sg_nm (i := 7) (keep_nm (by decide)) sc__law_drawn.nd rfl (by first | exact .inl rfl | exact .inr rfl))) (by exact (sss_cons (ss_set (i := 8) (by decide) sc__law_drawn.nd rfl (by first | exact .inl rfl | exact .inr rfl) (ee_n (pn_op op_mod eff_mod (pn_pp (pn_callTy call_int1 eff_int1 rfl T.n_int (by decide +kernel) (pap_cons (pp_name (pv 7)) pap_nil))) (pp_name (pv 4))))) (sss_one (ss_expr (ee_mtdN PySem.F.plainAttrs_list PySem.F.slot_list_append PySem.F.type_list_append mt_append mut_append (pv 6) (ea_cons (ee_lock (is := [8]) (pp_tup (pap_cons (pp_name (pv 8)) (pap_cons (pn_pp (pn_op op_fdivW eff_fdiv (pp_name (pv 7)) (pp_name (pv 4)))) (pap_cons (pn_pp (pn_op op_addX eff_addX (pp_name (pv 8)) (pp_const (d := .int 1) pe_int fun _ _ => ⟨rfl, rfl⟩))) (pap_cons (pn_pp (pn_op op_addX eff_addX (pn_pp (pn_op op_fdivW eff_fdiv (pp_name (pv 7)) (pp_name (pv 4)))) (pp_const (d := .int 1) pe_int fun _ _ => ⟨rfl, rfl⟩))) pap_nil)))))) ea_nil))))))) (sss_one (ss_set (i := 3) (by decide) sc__law_drawn.nd rfl (by first | exact .inl rfl | exact .inr rfl) (ee_lst (ea_cons (ee_n (pn_lst (pap_cons (pp_name (pv 4)) (pap_cons (pp_name (pv 5)) pap_nil)))) (ea_cons (ee_nM (pv 6)) ea_nil))))))))) sss_nil) (sss_cons (ss_setLc (own := [("k", 7)]) (i := 6) (by decide) rfl sc__law_drawn.nd rfl rfl (sw_true rfl rfl rfl (by decide +kernel)) (pi_list (ee_call (ok__law_order T) (hr.mono (by decide)) (takes_of rfl rfl rfl rfl) rfl T.g__law_order T.F__law_order.kp T.b__law_order (ea_ld (pv 0) (ea_cons (ee_n (pn_callB call_len eff_len rfl T.n_len (by decide +kernel) (pap_cons (pp_ix ix_seq pure_ix (pp_name (pv 3)) (pp_const (d := .int 1) pe_int fun _ _ => ⟨rfl, rfl⟩) (fun _ _ => rfl)) pap_nil))) ea_nil)))) ⟨(blkOk_by (own := [("k", 7)]) (N := N__law_drawn) (sc := defScope (topS 32)) (by decide +kernel)), fun _ _ _ _ _ => (sg_nm (i := 7) (wipe_nm (by decide)) sc__law_drawn.nd rfl (by first | exact .inl rfl | exact .inr rfl)), fun _ _ _ _ _ => etts_nil, fun _ _ _ _ _ => (ee_lock (is := [3]) (pp_ix ix_seq pure_ix (pp_ix ix_seq pure_ix (pp_name (pv 3)) (pp_const (d := .int 1) pe_int fun _ _ => ⟨rfl, rfl⟩) (fun _ _ => rfl)) (pp_name (pv 7)) (fun _ _ => rfl)))⟩ (imp_lcL rfl)) (sss_cons (ss_set (i := 9) (by decide) sc__law_drawn.nd rfl (by first | exact .inl rfl | exact .inr rfl) (ee_ix ix_seq pure_ix (ee_n (pn_lst (pap_cons (pp_const (d := .int 1) pe_int fun _ _ => ⟨rfl, rfl⟩) (pap_cons (pp_const (d := .int 2) pe_int fun _ _ => ⟨rfl, rfl⟩) (pap_cons (pp_const (d := .int 3) pe_int fun _ _ => ⟨rfl, rfl⟩) (pap_cons (pn_pp (pn_op op_pow eff_pow (pp_const (d := .int 10) pe_int fun _ _ => ⟨rfl, rfl⟩) (pp_const (d := .int 7) pe_int fun _ _ => ⟨rfl, rfl⟩))) pap_nil)))))) (ee_call (ok__law_next T) (hr.mono (by decide)) (takes_of rfl rfl rfl rfl) rfl T.g__law_next T.F__law_next.kp T.b__law_next (ea_ld (pv 0) (ea_cons (ee_lock (is := []) (pp_const (d := .int 4) pe_int fun _ _ => ⟨rfl, rfl⟩)) ea_nil))) (fun _ _ => rfl))) (sss_cons (ss_set (i := 10) (by decide) sc__law_drawn.nd rfl (by first | exact .inl rfl | exact .inr rfl) (ee_ix ix_seq pure_ix (ee_n (pn_lst (pap_cons (pp_const (d := .int 1) pe_int fun _ _ => ⟨rfl, rfl⟩) (pap_cons (pp_const (d := .int 2) pe_int fun _ _ => ⟨rfl, rfl⟩) (pap_cons (pp_const (d := .int 3) pe_int fun _ _ => ⟨rfl, rfl⟩) (pap_cons (pn_pp (pn_op op_pow eff_pow (pp_const (d := .int 10) pe_int fun _ _ => ⟨rfl, rfl⟩) (pp_const (d := .int 7) pe_int fun _ _ => ⟨rfl, rfl⟩))) pap_nil)))))) (ee_call (ok__law_next T) (hr.mono (by decide)) (takes_of rfl rfl rfl rfl) rfl T.g__law_next T.F__law_next.kp T.b__law_next (ea_ld (pv 0) (ea_cons (ee_lock (is := []) (pp_const (d := .int 4) pe_int fun _ _ => ⟨rfl, rfl⟩)) ea_nil))) (fun _ _ => rfl))) (sss_cons (ss_setLcN (own := [("room", 11)]) (i := 6) (by decide) rfl sc__law_drawn.nd rfl rfl (sw_true rfl rfl rfl (by decide +kernel)) (pi_list (pp_name (pv 6))) ⟨(blkOk_by (own := [("room", 11)]) (N := N__law_drawn) (sc := defScope (topS 32)) (by decide +kernel)), fun _ _ _ _ _ => (sgp_nm (i := 11) (wipe_nm (by decide)) sc__law_drawn.nd rfl (by first | exact .inl rfl | exact .inr rfl)), fun _ _ _ _ _ => ptts_nil, fun _ _ _ _ _ => (pn_fro (pp_tup (pap_cons (pn_pp (pn_op op_mul eff_mul (pp_ix ix_seq pure_ix (pp_name (pv 11)) (pp_const (d := .int 0) pe_int fun _ _ => ⟨rfl, rfl⟩) (fun _ _ => rfl)) (pp_name (pv 9)))) (pap_cons (pn_pp (pn_op op_mul eff_mul (pp_ix ix_seq pure_ix (pp_name (pv 11)) (pp_const (d := .int 1) pe_int fun _ _ => ⟨rfl, rfl⟩) (fun _ _ => rfl)) (pp_name (pv 10)))) (pap_cons (pn_pp (pn_op op_mul eff_mul (pp_ix ix_seq pure_ix (pp_name (pv 11)) (pp_const (d := .int 2) pe_int fun _ _ => ⟨rfl, rfl⟩) (fun _ _ => rfl)) (pp_name (pv 9)))) (pap_cons (pn_pp (pn_op op_mul eff_mul (pp_ix ix_seq pure_ix (pp_name (pv 11)) (pp_const (d := .int 3) pe_int fun _ _ => ⟨rfl, rfl⟩) (fun _ _ => rfl)) (pp_name (pv 10)))) pap_nil))))))⟩ (imp_lcNL rfl)) (sss_one (ss_ret (ee_lst (ea_cons (ee_n (pn_lst (pap_cons (pn_pp (pn_op op_mul eff_mul (pp_ix ix_seq pure_ix (pp_ix ix_seq pure_ix (pp_name (pv 3)) (pp_const (d := .int 0) pe_int fun _ _ => ⟨rfl, rfl⟩) (fun _ _ => rfl)) (pp_const (d := .int 0) pe_int fun _ _ => ⟨rfl, rfl⟩) (fun _ _ => rfl)) (pp_name (pv 9)))) (pap_cons (pn_pp (pn_op op_mul eff_mul (pp_ix ix_seq pure_ix (pp_ix ix_seq pure_ix (pp_name (pv 3)) (pp_const (d := .int 0) pe_int fun _ _ => ⟨rfl, rfl⟩) (fun _ _ => rfl)) (pp_const (d := .int 1) pe_int fun _ _ => ⟨rfl, rfl⟩) (fun _ _ => rfl)) (pp_name (pv 10)))) pap_nil)))) (ea_cons (ee_nM (pv 6)) ea_nil))))))))))))))
theorem ok__law_is (T : Txt P K mg D) : FnOk P w K mg base (L2.CX P w) 5 D.f__law_is D.d__law_is ["floor", "size", "rooms"] (spM (LY K D) m__law_is) :=
  fn_ok (N := N__law_is) (ps := ["floor", "size", "rooms"]) (L := LY K D) (S := [0, 1, 2]) (body := b__law_is) T.F__law_is sc__law_is (by decide) (by decide) fun cdv A outer s H E hr =>
    (sss_cons (ss_if (et_lift (L2.PW.pt (pqw_or (pq_not (pq_val (pn_pp (pn_callB call_isiA (eff_isi T.tI T.ownI) rfl T.n_isinstance (by decide +kernel) (pap_cons (pp_name (pv 0)) (pap_cons (pp_const (pe_glob (v := .ref (D.CT "Floor")) rfl T.g_Floor rfl) fun _ _ => ⟨rfl, rfl⟩) pap_nil)))))) (pqw_or (pq_not (pq_val (pn_pp (pn_call (ok__law_int T) (hr.mono (by decide)) rfl T.g__law_int T.F__law_int.kp T.b__law_int (pap_cons (pp_fld rfl T.fl_width (pp_name (pv 0))) pap_nil))))) (pqw_or1 (pq_not (pq_val (pn_pp (pn_call (ok__law_int T) (hr.mono (by decide)) rfl T.g__law_int T.F__law_int.kp T.b__law_int (pap_cons (pp_fld rfl T.fl_height (pp_name (pv 0))) pap_nil)))))))))) (sss_one (ss_ret (ee_lock (is := []) (pp_const (d := .bl false) pe_bl fun _ _ => ⟨rfl, rfl⟩)))) sss_nil) (sss_cons (ss_if (et_lift (pq_cmp (op_neA hr.units) eff_ne.pure (pn_pp (pn_callB (call_lenO T.lenC T.lenF (ok_Floor___len__ T) T.b_Floor___len__ (hr.mono (by decide))) eff_lenO rfl T.n_len (by decide +kernel) (pap_cons (pp_name (pv 0)) pap_nil))) (pn_pp (pn_callB call_len eff_len rfl T.n_len (by decide +kernel) (pap_cons (pp_name (pv 2)) pap_nil))) (by first | exact nomark _ | rfl))) (sss_one (ss_ret (ee_lock (is := []) (pp_const (d := .bl false) pe_bl fun _ _ => ⟨rfl, rfl⟩)))) sss_nil) (sss_cons (ss_setLcN (own := [("k", 5)]) (i := 3) (by decide) rfl sc__law_is.nd rfl rfl (sw_true rfl rfl rfl (by decide +kernel)) (pi_range1 rfl T.n_range (pap_cons (pn_pp (pn_callB call_len eff_len rfl T.n_len (by decide +kernel) (pap_cons (pp_name (pv 2)) pap_nil))) pap_nil)) ⟨(blkOk_by (own := [("k", 5)]) (N := N__law_is) (sc := defScope (topS 33)) (by decide +kernel)), fun _ _ _ _ _ => (sgp_nm (i := 5) (wipe_nm (by decide)) sc__law_is.nd rfl (by first | exact .inl rfl | exact .inr rfl)), fun _ _ _ _ _ => ptts_nil, fun _ _ _ _ _ => (pn_meth (pp_name (pv 0)) T.clO T.mt_room (ok_Floor_room T) (hr.mono (by decide)) T.b_Floor_room (pap_cons (pp_name (pv 5)) pap_nil))⟩ imp_lcNR1) (sss_cons (ss_forL (by rfl) (by exact passes_of rfl) (by rfl) (by exact (ee_lock (is := [3]) (pp_name (pv 3)))) (by exact (sg_nm (i := 4) (keep_nm (by decide)) sc__law_is.nd rfl (by first | exact .inl rfl | exact .inr rfl))) (by exact (sss_one (ss_if (et_lift (L2.PW.pt (pqw_or (pq_not (pq_val (pn_pp (pn_callB call_isiA (eff_isi T.tI T.ownI) rfl T.n_isinstance (by decide +kernel) (pap_cons (pp_name (pv 4)) (pap_cons (pp_const (pe_bltn (v := .ty "tuple") (u := .type "tuple") rfl T.n_tuple (by decide +kernel) rfl) fun _ _ => ⟨rfl, rfl⟩) pap_nil)))))) (pqw_or1 (pq_not (pq_val (pn_pp (pn_call (ok__law_ints T) (hr.mono (by decide)) rfl T.g__law_ints T.F__law_ints.kp T.b__law_ints (pap_cons (pn_pp (pn_callTy call_list_of eff_list rfl T.n_list (by decide +kernel) (pap_cons (pp_name (pv 4)) pap_nil))) pap_nil))))))))) (sss_one (ss_ret (ee_lock (is := []) (pp_const (d := .bl false) pe_bl fun _ _ => ⟨rfl, rfl⟩)))) sss_nil)))) (sss_one (ss_ret (ee_lock (is := []) (pp_and (pn_pp (pn_cmp (op_eqA hr.units) eff_eq (pn_pp (pn_lst (pap_cons (pp_fld rfl T.fl_width (pp_name (pv 0))) (pap_cons (pp_fld rfl T.fl_height (pp_name (pv 0))) pap_nil)))) (pp_name (pv 1)) (by first | exact nomark _ | rfl))) (pp_and (pn_pp (pn_cmp (op_eqA hr.units) eff_eq (pp_name (pv 3)) (pp_name (pv 2)) (by first | exact nomark _ | rfl))) (pp_one (pn_pp (pn_cmp (op_eqA hr.units) eff_eq (pn_pp (pn_callTy (call_listO rfl T.itC T.itF T.lenC T.lenF (ok_Floor___iter__ T) T.b_Floor___iter__ (ok_Floor___len__ T) T.b_Floor___len__ (hr.mono (by decide))) eff_listO rfl T.n_list (by decide +kernel) (pap_cons (pp_name (pv 0)) pap_nil))) (pp_name (pv 2)) (by first | exact nomark _ | rfl)))))))))))))
theorem ok_split_room (T : Txt P K mg D) : FnOk P w K mg base (L2.CX P w) 6 D.f_split_room D.d_split_room ["floor", "room", "axis", "place"] (spM (LY K D) m_split_room) :=
  fn_ok (N := N_split_room) (ps := ["floor", "room", "axis", "place"]) (L := LY K D) (S := [0, 1, 2, 3]) (body := b_split_room) T.F_split_room sc_split_room (by decide) (by decide) fun cdv A outer s H E hr =>
    (sss_cons (ss_set (i := 4) (by decide) sc_split_room.nd rfl (by first | exact .inl rfl | exact .inr rfl) (ee_n (pn_meth (pp_name (pv 0)) T.clO T.mt_room (ok_Floor_room T) (hr.mono (by decide)) T.b_Floor_room (pap_cons (pp_name (pv 1)) pap_nil)))) (sss_cons (ss_if (et_lift (pq_not (pq_chain op_lt op_lt eff_lt.pure eff_lt.pure (pp_ix ix_seq pure_ix (pp_name (pv 4)) (pp_name (pv 2)) (fun _ _ => rfl)) (pp_name (pv 3)) (pp_ix ix_seq pure_ix (pp_name (pv 4)) (pn_pp (pn_op op_addX eff_addX (pp_name (pv 2)) (pp_const (d := .int 2) pe_int fun _ _ => ⟨rfl, rfl⟩))) (fun _ _ => rfl))))) (sss_one (ss_raise (k := 0) rfl T.e_BadPlace fo_place T.g_BadPlace (hr.mono (by decide)) (takes_of rfl rfl rfl rfl) (pp_name (pv 3)) rfl)) sss_nil) (sss_cons (ss_expr (ee_callB0 (ok_check_rooms T) (hr.mono (by decide)) (takes_of rfl rfl rfl rfl) (by rfl) T.g_check_rooms T.F_check_rooms.kp T.b_check_rooms (by exact (pap_cons (pn_pp (pn_op op_addX eff_addX (pn_pp (pn_callB (call_lenO T.lenC T.lenF (ok_Floor___len__ T) T.b_Floor___len__ (hr.mono (by decide))) eff_lenO rfl T.n_len (by decide +kernel) (pap_cons (pp_name (pv 0)) pap_nil))) (pp_const (d := .int 1) pe_int fun _ _ => ⟨rfl, rfl⟩))) pap_nil)))) (sss_cons (ss_set (i := 5) (by decide) sc_split_room.nd rfl (by first | exact .inl rfl | exact .inr rfl) (ee_n (pn_callTy call_list_of eff_list rfl T.n_list (by decide +kernel) (pap_cons (pp_name (pv 4)) pap_nil)))) (sss_cons (ss_store rfl (by exact (ee_lock (is := [3]) (pp_name (pv 3)))) (by exact (loc_name (pv 5))) (by exact (pn_pp (pn_op op_addX eff_addX (pp_name (pv 2)) (pp_const (d := .int 2) pe_int fun _ _ => ⟨rfl, rfl⟩))))) (sss_cons (ss_set (i := 6) (by decide) sc_split_room.nd rfl (by first | exact .inl rfl | exact .inr rfl) (ee_n (pn_callTy call_list_of eff_list rfl T.n_list (by decide +kernel) (pap_cons (pp_name (pv 4)) pap_nil)))) (sss_cons (ss_store rfl (by exact (ee_lock (is := [3]) (pp_name (pv 3)))) (by exact (loc_name (pv 6))) (by exact (pp_name (pv 2)))) (sss_cons (ss_set (i := 7) (by decide) sc_split_room.nd rfl (by first | exact .inl rfl | exact .inr rfl) (ee_n (pn_callTy (call_listO rfl T.itC T.itF T.lenC T.lenF (ok_Floor___iter__ T) T.b_Floor___iter__ (ok_Floor___len__ T) T.b_Floor___len__ (hr.mono (by decide))) eff_listO rfl T.n_list (by decide +kernel) (pap_cons (pp_name (pv 0)) pap_nil)))) (sss_cons (ss_store rfl (by exact (ee_n (pn_callTy call_tuple_of eff_tuple rfl T.n_tuple (by decide +kernel) (pap_cons (pp_name (pv 5)) pap_nil)))) (by exact (loc_name (pv 7))) (by exact (pp_name (pv 1)))) (sss_cons (ss_expr (ee_mtdN PySem.F.plainAttrs_list PySem.F.slot_list_append PySem.F.type_list_append mt_append mut_append (pv 7) (ea_cons (ee_n (pn_callTy call_tuple_of eff_tuple rfl T.n_tuple (by decide +kernel) (pap_cons (pp_name (pv 6)) pap_nil))) ea_nil))) (sss_one (ss_ret (ee_make T.mkO (ok_Floor___init__ T) (hr.mono (by decide)) (takes_of rfl rfl rfl rfl) rfl T.g_Floor T.b_Floor___init__ (ea_cons (ee_lock (is := [0]) (pp_fld rfl T.fl_width (pp_name (pv 0)))) (ea_cons (ee_lock (is := [0]) (pp_fld rfl T.fl_height (pp_name (pv 0)))) (ea_cons (ee_nM (pv 7)) ea_nil))))))))))))))))
theorem ok_join_rooms (T : Txt P K mg D) : FnOk P w K mg base (L2.CX P w) 6 D.f_join_rooms D.d_join_rooms ["floor", "a", "b"] (spM (LY K D) m_join_rooms) :=
  fn_ok (N := N_join_rooms) (ps := ["floor", "a", "b"]) (L := LY K D) (S := [0, 1, 2]) (body := b_join_rooms) T.F_join_rooms sc_join_rooms (by decide) (by decide) fun cdv A outer s H E hr =>
    (sss_cons (ss_set (i := 3) (by decide) sc_join_rooms.nd rfl (by first | exact .inl rfl | exact .inr rfl) (ee_n (pn_call (ok_union_of T) (hr.mono (by decide)) rfl T.g_union_of T.F_union_of.kp T.b_union_of (pap_cons (pn_pp (pn_meth (pp_name (pv 0)) T.clO T.mt_room (ok_Floor_room T) (hr.mono (by decide)) T.b_Floor_room (pap_cons (pp_name (pv 1)) pap_nil))) (pap_cons (pn_pp (pn_meth (pp_name (pv 0)) T.clO T.mt_room (ok_Floor_room T) (hr.mono (by decide)) T.b_Floor_room (pap_cons (pp_name (pv 2)) pap_nil))) pap_nil))))) (sss_cons (ss_if (et_lift (pq_cmp op_isN eff_isN.pure (pp_name (pv 3)) (pp_const (d := .non) pe_non fun _ _ => ⟨rfl, rfl⟩) (by first | exact nomark _ | rfl))) (sss_one (ss_raise (k := 0) rfl T.e_NotJoined fo_pair T.g_NotJoined (hr.mono (by decide)) (takes_of rfl rfl rfl rfl) (pp_tup (pap_cons (pp_name (pv 1)) (pap_cons (pp_name (pv 2)) pap_nil))) rfl)) sss_nil) (sss_cons (ss_set (i := 4) (by decide) sc_join_rooms.nd rfl (by first | exact .inl rfl | exact .inr rfl) (ee_n (pn_callTy (call_listO rfl T.itC T.itF T.lenC T.lenF (ok_Floor___iter__ T) T.b_Floor___iter__ (ok_Floor___len__ T) T.b_Floor___len__ (hr.mono (by decide))) eff_listO rfl T.n_list (by decide +kernel) (pap_cons (pp_name (pv 0)) pap_nil)))) (sss_cons (ss_store rfl (by exact (ee_lock (is := [3]) (pp_name (pv 3)))) (by exact (loc_name (pv 4))) (by exact (pp_name (pv 1)))) (sss_cons (ss_expr (ee_mtdN PySem.F.plainAttrs_list PySem.F.slot_list_pop PySem.F.type_list_pop mt_popAt mut_popAt (pv 4) (ea_cons (ee_nM (pv 2)) ea_nil))) (sss_one (ss_ret (ee_make T.mkO (ok_Floor___init__ T) (hr.mono (by decide)) (takes_of rfl rfl rfl rfl) rfl T.g_Floor T.b_Floor___init__ (ea_cons (ee_lock (is := [0]) (pp_fld rfl T.fl_width (pp_name (pv 0)))) (ea_cons (ee_lock (is := [0]) (pp_fld rfl T.fl_height (pp_name (pv 0)))) (ea_cons (ee_nM (pv 4)) ea_nil)))))))))))
theorem ok__law_listed (T : Txt P K mg D) : FnOk P w K mg base (L2.CX P w) 6 D.f__law_listed D.d__law_listed ["floor", "rooms"] (spM (LY K D) m__law_listed) :=
  fn_ok (N := N__law_listed) (ps := ["floor", "rooms"]) (L := LY K D) (S := [0, 1]) (body := b__law_listed) T.F__law_listed sc__law_listed (by decide) (by decide) fun cdv A outer s H E hr =>
    (sss_cons (ss_set (i := 2) (by decide) sc__law_listed.nd rfl (by first | exact .inl rfl | exact .inr rfl) (ee_n (pn_call (ok__law_unions T) (hr.mono (by decide)) rfl T.g__law_unions T.F__law_unions.kp T.b__law_unions (pap_cons (pp_name (pv 1)) pap_nil)))) (sss_cons (ss_forR1 (by exact passes_of rfl) (by rfl) (by rfl) (by exact T.n_range) (by exact (ea_cons (ee_lock (is := []) (pp_const (d := .int 2) pe_int fun _ _ => ⟨rfl, rfl⟩)) ea_nil)) (by exact (sg_nm (i := 3) (keep_nm (by decide)) sc__law_listed.nd rfl (by first | exact .inl rfl | exact .inr rfl))) (by exact (sss_cons (ss_set (i := 4) (by decide) sc__law_listed.nd rfl (by first | exact .inl rfl | exact .inr rfl) (ee_n (pn_call (ok_joinable T) (hr.mono (by decide)) rfl T.g_joinable T.F_joinable.kp T.b_joinable (pap_cons (pp_name (pv 0)) pap_nil)))) (sss_cons (ss_if (et_lift (pq_not (pq_val (pn_pp (pn_callB call_isiA (eff_isi T.tI T.ownI) rfl T.n_isinstance (by decide +kernel) (pap_cons (pp_name (pv 4)) (pap_cons (pp_const (pe_bltn (v := .ty "list") (u := .type "list") rfl T.n_list (by decide +kernel) rfl) fun _ _ => ⟨rfl, rfl⟩) pap_nil))))))) (sss_one (ss_ret (ee_lock (is := []) (pp_const (d := .bl false) pe_bl fun _ _ => ⟨rfl, rfl⟩)))) sss_nil) (sss_cons (ss_forN (by rfl) (by exact passes_of rfl) (by rfl) (by exact pv 4) (by exact (sg_nm (i := 5) (keep_nm (by decide)) sc__law_listed.nd rfl (by first | exact .inl rfl | exact .inr rfl))) (by exact (sss_one (ss_if (et_lift (L2.PW.pt (pqw_or (pq_not (pq_val (pn_pp (pn_callB call_isiA (eff_isi T.tI T.ownI) rfl T.n_isinstance (by decide +kernel) (pap_cons (pp_name (pv 5)) (pap_cons (pp_const (pe_bltn (v := .ty "tuple") (u := .type "tuple") rfl T.n_tuple (by decide +kernel) rfl) fun _ _ => ⟨rfl, rfl⟩) pap_nil)))))) (pqw_or1 (pq_not (pq_val (pn_pp (pn_call (ok__law_ints T) (hr.mono (by decide)) rfl T.g__law_ints T.F__law_ints.kp T.b__law_ints (pap_cons (pn_pp (pn_callTy call_list_of eff_list rfl T.n_list (by decide +kernel) (pap_cons (pp_name (pv 5)) pap_nil))) pap_nil))))))))) (sss_one (ss_ret (ee_lock (is := []) (pp_const (d := .bl false) pe_bl fun _ _ => ⟨rfl, rfl⟩)))) sss_nil)))) (sss_cons (ss_if (et_lift (pq_cmp (op_neA hr.units) eff_ne.pure (pp_name (pv 4)) (pp_name (pv 2)) (by first | exact nomark _ | rfl))) (sss_one (ss_ret (ee_lock (is := []) (pp_const (d := .bl false) pe_bl fun _ _ => ⟨rfl, rfl⟩)))) sss_nil) (sss_cons (ss_expr (ee_mtdN PySem.F.plainAttrs_list PySem.F.slot_list_append PySem.F.type_list_append mt_append mut_append (pv 4) (ea_cons (ee_lock (is := []) (pp_tup (pap_cons (pp_const (d := .int 0) pe_int fun _ _ => ⟨rfl, rfl⟩) (pap_cons (pp_const (d := .int 0) pe_int fun _ _ => ⟨rfl, rfl⟩) pap_nil)))) ea_nil))) (sss_one (ss_store rfl (by exact (ee_lock (is := []) (pp_tup (pap_cons (pp_const (d := .int 7) pe_int fun _ _ => ⟨rfl, rfl⟩) (pap_cons (pp_const (d := .int 7) pe_int fun _ _ => ⟨rfl, rfl⟩) pap_nil))))) (by exact (loc_name (pv 4))) (by exact (pp_const (d := .int 0) pe_int fun _ _ => ⟨rfl, rfl⟩))))))))))) (sss_one (ss_ret (ee_lock (is := []) (pp_const (d := .bl true) pe_bl fun _ _ => ⟨rfl, rfl⟩))))))
theorem ok__law_join (T : Txt P K mg D) : FnOk P w K mg base (L2.CX P w) 7 D.f__law_join D.d__law_join ["floor", "size", "rooms", "a", "b"] (spM (LY K D) m__law_join) :=
  fn_ok (N := N__law_join) (ps := ["floor", "size", "rooms", "a", "b"]) (L := LY K D) (S := [0, 1, 2, 3, 4]) (body := b__law_join) T.F__law_join sc__law_join (by decide) (by decide) fun cdv A outer s H E hr =>
    (sss_cons (ss_set (i := 5) (by decide) sc__law_join.nd rfl (by first | exact .inl rfl | exact .inr rfl) (ee_n (pn_call (ok__law_together T) (hr.mono (by decide)) rfl T.g__law_together T.F__law_together.kp T.b__law_together (pap_cons (pp_name (pv 2)) (pap_cons (pp_name (pv 3)) (pap_cons (pp_name (pv 4)) pap_nil)))))) (sss_cons (ss_set (i := 6) (by decide) sc__law_join.nd rfl (by first | exact .inl rfl | exact .inr rfl) (ee_lock (is := []) (pp_const (d := .bl false) pe_bl fun _ _ => ⟨rfl, rfl⟩))) (sss_cons (ss_set (i := 7) (by decide) sc__law_join.nd rfl (by first | exact .inl rfl | exact .inr rfl) (ee_lock (is := []) (pp_const (d := .non) pe_non fun _ _ => ⟨rfl, rfl⟩))) (sss_cons (ss_try rfl rfl T.tE rfl rfl sc__law_join.nd (takes_of rfl rfl rfl rfl) (fun W pn xe tk po => (sss_one (ss_set (i := 7) (by decide) sc__law_join.nd rfl (by first | exact .inl rfl | exact .inr rfl) (ee_callB0 (ok_join_rooms T) (hr.mono (by decide)) tk (by rfl) T.g_join_rooms T.F_join_rooms.kp T.b_join_rooms (by exact (pap_cons (pp_name (pv 0)) (pap_cons (pp_name (pv 3)) (pap_cons (pp_name (pv 4)) pap_nil)))))))) (.named (i := 8) (by decide) rfl rfl ⟨rfl, by decide, .inl T.g_NotJoined⟩ (fun a oe cls d pn hz hf => (sss_cons (ss_if (et_lift (L2.PW.pt (pqw_or (pq_val (pn_pp (pn_callB (call_isV hz hf) (eff_isV T.tX T.exC) rfl T.n_isinstance (by decide +kernel) (pap_cons (pp_name (pv 8)) (pap_cons (pp_tup (pap_cons (pp_const (pe_glob (v := .ref (D.CT "BadCount")) rfl T.g_BadCount rfl) fun _ _ => ⟨rfl, rfl⟩) (pap_cons (pp_const (pe_glob (v := .ref (D.CT "BadFloor")) rfl T.g_BadFloor rfl) fun _ _ => ⟨rfl, rfl⟩) (pap_cons (pp_const (pe_glob (v := .ref (D.CT "BadPlace")) rfl T.g_BadPlace rfl) fun _ _ => ⟨rfl, rfl⟩) pap_nil)))) pap_nil))))) (pqw_or1 (pq_not (pq_val (pn_pp (pn_callB (call_isV hz hf) (eff_isV T.tX T.exC) rfl T.n_isinstance (by decide +kernel) (pap_cons (pp_name (pv 8)) (pap_cons (pp_const (pe_glob (v := .ref (D.CT "FitError")) rfl T.g_FitError rfl) fun _ _ => ⟨rfl, rfl⟩) pap_nil)))))))))) (sss_one (ss_ret (ee_lock (is := []) (pp_const (d := .bl false) pe_bl fun _ _ => ⟨rfl, rfl⟩)))) sss_nil) (sss_cons (ss_set (i := 6) (by decide) sc__law_join.nd rfl (by first | exact .inl rfl | exact .inr rfl) (ee_lock (is := []) (pp_const (d := .bl true) pe_bl fun _ _ => ⟨rfl, rfl⟩))) (sss_one (ss_set (i := 7) (by decide) sc__law_join.nd rfl (by first | exact .inl rfl | exact .inr rfl) (ee_lock (is := [8]) (pp_xfld rfl T.xf_pair hz hf (pp_name (pv 8))))))))) (.plain ⟨rfl, by decide, .inl T.g_FitError⟩ (fun a oe cls d pn hz hf => (sss_one (ss_ret (ee_lock (is := []) (pp_const (d := .bl false) pe_bl fun _ _ => ⟨rfl, rfl⟩))))) .nil))) (sss_cons (ss_if (et_lift (pq_cmp op_isN eff_isN.pure (pp_name (pv 5)) (pp_const (d := .non) pe_non fun _ _ => ⟨rfl, rfl⟩) (by first | exact nomark _ | rfl))) (sss_one (ss_ret (ee_lock (is := []) (pp_and (pp_name (pv 6)) (pp_and (pn_pp (pn_callB call_isiA (eff_isi T.tI T.ownI) rfl T.n_isinstance (by decide +kernel) (pap_cons (pp_name (pv 7)) (pap_cons (pp_const (pe_bltn (v := .ty "tuple") (u := .type "tuple") rfl T.n_tuple (by decide +kernel) rfl) fun _ _ => ⟨rfl, rfl⟩) pap_nil)))) (pp_and (pn_pp (pn_call (ok__law_ints T) (hr.mono (by decide)) rfl T.g__law_ints T.F__law_ints.kp T.b__law_ints (pap_cons (pn_pp (pn_callTy call_list_of eff_list rfl T.n_list (by decide +kernel) (pap_cons (pp_name (pv 7)) pap_nil))) pap_nil))) (pp_one (pn_pp (pn_cmp (op_eqA hr.units) eff_eq (pp_name (pv 7)) (pp_tup (pap_cons (pp_name (pv 3)) (pap_cons (pp_name (pv 4)) pap_nil))) (by first | exact nomark _ | rfl)))))))))) sss_nil) (sss_one (ss_ret (ee_lock (is := []) (pp_and (pp_not (pp_name (pv 6))) (pp_one (pn_pp (pn_call (ok__law_is T) (hr.mono (by decide)) rfl T.g__law_is T.F__law_is.kp T.b__law_is (pap_cons (pp_name (pv 7)) (pap_cons (pp_name (pv 1)) (pap_cons (pp_name (pv 5)) pap_nil)))))))))))))))
theorem ok__law_split (T : Txt P K mg D) : FnOk P w K mg base (L2.CX P w) 7 D.f__law_split D.d__law_split ["floor", "size", "rooms", "k", "axis", "place"] (spM (LY K D) m__law_split) :=
  fn_ok (N := N__law_split) (ps := ["floor", "size", "rooms", "k", "axis", "place"]) (L := LY K D) (S := [0, 1, 2, 3, 4, 5]) (body := b__law_split) T.F__law_split sc__law_split (by decide) (by decide) fun cdv A outer s H E hr =>
    (sss_cons (ss_set (i := 6) (by decide) sc__law_split.nd rfl (by first | exact .inl rfl | exact .inr rfl) (ee_lock (is := []) (pp_const (d := .str "floor") pe_str fun _ _ => ⟨rfl, rfl⟩))) (sss_cons (ss_set (i := 7) (by decide) sc__law_split.nd rfl (by first | exact .inl rfl | exact .inr rfl) (ee_lock (is := []) (pp_const (d := .non) pe_non fun _ _ => ⟨rfl, rfl⟩))) (sss_cons (ss_try rfl rfl T.tE rfl rfl sc__law_split.nd (takes_of rfl rfl rfl rfl) (fun W pn xe tk po => (sss_one (ss_set (i := 7) (by decide) sc__law_split.nd rfl (by first | exact .inl rfl | exact .inr rfl) (ee_callB0 (ok_split_room T) (hr.mono (by decide)) tk (by rfl) T.g_split_room T.F_split_room.kp T.b_split_room (by exact (pap_cons (pp_name (pv 0)) (pap_cons (pp_name (pv 3)) (pap_cons (pp_name (pv 4)) (pap_cons (pp_name (pv 5)) pap_nil))))))))) (.named (i := 8) (by decide) rfl rfl ⟨rfl, by decide, .inl T.g_BadPlace⟩ (fun a oe cls d pn hz hf => (sss_cons (ss_if (et_lift (L2.PW.pt (pqw_or (pq_val (pn_pp (pn_callB (call_isV hz hf) (eff_isV T.tX T.exC) rfl T.n_isinstance (by decide +kernel) (pap_cons (pp_name (pv 8)) (pap_cons (pp_tup (pap_cons (pp_const (pe_glob (v := .ref (D.CT "BadCount")) rfl T.g_BadCount rfl) fun _ _ => ⟨rfl, rfl⟩) (pap_cons (pp_const (pe_glob (v := .ref (D.CT "BadFloor")) rfl T.g_BadFloor rfl) fun _ _ => ⟨rfl, rfl⟩) (pap_cons (pp_const (pe_glob (v := .ref (D.CT "NotJoined")) rfl T.g_NotJoined rfl) fun _ _ => ⟨rfl, rfl⟩) pap_nil)))) pap_nil))))) (pqw_or1 (pq_not (pq_val (pn_pp (pn_callB (call_isV hz hf) (eff_isV T.tX T.exC) rfl T.n_isinstance (by decide +kernel) (pap_cons (pp_name (pv 8)) (pap_cons (pp_const (pe_bltn (v := .ty "ValueError") (u := .type "ValueError") rfl T.n_ValueError (by decide +kernel) rfl) fun _ _ => ⟨rfl, rfl⟩) pap_nil)))))))))) (sss_one (ss_ret (ee_lock (is := []) (pp_const (d := .bl false) pe_bl fun _ _ => ⟨rfl, rfl⟩)))) sss_nil) (sss_cons (ss_set (i := 6) (by decide) sc__law_split.nd rfl (by first | exact .inl rfl | exact .inr rfl) (ee_lock (is := []) (pp_const (d := .str "place") pe_str fun _ _ => ⟨rfl, rfl⟩))) (sss_one (ss_set (i := 7) (by decide) sc__law_split.nd rfl (by first | exact .inl rfl | exact .inr rfl) (ee_lock (is := [8]) (pp_xfld rfl T.xf_place hz hf (pp_name (pv 8))))))))) (.named (i := 8) (by decide) rfl rfl ⟨rfl, by decide, .inl T.g_BadCount⟩ (fun a oe cls d pn hz hf => (sss_cons (ss_if (et_lift (L2.PW.pt (pqw_or (pq_val (pn_pp (pn_callB (call_isV hz hf) (eff_isV T.tX T.exC) rfl T.n_isinstance (by decide +kernel) (pap_cons (pp_name (pv 8)) (pap_cons (pp_tup (pap_cons (pp_const (pe_glob (v := .ref (D.CT "BadFloor")) rfl T.g_BadFloor rfl) fun _ _ => ⟨rfl, rfl⟩) (pap_cons (pp_const (pe_glob (v := .ref (D.CT "NotJoined")) rfl T.g_NotJoined rfl) fun _ _ => ⟨rfl, rfl⟩) pap_nil))) pap_nil))))) (pqw_or1 (pq_not (pq_val (pn_pp (pn_callB (call_isV hz hf) (eff_isV T.tX T.exC) rfl T.n_isinstance (by decide +kernel) (pap_cons (pp_name (pv 8)) (pap_cons (pp_const (pe_glob (v := .ref (D.CT "FitError")) rfl T.g_FitError rfl) fun _ _ => ⟨rfl, rfl⟩) pap_nil)))))))))) (sss_one (ss_ret (ee_lock (is := []) (pp_const (d := .bl false) pe_bl fun _ _ => ⟨rfl, rfl⟩)))) sss_nil) (sss_cons (ss_set (i := 6) (by decide) sc__law_split.nd rfl (by first | exact .inl rfl | exact .inr rfl) (ee_lock (is := []) (pp_const (d := .str "count") pe_str fun _ _ => ⟨rfl, rfl⟩))) (sss_one (ss_set (i := 7) (by decide) sc__law_split.nd rfl (by first | exact .inl rfl | exact .inr rfl) (ee_lock (is := [8]) (pp_xfld rfl T.xf_number hz hf (pp_name (pv 8))))))))) (.plain ⟨rfl, by decide, .inl T.g_FitError⟩ (fun a oe cls d pn hz hf => (sss_one (ss_ret (ee_lock (is := []) (pp_const (d := .bl false) pe_bl fun _ _ => ⟨rfl, rfl⟩))))) .nil)))) (sss_cons (ss_if (et_lift (pq_not (pq_chain op_lt op_lt eff_lt.pure eff_lt.pure (pp_ix ix_seq pure_ix (pp_ix ix_seq pure_ix (pp_name (pv 2)) (pp_name (pv 3)) (fun _ _ => rfl)) (pp_name (pv 4)) (fun _ _ => rfl)) (pp_name (pv 5)) (pp_ix ix_seq pure_ix (pp_ix ix_seq pure_ix (pp_name (pv 2)) (pp_name (pv 3)) (fun _ _ => rfl)) (pn_pp (pn_op op_addX eff_addX (pp_name (pv 4)) (pp_const (d := .int 2) pe_int fun _ _ => ⟨rfl, rfl⟩))) (fun _ _ => rfl))))) (sss_one (ss_ret (ee_lock (is := []) (pp_and (pn_pp (pn_cmp (op_eqA hr.units) eff_eq (pp_name (pv 6)) (pp_const (d := .str "place") pe_str fun _ _ => ⟨rfl, rfl⟩) (by first | exact nomark _ | rfl))) (pp_and (pn_pp (pn_call (ok__law_int T) (hr.mono (by decide)) rfl T.g__law_int T.F__law_int.kp T.b__law_int (pap_cons (pp_name (pv 7)) pap_nil))) (pp_one (pn_pp (pn_cmp (op_eqA hr.units) eff_eq (pp_name (pv 7)) (pp_name (pv 5)) (by first | exact nomark _ | rfl))))))))) sss_nil) (sss_cons (ss_if (et_lift (pq_cmp (op_eqA hr.units) eff_eq.pure (pn_pp (pn_callB call_len eff_len rfl T.n_len (by decide +kernel) (pap_cons (pp_name (pv 2)) pap_nil))) (pp_const (d := .int 20) pe_int fun _ _ => ⟨rfl, rfl⟩) (by first | exact nomark _ | rfl))) (sss_one (ss_ret (ee_lock (is := []) (pp_and (pn_pp (pn_cmp (op_eqA hr.units) eff_eq (pp_name (pv 6)) (pp_const (d := .str "count") pe_str fun _ _ => ⟨rfl, rfl⟩) (by first | exact nomark _ | rfl))) (pp_and (pn_pp (pn_call (ok__law_int T) (hr.mono (by decide)) rfl T.g__law_int T.F__law_int.kp T.b__law_int (pap_cons (pp_name (pv 7)) pap_nil))) (pp_one (pn_pp (pn_cmp (op_eqA hr.units) eff_eq (pp_name (pv 7)) (pp_const (d := .int 21) pe_int fun _ _ => ⟨rfl, rfl⟩) (by first | exact nomark _ | rfl))))))))) sss_nil) (sss_one (ss_ret (ee_lock (is := []) (pp_and (pn_pp (pn_cmp (op_eqA hr.units) eff_eq (pp_name (pv 6)) (pp_const (d := .str "floor") pe_str fun _ _ => ⟨rfl, rfl⟩) (by first | exact nomark _ | rfl))) (pp_one (pn_pp (pn_call (ok__law_is T) (hr.mono (by decide)) rfl T.g__law_is T.F__law_is.kp T.b__law_is (pap_cons (pp_name (pv 7)) (pap_cons (pp_name (pv 1)) (pap_cons (pn_pp (pn_call (ok__law_parts T) (hr.mono (by decide)) rfl T.g__law_parts T.F__law_parts.kp T.b__law_parts (pap_cons (pp_name (pv 2)) (pap_cons (pp_name (pv 3)) (pap_cons (pp_name (pv 4)) (pap_cons (pp_name (pv 5)) pap_nil)))))) pap_nil)))))))))))))))
theorem ok__law_back (T : Txt P K mg D) : FnOk P w K mg base (L2.CX P w) 8 D.f__law_back D.d__law_back ["floor", "size", "rooms", "k", "axis", "place"] (spM (LY K D) m__law_back) :=
  fn_ok (N := N__law_back) (ps := ["floor", "size", "rooms", "k", "axis", "place"]) (L := LY K D) (S := [0, 1, 2, 3, 4, 5]) (body := b__law_back) T.F__law_back sc__law_back (by decide) (by decide) fun cdv A outer s H E hr =>
    (sss_cons (ss_set (i := 6) (by decide) sc__law_back.nd rfl (by first | exact .inl rfl | exact .inr rfl) (ee_n (pn_callB call_len eff_len rfl T.n_len (by decide +kernel) (pap_cons (pp_name (pv 2)) pap_nil)))) (sss_cons (ss_set (i := 7) (by decide) sc__law_back.nd rfl (by first | exact .inl rfl | exact .inr rfl) (ee_n (pn_call (ok__law_parts T) (hr.mono (by decide)) rfl T.g__law_parts T.F__law_parts.kp T.b__law_parts (pap_cons (pp_name (pv 2)) (pap_cons (pp_name (pv 3)) (pap_cons (pp_name (pv 4)) (pap_cons (pp_name (pv 5)) pap_nil))))))) (sss_cons (ss_set (i := 8) (by decide) sc__law_back.nd rfl (by first | exact .inl rfl | exact .inr rfl) (ee_n (pn_call (ok_split_room T) (hr.mono (by decide)) rfl T.g_split_room T.F_split_room.kp T.b_split_room (pap_cons (pp_name (pv 0)) (pap_cons (pp_name (pv 3)) (pap_cons (pp_name (pv 4)) (pap_cons (pp_name (pv 5)) pap_nil))))))) (sss_cons (ss_set (i := 9) (by decide) sc__law_back.nd rfl (by first | exact .inl rfl | exact .inr rfl) (ee_n (pn_call (ok_join_rooms T) (hr.mono (by decide)) rfl T.g_join_rooms T.F_join_rooms.kp T.b_join_rooms (pap_cons (pp_name (pv 8)) (pap_cons (pp_name (pv 3)) (pap_cons (pp_name (pv 6)) pap_nil)))))) (sss_cons (ss_if (et_lift (L2.PW.pt (pqw_or (pq_not (pq_val (pn_pp (pn_call (ok__law_is T) (hr.mono (by decide)) rfl T.g__law_is T.F__law_is.kp T.b__law_is (pap_cons (pp_name (pv 9)) (pap_cons (pp_name (pv 1)) (pap_cons (pp_name (pv 2)) pap_nil))))))) (pqw_or1 (pq_cmp op_notBl eff_notBl.pure (pn_pp (pn_cmp (op_eqO T.eqC T.eqF (ok_Floor___eq__ T) T.b_Floor___eq__ (hr.mono (by decide))) eff_eqO (pp_name (pv 9)) (pp_name (pv 0)) (nomark _))) (pp_const (d := .bl true) pe_bl fun _ _ => ⟨rfl, rfl⟩) (by first | exact nomark _ | rfl)))))) (sss_one (ss_ret (ee_lock (is := []) (pp_const (d := .bl false) pe_bl fun _ _ => ⟨rfl, rfl⟩)))) sss_nil) (sss_cons (ss_if (et_lift (L2.PW.pt (pqw_or (pq_not (pq_val (pn_pp (pn_call (ok__law_join T) (hr.mono (by decide)) rfl T.g__law_join T.F__law_join.kp T.b__law_join (pap_cons (pp_name (pv 8)) (pap_cons (pp_name (pv 1)) (pap_cons (pp_name (pv 7)) (pap_cons (pp_name (pv 6)) (pap_cons (pp_name (pv 3)) pap_nil))))))))) (pqw_or1 (pq_not (pq_val (pn_pp (pn_call (ok__law_listed T) (hr.mono (by decide)) rfl T.g__law_listed T.F__law_listed.kp T.b__law_listed (pap_cons (pp_name (pv 8)) (pap_cons (pp_name (pv 7)) pap_nil)))))))))) (sss_one (ss_ret (ee_lock (is := []) (pp_const (d := .bl false) pe_bl fun _ _ => ⟨rfl, rfl⟩)))) sss_nil) (sss_one (ss_ret (ee_lock (is := []) (pp_and (pn_pp (pn_call (ok__law_is T) (hr.mono (by decide)) rfl T.g__law_is T.F__law_is.kp T.b__law_is (pap_cons (pp_name (pv 8)) (pap_cons (pp_name (pv 1)) (pap_cons (pp_name (pv 7)) pap_nil))))) (pp_one (pn_pp (pn_cmp op_isBl eff_isBl (pn_pp (pn_cmp (op_eqO T.eqC T.eqF (ok_Floor___eq__ T) T.b_Floor___eq__ (hr.mono (by decide))) eff_eqO (pp_name (pv 8)) (pp_name (pv 0)) (nomark _))) (pp_const (d := .bl false) pe_bl fun _ _ => ⟨rfl, rfl⟩) (by first | exact nomark _ | rfl))))))))))))))
theorem ok__law_apart (T : Txt P K mg D) : FnOk P w K mg base (L2.CX P w) 8 D.f__law_apart D.d__law_apart ["state", "floor", "size", "rooms"] (spM (LY K D) m__law_apart) :=
  fn_ok (N := N__law_apart) (ps := ["state", "floor", "size", "rooms"]) (L := LY K D) (S := [0, 1, 2, 3]) (body := b__law_apart) T.F__law_apart sc__law_apart (by decide) (by decide) fun cdv A outer s H E hr =>
    (sss_cons (ss_set (i := 4) (by decide) sc__law_apart.nd rfl (by first | exact .inl rfl | exact .inr rfl) (ee_n (pn_call (ok__law_unions T) (hr.mono (by decide)) rfl T.g__law_unions T.F__law_unions.kp T.b__law_unions (pap_cons (pp_name (pv 3)) pap_nil)))) (sss_cons (ss_if (et_lift (pq_cmp (op_eqA hr.units) eff_eq.pure (pp_name (pv 4)) (pn_pp (pn_lst pap_nil)) (by first | exact nomark _ | rfl))) (sss_one (ss_ret (ee_lock (is := []) (pp_const (d := .bl true) pe_bl fun _ _ => ⟨rfl, rfl⟩)))) sss_nil) (sss_cons (ss_set (i := 5) (by decide) sc__law_apart.nd rfl (by first | exact .inl rfl | exact .inr rfl) (ee_nix ix_seq pure_ix (pv 4) (ee_call (ok__law_next T) (hr.mono (by decide)) (takes_of rfl rfl rfl rfl) rfl T.g__law_next T.F__law_next.kp T.b__law_next (ea_ld (pv 0) (ea_cons (ee_n (pn_callB call_len eff_len rfl T.n_len (by decide +kernel) (pap_cons (pp_name (pv 4)) pap_nil))) ea_nil))) (fun _ _ => rfl))) (sss_cons (ss_set (i := 6) (by decide) sc__law_apart.nd rfl (by first | exact .inl rfl | exact .inr rfl) (ee_nix ix_seq pure_ix (pv 5) (ee_call (ok__law_next T) (hr.mono (by decide)) (takes_of rfl rfl rfl rfl) rfl T.g__law_next T.F__law_next.kp T.b__law_next (ea_ld (pv 0) (ea_cons (ee_lock (is := []) (pp_const (d := .int 2) pe_int fun _ _ => ⟨rfl, rfl⟩)) ea_nil))) (fun _ _ => rfl))) (sss_cons (ss_set (i := 7) (by decide) sc__law_apart.nd rfl (by first | exact .inl rfl | exact .inr rfl) (ee_n (pn_op op_sub eff_sub (pn_pp (pn_op op_addX eff_addX (pp_ix ix_seq pure_ix (pp_name (pv 5)) (pp_const (d := .int 0) pe_int fun _ _ => ⟨rfl, rfl⟩) (fun _ _ => rfl)) (pp_ix ix_seq pure_ix (pp_name (pv 5)) (pp_const (d := .int 1) pe_int fun _ _ => ⟨rfl, rfl⟩) (fun _ _ => rfl)))) (pp_name (pv 6))))) (sss_cons (ss_set (i := 8) (by decide) sc__law_apart.nd rfl (by first | exact .inl rfl | exact .inr rfl) (ee_n (pn_callTy call_int1 eff_int1 rfl T.n_int (by decide +kernel) (pap_cons (pp_and (pn_pp (pn_cmp (op_eqA hr.units) eff_eq (pp_ix ix_seq pure_ix (pp_ix ix_seq pure_ix (pp_name (pv 3)) (pp_name (pv 6)) (fun _ _ => rfl)) (pp_const (d := .int 0) pe_int fun _ _ => ⟨rfl, rfl⟩) (fun _ _ => rfl)) (pp_ix ix_seq pure_ix (pp_ix ix_seq pure_ix (pp_name (pv 3)) (pp_name (pv 7)) (fun _ _ => rfl)) (pp_const (d := .int 0) pe_int fun _ _ => ⟨rfl, rfl⟩) (fun _ _ => rfl)) (by first | exact nomark _ | rfl))) (pp_one (pn_pp (pn_cmp (op_eqA hr.units) eff_eq (pp_ix ix_seq pure_ix (pp_ix ix_seq pure_ix (pp_name (pv 3)) (pp_name (pv 6)) (fun _ _ => rfl)) (pp_const (d := .int 2) pe_int fun _ _ => ⟨rfl, rfl⟩) (fun _ _ => rfl)) (pp_ix ix_seq pure_ix (pp_ix ix_seq pure_ix (pp_name (pv 3)) (pp_name (pv 7)) (fun _ _ => rfl)) (pp_const (d := .int 2) pe_int fun _ _ => ⟨rfl, rfl⟩) (fun _ _ => rfl)) (by first | exact nomark _ | rfl))))) pap_nil)))) (sss_cons (ss_set (i := 9) (by decide) sc__law_apart.nd rfl (by first | exact .inl rfl | exact .inr rfl) (ee_n (pn_callB (call_max2 rfl) eff_max2 rfl T.n_max (by decide +kernel) (pap_cons (pp_ix ix_seq pure_ix (pp_ix ix_seq pure_ix (pp_name (pv 3)) (pp_name (pv 6)) (fun _ _ => rfl)) (pp_name (pv 8)) (fun _ _ => rfl)) (pap_cons (pp_ix ix_seq pure_ix (pp_ix ix_seq pure_ix (pp_name (pv 3)) (pp_name (pv 7)) (fun _ _ => rfl)) (pp_name (pv 8)) (fun _ _ => rfl)) pap_nil))))) (sss_cons (ss_set (i := 10) (by decide) sc__law_apart.nd rfl (by first | exact .inl rfl | exact .inr rfl) (ee_n (pn_call (ok__law_together T) (hr.mono (by decide)) rfl T.g__law_together T.F__law_together.kp T.b__law_together (pap_cons (pp_name (pv 3)) (pap_cons (pp_name (pv 6)) (pap_cons (pp_name (pv 7)) pap_nil)))))) (sss_cons (ss_set (i := 11) (by decide) sc__law_apart.nd rfl (by first | exact .inl rfl | exact .inr rfl) (ee_n (pn_call (ok_join_rooms T) (hr.mono (by decide)) rfl T.g_join_rooms T.F_join_rooms.kp T.b_join_rooms (pap_cons (pp_name (pv 1)) (pap_cons (pp_name (pv 6)) (pap_cons (pp_name (pv 7)) pap_nil)))))) (sss_cons (ss_if (et_lift (L2.PW.pt (pqw_or (pq_not (pq_val (pn_pp (pn_call (ok__law_is T) (hr.mono (by decide)) rfl T.g__law_is T.F__law_is.kp T.b__law_is (pap_cons (pp_name (pv 11)) (pap_cons (pp_name (pv 2)) (pap_cons (pp_name (pv 10)) pap_nil))))))) (pqw_or1 (pq_not (pq_val (pn_pp (pn_call (ok__law_listed T) (hr.mono (by decide)) rfl T.g__law_listed T.F__law_listed.kp T.b__law_listed (pap_cons (pp_name (pv 11)) (pap_cons (pp_name (pv 10)) pap_nil)))))))))) (sss_one (ss_ret (ee_lock (is := []) (pp_const (d := .bl false) pe_bl fun _ _ => ⟨rfl, rfl⟩)))) sss_nil) (sss_one (ss_ret (ee_n (pn_call (ok__law_split T) (hr.mono (by decide)) rfl T.g__law_split T.F__law_split.kp T.b__law_split (pap_cons (pp_name (pv 11)) (pap_cons (pp_name (pv 2)) (pap_cons (pp_name (pv 10)) (pap_cons (pn_pp (pn_op op_sub eff_sub (pp_name (pv 6)) (pn_pp (pn_callTy call_int1 eff_int1 rfl T.n_int (by decide +kernel) (pap_cons (pn_pp (pn_cmp op_lt eff_lt (pp_name (pv 7)) (pp_name (pv 6)) (by first | exact nomark _ | rfl))) pap_nil))))) (pap_cons (pp_name (pv 8)) (pap_cons (pp_name (pv 9)) pap_nil))))))))))))))))))))
theorem ok_law (T : Txt P K mg D) : FnOk P w K mg base (L2.CX P w) 9 D.f_law D.d_law ["script"] (spM (LY K D) m_law) :=
  fn_ok (N := N_law) (ps := ["script"]) (L := LY K D) (S := [0]) (body := b_law) T.F_law sc_law (by decide) (by decide) fun cdv A outer s H E hr =>
    (sss_cons (ss_set (i := 1) (by decide) sc_law.nd rfl (by first | exact .inl rfl | exact .inr rfl) (ee_n (pn_call (ok__law_state T) (hr.mono (by decide)) rfl T.g__law_state T.F__law_state.kp T.b__law_state (pap_cons (pp_name (pv 0)) (pap_cons (pp_const (d := .int 1) pe_int fun _ _ => ⟨rfl, rfl⟩) pap_nil))))) (sss_cons (ss_set (i := 2) (by decide) sc_law.nd rfl (by first | exact .inl rfl | exact .inr rfl) (ee_call (ok__law_drawn T) (hr.mono (by decide)) (takes_of rfl rfl rfl rfl) rfl T.g__law_drawn T.F__law_drawn.kp T.b__law_drawn (ea_cons (ee_n (pn_call (ok__law_state T) (hr.mono (by decide)) rfl T.g__law_state T.F__law_state.kp T.b__law_state (pap_cons (pp_name (pv 0)) (pap_cons (pp_const (d := .int 0) pe_int fun _ _ => ⟨rfl, rfl⟩) pap_nil)))) ea_nil))) (sss_cons (ss_set (i := 3) (by decide) sc_law.nd rfl (by first | exact .inl rfl | exact .inr rfl) (ee_call (ok__law_drawn T) (hr.mono (by decide)) (takes_of rfl rfl rfl rfl) rfl T.g__law_drawn T.F__law_drawn.kp T.b__law_drawn (ea_cons (ee_n (pn_call (ok__law_state T) (hr.mono (by decide)) rfl T.g__law_state T.F__law_state.kp T.b__law_state (pap_cons (pp_name (pv 0)) (pap_cons (pp_const (d := .int 2) pe_int fun _ _ => ⟨rfl, rfl⟩) pap_nil)))) ea_nil))) (sss_cons (ss_set (i := 4) (by decide) sc_law.nd rfl (by first | exact .inl rfl | exact .inr rfl) (ee_lock (is := [2]) (pp_ix ix_seq pure_ix (pp_name (pv 2)) (pp_const (d := .int 0) pe_int fun _ _ => ⟨rfl, rfl⟩) (fun _ _ => rfl)))) (sss_cons (ss_set (i := 5) (by decide) sc_law.nd rfl (by first | exact .inl rfl | exact .inr rfl) (ee_lock (is := [2]) (pp_ix ix_seq pure_ix (pp_name (pv 2)) (pp_const (d := .int 1) pe_int fun _ _ => ⟨rfl, rfl⟩) (fun _ _ => rfl)))) (sss_cons (ss_set (i := 6) (by decide) sc_law.nd rfl (by first | exact .inl rfl | exact .inr rfl) (ee_make T.mkO (ok_Floor___init__ T) (hr.mono (by decide)) (takes_of rfl rfl rfl rfl) rfl T.g_Floor T.b_Floor___init__ (ea_cons (ee_lock (is := [4]) (pp_ix ix_seq pure_ix (pp_name (pv 4)) (pp_const (d := .int 0) pe_int fun _ _ => ⟨rfl, rfl⟩) (fun _ _ => rfl))) (ea_cons (ee_lock (is := [4]) (pp_ix ix_seq pure_ix (pp_name (pv 4)) (pp_const (d := .int 1) pe_int fun _ _ => ⟨rfl, rfl⟩) (fun _ _ => rfl))) (ea_cons (ee_n (pn_callTy call_list_of eff_list rfl T.n_list (by decide +kernel) (pap_cons (pp_name (pv 5)) pap_nil))) ea_nil))))) (sss_cons (ss_set (i := 7) (by decide) sc_law.nd rfl (by first | exact .inl rfl | exact .inr rfl) (ee_make T.mkO (ok_Floor___init__ T) (hr.mono (by decide)) (takes_of rfl rfl rfl rfl) rfl T.g_Floor T.b_Floor___init__ (ea_cons (ee_lock (is := [3]) (pp_ix ix_seq pure_ix (pp_ix ix_seq pure_ix (pp_name (pv 3)) (pp_const (d := .int 0) pe_int fun _ _ => ⟨rfl, rfl⟩) (fun _ _ => rfl)) (pp_const (d := .int 0) pe_int fun _ _ => ⟨rfl, rfl⟩) (fun _ _ => rfl))) (ea_cons (ee_lock (is := [3]) (pp_ix ix_seq pure_ix (pp_ix ix_seq pure_ix (pp_name (pv 3)) (pp_const (d := .int 0) pe_int fun _ _ => ⟨rfl, rfl⟩) (fun _ _ => rfl)) (pp_const (d := .int 1) pe_int fun _ _ => ⟨rfl, rfl⟩) (fun _ _ => rfl))) (ea_cons (ee_n (pn_callTy call_list_of eff_list rfl T.n_list (by decide +kernel) (pap_cons (pp_ix ix_seq pure_ix (pp_name (pv 3)) (pp_const (d := .int 1) pe_int fun _ _ => ⟨rfl, rfl⟩) (fun _ _ => rfl)) pap_nil))) ea_nil))))) (sss_cons (ss_if (et_lift (L2.PW.pt (pqw_or (pq_not (pq_val (pn_pp (pn_call (ok__law_is T) (hr.mono (by decide)) rfl T.g__law_is T.F__law_is.kp T.b__law_is (pap_cons (pp_name (pv 6)) (pap_cons (pp_name (pv 4)) (pap_cons (pp_name (pv 5)) pap_nil))))))) (pqw_or (pq_not (pq_val (pn_pp (pn_call (ok__law_listed T) (hr.mono (by decide)) rfl T.g__law_listed T.F__law_listed.kp T.b__law_listed (pap_cons (pp_name (pv 6)) (pap_cons (pp_name (pv 5)) pap_nil)))))) (pqw_or1 (pq_not (pq_val (pn_pp (pn_call (ok__law_listed T) (hr.mono (by decide)) rfl T.g__law_listed T.F__law_listed.kp T.b__law_listed (pap_cons (pp_name (pv 7)) (pap_cons (pp_ix ix_seq pure_ix (pp_name (pv 3)) (pp_const (d := .int 1) pe_int fun _ _ => ⟨rfl, rfl⟩) (fun _ _ => rfl)) pap_nil))))))))))) (sss_one (ss_ret (ee_lock (is := []) (pp_const (d := .bl false) pe_bl fun _ _ => ⟨rfl, rfl⟩)))) sss_nil) (sss_cons (ss_forR1 (by exact passes_of rfl) (by rfl) (by rfl) (by exact T.n_range) (by exact (ea_cons (ee_n (pn_callB call_len eff_len rfl T.n_len (by decide +kernel) (pap_cons (pp_name (pv 5)) pap_nil))) ea_nil)) (by exact (sg_nm (i := 8) (keep_nm (by decide)) sc_law.nd rfl (by first | exact .inl rfl | exact .inr rfl))) (by exact (sss_one (ss_forR1 (by exact passes_of rfl) (by rfl) (by rfl) (by exact T.n_range) (by exact (ea_cons (ee_n (pn_callB call_len eff_len rfl T.n_len (by decide +kernel) (pap_cons (pp_name (pv 5)) pap_nil))) ea_nil)) (by exact (sg_nm (i := 9) (keep_nm (by decide)) sc_law.nd rfl (by first | exact .inl rfl | exact .inr rfl))) (by exact (sss_one (ss_if (et_lift (L2.PW.pt (pqw_and (pq_cmp (op_neA hr.units) eff_ne.pure (pp_name (pv 8)) (pp_name (pv 9)) (by first | exact nomark _ | rfl)) (pqw_and1 (pq_not (pq_val (pn_pp (pn_call (ok__law_join T) (hr.mono (by decide)) rfl T.g__law_join T.F__law_join.kp T.b__law_join (pap_cons (pp_name (pv 6)) (pap_cons (pp_name (pv 4)) (pap_cons (pp_name (pv 5)) (pap_cons (pp_name (pv 8)) (pap_cons (pp_name (pv 9)) pap_nil))))))))))))) (sss_one (ss_ret (ee_lock (is := []) (pp_const (d := .bl false) pe_bl fun _ _ => ⟨rfl, rfl⟩)))) sss_nil))))))) (sss_cons (ss_set (i := 10) (by decide) sc_law.nd rfl (by first | exact .inl rfl | exact .inr rfl) (ee_call (ok__law_next T) (hr.mono (by decide)) (takes_of rfl rfl rfl rfl) rfl T.g__law_next T.F__law_next.kp T.b__law_next (ea_ld (pv 1) (ea_cons (ee_n (pn_callB call_len eff_len rfl T.n_len (by decide +kernel) (pap_cons (pp_name (pv 5)) pap_nil))) ea_nil)))) (sss_cons (ss_forR1 (by exact passes_of rfl) (by rfl) (by rfl) (by exact T.n_range) (by exact (ea_cons (ee_lock (is := []) (pp_const (d := .int 2) pe_int fun _ _ => ⟨rfl, rfl⟩)) ea_nil)) (by exact (sg_nm (i := 11) (keep_nm (by decide)) sc_law.nd rfl (by first | exact .inl rfl | exact .inr rfl))) (by exact (sss_cons (ss_set (i := 12) (by decide) sc_law.nd rfl (by first | exact .inl rfl | exact .inr rfl) (ee_lock (is := [5]) (pp_ix ix_seq pure_ix (pp_ix ix_seq pure_ix (pp_name (pv 5)) (pp_name (pv 10)) (fun _ _ => rfl)) (pp_name (pv 11)) (fun _ _ => rfl)))) (sss_cons (ss_set (i := 13) (by decide) sc_law.nd rfl (by first | exact .inl rfl | exact .inr rfl) (ee_lock (is := [5]) (pp_ix ix_seq pure_ix (pp_ix ix_seq pure_ix (pp_name (pv 5)) (pp_name (pv 10)) (fun _ _ => rfl)) (pn_pp (pn_op op_addX eff_addX (pp_name (pv 11)) (pp_const (d := .int 2) pe_int fun _ _ => ⟨rfl, rfl⟩))) (fun _ _ => rfl)))) (sss_cons (ss_set (i := 14) (by decide) sc_law.nd rfl (by first | exact .inl rfl | exact .inr rfl) (ee_n (pn_lst (pap_cons (pn_pp (pn_op op_sub eff_sub (pp_name (pv 12)) (pp_const (d := .int 1) pe_int fun _ _ => ⟨rfl, rfl⟩))) (pap_cons (pp_name (pv 12)) (pap_cons (pp_name (pv 13)) (pap_cons (pn_pp (pn_op op_addX eff_addX (pp_name (pv 13)) (pp_const (d := .int 1) pe_int fun _ _ => ⟨rfl, rfl⟩))) (pap_cons (pn_pp (pn_op op_sub eff_sub (pp_const (d := .int 0) pe_int fun _ _ => ⟨rfl, rfl⟩) (pp_name (pv 13)))) pap_nil)))))))) (sss_cons (ss_if (et_lift (pq_cmp op_gt eff_gt.pure (pn_pp (pn_op op_sub eff_sub (pp_name (pv 13)) (pp_name (pv 12)))) (pp_const (d := .int 1) pe_int fun _ _ => ⟨rfl, rfl⟩) (by first | exact nomark _ | rfl))) (sss_one (ss_set (i := 14) (by decide) sc_law.nd rfl (by first | exact .inl rfl | exact .inr rfl) (ee_op op_addX eff_addX (ee_lock (is := [14]) (pp_name (pv 14))) (ee_lst (ea_cons (ee_n (pn_op op_addX eff_addX (pp_name (pv 12)) (pp_const (d := .int 1) pe_int fun _ _ => ⟨rfl, rfl⟩))) (ea_cons (ee_n (pn_op op_sub eff_sub (pp_name (pv 13)) (pp_const (d := .int 1) pe_int fun _ _ => ⟨rfl, rfl⟩))) (ea_cons (ee_op op_addX eff_addX (ee_n (pn_op op_addX eff_addX (pp_name (pv 12)) (pp_const (d := .int 1) pe_int fun _ _ => ⟨rfl, rfl⟩))) (ee_call (ok__law_next T) (hr.mono (by decide)) (takes_of rfl rfl rfl rfl) rfl T.g__law_next T.F__law_next.kp T.b__law_next (ea_ld (pv 1) (ea_cons (ee_n (pn_op op_sub eff_sub (pn_pp (pn_op op_sub eff_sub (pp_name (pv 13)) (pp_name (pv 12)))) (pp_const (d := .int 1) pe_int fun _ _ => ⟨rfl, rfl⟩))) ea_nil)))) ea_nil))))))) sss_nil) (sss_one (ss_forL (by rfl) (by exact passes_of rfl) (by rfl) (by exact (ee_lock (is := [14]) (pp_name (pv 14)))) (by exact (sg_nm (i := 15) (keep_nm (by decide)) sc_law.nd rfl (by first | exact .inl rfl | exact .inr rfl))) (by exact (sss_cons (ss_if (et_lift (pq_not (pq_val (pn_pp (pn_call (ok__law_split T) (hr.mono (by decide)) rfl T.g__law_split T.F__law_split.kp T.b__law_split (pap_cons (pp_name (pv 6)) (pap_cons (pp_name (pv 4)) (pap_cons (pp_name (pv 5)) (pap_cons (pp_name (pv 10)) (pap_cons (pp_name (pv 11)) (pap_cons (pp_name (pv 15)) pap_nil))))))))))) (sss_one (ss_ret (ee_lock (is := []) (pp_const (d := .bl false) pe_bl fun _ _ => ⟨rfl, rfl⟩)))) sss_nil) (sss_one (ss_if (et_lift (L2.PW.pt (pqw_and (pq_chain op_lt op_lt eff_lt.pure eff_lt.pure (pp_name (pv 12)) (pp_name (pv 15)) (pp_name (pv 13))) (pqw_and (pq_cmp op_lt eff_lt.pure (pn_pp (pn_callB call_len eff_len rfl T.n_len (by decide +kernel) (pap_cons (pp_name (pv 5)) pap_nil))) (pp_const (d := .int 20) pe_int fun _ _ => ⟨rfl, rfl⟩) (by first | exact nomark _ | rfl)) (pqw_and1 (pq_not (pq_val (pn_pp (pn_call (ok__law_back T) (hr.mono (by decide)) rfl T.g__law_back T.F__law_back.kp T.b__law_back (pap_cons (pp_name (pv 6)) (pap_cons (pp_name (pv 4)) (pap_cons (pp_name (pv 5)) (pap_cons (pp_name (pv 10)) (pap_cons (pp_name (pv 11)) (pap_cons (pp_name (pv 15)) pap_nil))))))))))))))) (sss_one (ss_ret (ee_lock (is := []) (pp_const (d := .bl false) pe_bl fun _ _ => ⟨rfl, rfl⟩)))) sss_nil)))))))))))) (sss_cons (ss_if (L2.PW.pt (etw_or (et_not (et_val (ee_call (ok__law_apart T) (hr.mono (by decide)) (takes_of rfl rfl rfl rfl) rfl T.g__law_apart T.F__law_apart.kp T.b__law_apart (ea_ld (pv 1) (ea_cons (ee_lock (is := [7]) (pp_name (pv 7))) (ea_cons (ee_lock (is := [3]) (pp_ix ix_seq pure_ix (pp_name (pv 3)) (pp_const (d := .int 0) pe_int fun _ _ => ⟨rfl, rfl⟩) (fun _ _ => rfl))) (ea_cons (ee_lock (is := [3]) (pp_ix ix_seq pure_ix (pp_name (pv 3)) (pp_const (d := .int 1) pe_int fun _ _ => ⟨rfl, rfl⟩) (fun _ _ => rfl))) ea_nil))))))) (etw_or1 (et_not (et_val (ee_call (ok__law_apart T) (hr.mono (by decide)) (takes_of rfl rfl rfl rfl) rfl T.g__law_apart T.F__law_apart.kp T.b__law_apart (ea_ld (pv 1) (ea_cons (ee_lock (is := [6]) (pp_name (pv 6))) (ea_cons (ee_lock (is := [4]) (pp_name (pv 4))) (ea_cons (ee_lock (is := [5]) (pp_name (pv 5))) ea_nil)))))))))) (sss_one (ss_ret (ee_lock (is := []) (pp_const (d := .bl false) pe_bl fun _ _ => ⟨rfl, rfl⟩)))) sss_nil) (sss_one (ss_ret (ee_lock (is := []) (pp_and (pn_pp (pn_call (ok__law_is T) (hr.mono (by decide)) rfl T.g__law_is T.F__law_is.kp T.b__law_is (pap_cons (pp_name (pv 6)) (pap_cons (pp_name (pv 4)) (pap_cons (pp_name (pv 5)) pap_nil))))) (pp_and (pn_pp (pn_call (ok__law_listed T) (hr.mono (by decide)) rfl T.g__law_listed T.F__law_listed.kp T.b__law_listed (pap_cons (pp_name (pv 6)) (pap_cons (pp_name (pv 5)) pap_nil)))) (pp_one (pn_pp (pn_call (ok__law_is T) (hr.mono (by decide)) rfl T.g__law_is T.F__law_is.kp T.b__law_is (pap_cons (pp_name (pv 7)) (pap_cons (pp_ix ix_seq pure_ix (pp_name (pv 3)) (pp_const (d := .int 0) pe_int fun _ _ => ⟨rfl, rfl⟩) (fun _ _ => rfl)) (pap_cons (pp_ix ix_seq pure_ix (pp_name (pv 3)) (pp_const (d := .int 1) pe_int fun _ _ => ⟨rfl, rfl⟩) (fun _ _ => rfl)) pap_nil)))))))))))))))))))))))
end K31
end
end
section
set_option Elab.async false
set_option linter.all false
set_option maxRecDepth 100000
set_option maxHeartbeats 4000001
noncomputable section
namespace K31
open PySem L2 VL PySem.OwnErr
def ctOf (c0 c1 c2 c3 c4 c5 : Addr) : Str → Addr := fun c => if c = "FitError" then c0 else if c = "BadCount" then c1 else if c = "BadFloor" then c2 else if c = "BadPlace" then c3 else if c = "NotJoined" then c4 else if c = "Floor" then c5 else 0
theorem kit_ref {K : PySem.W.Frag} {C D : Addr} {b : Bool} (hd : PySem.W.hasDictIn K D = true) (ht : PySem.W.typeIn K (.ref D) = some (.type "type")) (hs : PySem.W.subIn K (.ref C) (.ref D) = some b) (hn : b = false → C ≠ D) : PySem.W.kitOne K (.ref C) (.ref D) = some b := by
  obtain ⟨cd, hc, _⟩ := PySem.W.any_some hd
  have e2 : ((PySem.W.clsIn K D).isSome && PySem.W.typeIn K (.ref D) == some (.type "type")) = true := by rw [hc, ht] <;> rfl
  unfold PySem.W.kitOne
  by_cases h : ((Value.ref C : Value) == .ref D) = true
  · rw [if_pos h]
    cases b with
    | true => rfl
    | false => exact absurd (Value.ref.inj (eq_of_beq h)) (hn rfl)
  · rw [if_neg h]
    show (if ((PySem.W.clsIn K D).isSome && PySem.W.typeIn K (.ref D) == some (.type "type")) = true then PySem.W.subIn K (.ref C) (.ref D) else none) = some b
    rw [if_pos e2]
    exact hs
theorem kit_same {K : PySem.W.Frag} (C : Addr) : PySem.W.kitOne K (.ref C) (.ref C) = some true := if_pos (beq_self_eq_true _)
theorem kit_refT {K : PySem.W.Frag} {C : Addr} {T : String} (hm : PySem.W.kitMeta T = true) (hs : PySem.W.subIn K (.ref C) (.type T) = some true) : PySem.W.kitOne K (.ref C) (.type T) = some true := by
  unfold PySem.W.kitOne
  by_cases h : ((Value.ref C : Value) == .type T) = true
  · rw [if_pos h]
  · rw [if_neg h]
    show (if PySem.W.kitMeta T = true then PySem.W.subIn K (.ref C) (.type T) else none) = some true
    rw [if_pos hm]
    exact hs
theorem err_mk {K : PySem.W.Frag} {fl : Str} {c i : Addr} {nm q : Str} {N : Addr} {bs bm : List Value} {sn : List Str} {sub : List Value} {ab : Bool} {col : Option Bool} {dd : Option Addr} {k0 k1 k2 k3 k5 : Option Value} {xq msg : Str} {xoc xkV xdc xpm xct ccl cl : Value} {xod xan cdd cld : Option Addr} {xsl ccs csl : Array (Option Value)} {cc cda : Addr} {vs : Array Value} {tf : Tok} {p0 p1 p2 p3 p4 p5 p6 p7 p8 p9 p10 p11 : Pos}
    (xL : K.lookup c = some (excClassObj nm q c N bs bm true sn sub ab col dd k0 k1 k2 k3 k5 "ValueError.__new__")) (xb : HandSPX.refsVE bm = true) (xsa : PySem.W.findIn K (.ref c) "__setattr__" = some (some (.builtin "object.__setattr__"))) (xga : PySem.W.findIn K (.ref c) "__getattribute__" = some (some (.builtin "BaseException.__getattribute__"))) (xgg : PySem.W.findIn K (.ref c) "__getattr__" = some none)
    (xn : PySem.W.findIn K (.ref c) fl = some none) (xi : PySem.W.findIn K (.ref c) "__init__" = some (some (.ref i))) (xt : PySem.W.typeIn K (.ref i) = some (.type "function")) (xk : PySem.W.keepIn K (.ref c) = true) (xe : PySem.W.subIn K (.ref c) (.type "BaseException") = some true) (xv : PySem.W.subIn K (.ref c) (.type "ValueError") = some true) (xm : PySem.W.mroIn K c (.ref c) = some true)
    (xy : PySem.W.typeIn K (.ref c) = some (.type "type")) (xh : PySem.W.hasDictIn K c = true) (nS : PySem.W.nsIn K mainGlobals "super" = some none) (nO : PySem.W.nsIn K cStatics "thirdparty.any" = some none) (xs : PySem.W.ks_superIn K c c "__init__" = some (some (.builtin "ValueError.__init__")))
    (xl : K.lookup i = some ⟨xoc, xod, .func (PySem.W.ksFn "__init__" xq (OwnErr.eA fl p0 p1) (OwnErr.eB fl msg p2 p3 p4 p5 p6 p7 p8 p9 p10 p11) (OwnErr.eS fl) .none xkV xdc xpm xan (.ref cda) xct cc), xsl⟩) (xc : PySem.W.codeIn K (.ref cda) xq = true) (xd : K.lookup cda = some ⟨ccl, cdd, .fields vs, ccs⟩) (xf : vs[2]? = some (.str PySem.Challenge.pw_roomsfit_k31_split_and_join.main.file tf)) (xp : (p4.endLine == p6.line) = true) (xcc : K.lookup cc = some ⟨cl, cld, .cell (some (.ref c)), csl⟩) :
    ErrTxt PySem.Challenge.pw_roomsfit_k31_split_and_join K fl c i := ⟨⟨nm, q, N, bs, bm, sn, sub, ab, col, dd, k0, k1, k2, k3, k5, xL, xb⟩, xsa, xga, xgg, xn, xi, xt, xk, xe, xv, xm, xy, xh, nS, nO, xs, by decide +kernel, ⟨xq, msg, xoc, xod, .none, xkV, xdc, xpm, xan, xct, xsl, cc, cda, p0, p1, p2, p3, p4, p5, p6, p7, p8, p9, p10, p11, ccl, cl, cdd, cld, vs, ccs, csl, tf, xl, xc, xd, xf, xp, xcc⟩⟩
theorem txt_mk {K : PySem.W.Frag} {h : Heap} {mg : Str → Option Value} (X : K.In h) (G : h.Ns mainGlobals mg)
    {f_overlap : Addr} {oc_overlap kV_overlap dc_overlap pm_overlap cd_overlap ct_overlap : Value} {od_overlap an_overlap : Option Addr} {sl_overlap : Array (Option Value)}
    {f_Floor___len__ : Addr} {oc_Floor___len__ kV_Floor___len__ dc_Floor___len__ pm_Floor___len__ cd_Floor___len__ ct_Floor___len__ : Value} {od_Floor___len__ an_Floor___len__ : Option Addr} {sl_Floor___len__ : Array (Option Value)}
    {f_Floor___iter__ : Addr} {oc_Floor___iter__ kV_Floor___iter__ dc_Floor___iter__ pm_Floor___iter__ cd_Floor___iter__ ct_Floor___iter__ : Value} {od_Floor___iter__ an_Floor___iter__ : Option Addr} {sl_Floor___iter__ : Array (Option Value)}
    {f_Floor___eq__ : Addr} {oc_Floor___eq__ kV_Floor___eq__ dc_Floor___eq__ pm_Floor___eq__ cd_Floor___eq__ ct_Floor___eq__ : Value} {od_Floor___eq__ an_Floor___eq__ : Option Addr} {sl_Floor___eq__ : Array (Option Value)}
    {f_Floor_room : Addr} {oc_Floor_room kV_Floor_room dc_Floor_room pm_Floor_room cd_Floor_room ct_Floor_room : Value} {od_Floor_room an_Floor_room : Option Addr} {sl_Floor_room : Array (Option Value)}
    {f_union_of : Addr} {oc_union_of kV_union_of dc_union_of pm_union_of cd_union_of ct_union_of : Value} {od_union_of an_union_of : Option Addr} {sl_union_of : Array (Option Value)}
    {f__law_int : Addr} {oc__law_int kV__law_int dc__law_int pm__law_int cd__law_int ct__law_int : Value} {od__law_int an__law_int : Option Addr} {sl__law_int : Array (Option Value)}
    {f__law_state : Addr} {oc__law_state kV__law_state dc__law_state pm__law_state cd__law_state ct__law_state : Value} {od__law_state an__law_state : Option Addr} {sl__law_state : Array (Option Value)}
    {f__law_next : Addr} {oc__law_next kV__law_next dc__law_next pm__law_next cd__law_next ct__law_next : Value} {od__law_next an__law_next : Option Addr} {sl__law_next : Array (Option Value)}
    {f__law_over : Addr} {oc__law_over kV__law_over dc__law_over pm__law_over cd__law_over ct__law_over : Value} {od__law_over an__law_over : Option Addr} {sl__law_over : Array (Option Value)}
    {f__law_union : Addr} {oc__law_union kV__law_union dc__law_union pm__law_union cd__law_union ct__law_union : Value} {od__law_union an__law_union : Option Addr} {sl__law_union : Array (Option Value)}
    {f__law_parts : Addr} {oc__law_parts kV__law_parts dc__law_parts pm__law_parts cd__law_parts ct__law_parts : Value} {od__law_parts an__law_parts : Option Addr} {sl__law_parts : Array (Option Value)}
    {f_check_rooms : Addr} {oc_check_rooms kV_check_rooms dc_check_rooms pm_check_rooms cd_check_rooms ct_check_rooms : Value} {od_check_rooms an_check_rooms : Option Addr} {sl_check_rooms : Array (Option Value)}
    {f_room_fault : Addr} {oc_room_fault kV_room_fault dc_room_fault pm_room_fault cd_room_fault ct_room_fault : Value} {od_room_fault an_room_fault : Option Addr} {sl_room_fault : Array (Option Value)}
    {f__law_ints : Addr} {oc__law_ints kV__law_ints dc__law_ints pm__law_ints cd__law_ints ct__law_ints : Value} {od__law_ints an__law_ints : Option Addr} {sl__law_ints : Array (Option Value)}
    {f__law_push : Addr} {oc__law_push kV__law_push dc__law_push pm__law_push cd__law_push ct__law_push : Value} {od__law_push an__law_push : Option Addr} {sl__law_push : Array (Option Value)}
    {f__law_border : Addr} {oc__law_border kV__law_border dc__law_border pm__law_border cd__law_border ct__law_border : Value} {od__law_border an__law_border : Option Addr} {sl__law_border : Array (Option Value)}
    {f__law_order : Addr} {oc__law_order kV__law_order dc__law_order pm__law_order cd__law_order ct__law_order : Value} {od__law_order an__law_order : Option Addr} {sl__law_order : Array (Option Value)}
    {f__law_unions : Addr} {oc__law_unions kV__law_unions dc__law_unions pm__law_unions cd__law_unions ct__law_unions : Value} {od__law_unions an__law_unions : Option Addr} {sl__law_unions : Array (Option Value)}
    {f__law_together : Addr} {oc__law_together kV__law_together dc__law_together pm__law_together cd__law_together ct__law_together : Value} {od__law_together an__law_together : Option Addr} {sl__law_together : Array (Option Value)}
    {f_floor_fault : Addr} {oc_floor_fault kV_floor_fault dc_floor_fault pm_floor_fault cd_floor_fault ct_floor_fault : Value} {od_floor_fault an_floor_fault : Option Addr} {sl_floor_fault : Array (Option Value)}
    {f__law_slide : Addr} {oc__law_slide kV__law_slide dc__law_slide pm__law_slide cd__law_slide ct__law_slide : Value} {od__law_slide an__law_slide : Option Addr} {sl__law_slide : Array (Option Value)}
    {f_Floor___init__ : Addr} {oc_Floor___init__ kV_Floor___init__ dc_Floor___init__ pm_Floor___init__ cd_Floor___init__ ct_Floor___init__ : Value} {od_Floor___init__ an_Floor___init__ : Option Addr} {sl_Floor___init__ : Array (Option Value)}
    {f__law_floor : Addr} {oc__law_floor kV__law_floor dc__law_floor pm__law_floor cd__law_floor ct__law_floor : Value} {od__law_floor an__law_floor : Option Addr} {sl__law_floor : Array (Option Value)}
    {f_joinable : Addr} {oc_joinable kV_joinable dc_joinable pm_joinable cd_joinable ct_joinable : Value} {od_joinable an_joinable : Option Addr} {sl_joinable : Array (Option Value)}
    {f__law_drawn : Addr} {oc__law_drawn kV__law_drawn dc__law_drawn pm__law_drawn cd__law_drawn ct__law_drawn : Value} {od__law_drawn an__law_drawn : Option Addr} {sl__law_drawn : Array (Option Value)}
    {f__law_is : Addr} {oc__law_is kV__law_is dc__law_is pm__law_is cd__law_is ct__law_is : Value} {od__law_is an__law_is : Option Addr} {sl__law_is : Array (Option Value)}
    {f_split_room : Addr} {oc_split_room kV_split_room dc_split_room pm_split_room cd_split_room ct_split_room : Value} {od_split_room an_split_room : Option Addr} {sl_split_room : Array (Option Value)}
    {f_join_rooms : Addr} {oc_join_rooms kV_join_rooms dc_join_rooms pm_join_rooms cd_join_rooms ct_join_rooms : Value} {od_join_rooms an_join_rooms : Option Addr} {sl_join_rooms : Array (Option Value)}
    {f__law_listed : Addr} {oc__law_listed kV__law_listed dc__law_listed pm__law_listed cd__law_listed ct__law_listed : Value} {od__law_listed an__law_listed : Option Addr} {sl__law_listed : Array (Option Value)}
    {f__law_join : Addr} {oc__law_join kV__law_join dc__law_join pm__law_join cd__law_join ct__law_join : Value} {od__law_join an__law_join : Option Addr} {sl__law_join : Array (Option Value)}
    {f__law_split : Addr} {oc__law_split kV__law_split dc__law_split pm__law_split cd__law_split ct__law_split : Value} {od__law_split an__law_split : Option Addr} {sl__law_split : Array (Option Value)}
    {f__law_back : Addr} {oc__law_back kV__law_back dc__law_back pm__law_back cd__law_back ct__law_back : Value} {od__law_back an__law_back : Option Addr} {sl__law_back : Array (Option Value)}
    {f__law_apart : Addr} {oc__law_apart kV__law_apart dc__law_apart pm__law_apart cd__law_apart ct__law_apart : Value} {od__law_apart an__law_apart : Option Addr} {sl__law_apart : Array (Option Value)}
    {f_law : Addr} {oc_law kV_law dc_law pm_law cd_law ct_law : Value} {od_law an_law : Option Addr} {sl_law : Array (Option Value)}
    {C_FitError : Addr}
    {C_BadCount : Addr}
    {C_BadFloor : Addr}
    {C_BadPlace : Addr}
    {C_NotJoined : Addr}
    {C_Floor : Addr}
    {t_MOST_ROOMS_tools : Tok}
    {t_MOST_ROOMS_floors : Tok}
    {i_BadCount : Addr} {nm_BadCount q_BadCount : Str} {N_BadCount : Addr} {bs_BadCount bm_BadCount : List Value} {sn_BadCount : List Str} {sub_BadCount : List Value} {ab_BadCount : Bool} {col_BadCount : Option Bool} {dd_BadCount : Option Addr} {k0_BadCount k1_BadCount k2_BadCount k3_BadCount k5_BadCount : Option Value} {xq_BadCount msg_BadCount : Str} {xoc_BadCount xkV_BadCount xdc_BadCount xpm_BadCount xct_BadCount ccl_BadCount cl_BadCount : Value} {xod_BadCount xan_BadCount cdd_BadCount cld_BadCount : Option Addr} {xsl_BadCount ccs_BadCount csl_BadCount : Array (Option Value)} {cc_BadCount cda_BadCount : Addr} {vs_BadCount : Array Value} {tf_BadCount : Tok} {p0_BadCount p1_BadCount p2_BadCount p3_BadCount p4_BadCount p5_BadCount p6_BadCount p7_BadCount p8_BadCount p9_BadCount p10_BadCount p11_BadCount : Pos}
    {i_BadFloor : Addr} {nm_BadFloor q_BadFloor : Str} {N_BadFloor : Addr} {bs_BadFloor bm_BadFloor : List Value} {sn_BadFloor : List Str} {sub_BadFloor : List Value} {ab_BadFloor : Bool} {col_BadFloor : Option Bool} {dd_BadFloor : Option Addr} {k0_BadFloor k1_BadFloor k2_BadFloor k3_BadFloor k5_BadFloor : Option Value} {xq_BadFloor msg_BadFloor : Str} {xoc_BadFloor xkV_BadFloor xdc_BadFloor xpm_BadFloor xct_BadFloor ccl_BadFloor cl_BadFloor : Value} {xod_BadFloor xan_BadFloor cdd_BadFloor cld_BadFloor : Option Addr} {xsl_BadFloor ccs_BadFloor csl_BadFloor : Array (Option Value)} {cc_BadFloor cda_BadFloor : Addr} {vs_BadFloor : Array Value} {tf_BadFloor : Tok} {p0_BadFloor p1_BadFloor p2_BadFloor p3_BadFloor p4_BadFloor p5_BadFloor p6_BadFloor p7_BadFloor p8_BadFloor p9_BadFloor p10_BadFloor p11_BadFloor : Pos}
    {i_BadPlace : Addr} {nm_BadPlace q_BadPlace : Str} {N_BadPlace : Addr} {bs_BadPlace bm_BadPlace : List Value} {sn_BadPlace : List Str} {sub_BadPlace : List Value} {ab_BadPlace : Bool} {col_BadPlace : Option Bool} {dd_BadPlace : Option Addr} {k0_BadPlace k1_BadPlace k2_BadPlace k3_BadPlace k5_BadPlace : Option Value} {xq_BadPlace msg_BadPlace : Str} {xoc_BadPlace xkV_BadPlace xdc_BadPlace xpm_BadPlace xct_BadPlace ccl_BadPlace cl_BadPlace : Value} {xod_BadPlace xan_BadPlace cdd_BadPlace cld_BadPlace : Option Addr} {xsl_BadPlace ccs_BadPlace csl_BadPlace : Array (Option Value)} {cc_BadPlace cda_BadPlace : Addr} {vs_BadPlace : Array Value} {tf_BadPlace : Tok} {p0_BadPlace p1_BadPlace p2_BadPlace p3_BadPlace p4_BadPlace p5_BadPlace p6_BadPlace p7_BadPlace p8_BadPlace p9_BadPlace p10_BadPlace p11_BadPlace : Pos}
    {i_NotJoined : Addr} {nm_NotJoined q_NotJoined : Str} {N_NotJoined : Addr} {bs_NotJoined bm_NotJoined : List Value} {sn_NotJoined : List Str} {sub_NotJoined : List Value} {ab_NotJoined : Bool} {col_NotJoined : Option Bool} {dd_NotJoined : Option Addr} {k0_NotJoined k1_NotJoined k2_NotJoined k3_NotJoined k5_NotJoined : Option Value} {xq_NotJoined msg_NotJoined : Str} {xoc_NotJoined xkV_NotJoined xdc_NotJoined xpm_NotJoined xct_NotJoined ccl_NotJoined cl_NotJoined : Value} {xod_NotJoined xan_NotJoined cdd_NotJoined cld_NotJoined : Option Addr} {xsl_NotJoined ccs_NotJoined csl_NotJoined : Array (Option Value)} {cc_NotJoined cda_NotJoined : Addr} {vs_NotJoined : Array Value} {tf_NotJoined : Tok} {p0_NotJoined p1_NotJoined p2_NotJoined p3_NotJoined p4_NotJoined p5_NotJoined p6_NotJoined p7_NotJoined p8_NotJoined p9_NotJoined p10_NotJoined p11_NotJoined : Pos}
    (gc_FitError : PySem.W.nsIn K mainGlobals "FitError" = some (some (.ref C_FitError)))
    (gc_BadCount : PySem.W.nsIn K mainGlobals "BadCount" = some (some (.ref C_BadCount)))
    (gc_BadFloor : PySem.W.nsIn K mainGlobals "BadFloor" = some (some (.ref C_BadFloor)))
    (gc_BadPlace : PySem.W.nsIn K mainGlobals "BadPlace" = some (some (.ref C_BadPlace)))
    (gc_NotJoined : PySem.W.nsIn K mainGlobals "NotJoined" = some (some (.ref C_NotJoined)))
    (gc_Floor : PySem.W.nsIn K mainGlobals "Floor" = some (some (.ref C_Floor)))
    (gk_MOST_ROOMS_tools : PySem.W.nsIn K mainGlobals "MOST_ROOMS_tools" = some (some (.int 20 t_MOST_ROOMS_tools)))
    (gk_MOST_ROOMS_floors : PySem.W.nsIn K mainGlobals "MOST_ROOMS_floors" = some (some (.int 20 t_MOST_ROOMS_floors)))
    (g_overlap : PySem.W.nsIn K mainGlobals "overlap" = some (some (.ref f_overlap)))
    (g_union_of : PySem.W.nsIn K mainGlobals "union_of" = some (some (.ref f_union_of)))
    (g__law_int : PySem.W.nsIn K mainGlobals "_law_int" = some (some (.ref f__law_int)))
    (g__law_state : PySem.W.nsIn K mainGlobals "_law_state" = some (some (.ref f__law_state)))
    (g__law_next : PySem.W.nsIn K mainGlobals "_law_next" = some (some (.ref f__law_next)))
    (g__law_over : PySem.W.nsIn K mainGlobals "_law_over" = some (some (.ref f__law_over)))
    (g__law_union : PySem.W.nsIn K mainGlobals "_law_union" = some (some (.ref f__law_union)))
    (g__law_parts : PySem.W.nsIn K mainGlobals "_law_parts" = some (some (.ref f__law_parts)))
    (g_check_rooms : PySem.W.nsIn K mainGlobals "check_rooms" = some (some (.ref f_check_rooms)))
    (g_room_fault : PySem.W.nsIn K mainGlobals "room_fault" = some (some (.ref f_room_fault)))
    (g__law_ints : PySem.W.nsIn K mainGlobals "_law_ints" = some (some (.ref f__law_ints)))
    (g__law_push : PySem.W.nsIn K mainGlobals "_law_push" = some (some (.ref f__law_push)))
    (g__law_border : PySem.W.nsIn K mainGlobals "_law_border" = some (some (.ref f__law_border)))
    (g__law_order : PySem.W.nsIn K mainGlobals "_law_order" = some (some (.ref f__law_order)))
    (g__law_unions : PySem.W.nsIn K mainGlobals "_law_unions" = some (some (.ref f__law_unions)))
    (g__law_together : PySem.W.nsIn K mainGlobals "_law_together" = some (some (.ref f__law_together)))
    (g_floor_fault : PySem.W.nsIn K mainGlobals "floor_fault" = some (some (.ref f_floor_fault)))
    (g__law_slide : PySem.W.nsIn K mainGlobals "_law_slide" = some (some (.ref f__law_slide)))
    (g__law_floor : PySem.W.nsIn K mainGlobals "_law_floor" = some (some (.ref f__law_floor)))
    (g_joinable : PySem.W.nsIn K mainGlobals "joinable" = some (some (.ref f_joinable)))
    (g__law_drawn : PySem.W.nsIn K mainGlobals "_law_drawn" = some (some (.ref f__law_drawn)))
    (g__law_is : PySem.W.nsIn K mainGlobals "_law_is" = some (some (.ref f__law_is)))
    (g_split_room : PySem.W.nsIn K mainGlobals "split_room" = some (some (.ref f_split_room)))
    (g_join_rooms : PySem.W.nsIn K mainGlobals "join_rooms" = some (some (.ref f_join_rooms)))
    (g__law_listed : PySem.W.nsIn K mainGlobals "_law_listed" = some (some (.ref f__law_listed)))
    (g__law_join : PySem.W.nsIn K mainGlobals "_law_join" = some (some (.ref f__law_join)))
    (g__law_split : PySem.W.nsIn K mainGlobals "_law_split" = some (some (.ref f__law_split)))
    (g__law_back : PySem.W.nsIn K mainGlobals "_law_back" = some (some (.ref f__law_back)))
    (g__law_apart : PySem.W.nsIn K mainGlobals "_law_apart" = some (some (.ref f__law_apart)))
    (g_law : PySem.W.nsIn K mainGlobals "law" = some (some (.ref f_law)))
    (g_Floor___len__ : PySem.W.findIn K (.ref C_Floor) "__len__" = some (some (.ref f_Floor___len__)))
    (g_Floor___iter__ : PySem.W.findIn K (.ref C_Floor) "__iter__" = some (some (.ref f_Floor___iter__)))
    (g_Floor___eq__ : PySem.W.findIn K (.ref C_Floor) "__eq__" = some (some (.ref f_Floor___eq__)))
    (g_Floor_room : PySem.W.findIn K (.ref C_Floor) "room" = some (some (.ref f_Floor_room)))
    (g_Floor___init__ : PySem.W.findIn K (.ref C_Floor) "__init__" = some (some (.ref f_Floor___init__)))
    (l_overlap : K.lookup f_overlap = some ⟨oc_overlap, od_overlap, .func (PySem.W.fnOf "overlap" "overlap" (defArgs (topS 9)) (defBody (topS 9)) (defScope (topS 9)) .none kV_overlap dc_overlap pm_overlap an_overlap cd_overlap ct_overlap), sl_overlap⟩)
    (c_overlap : PySem.W.codeIn K cd_overlap "overlap" = true)
    (k_overlap : PySem.W.keepIn K (.ref f_overlap) = true)
    (l_Floor___len__ : K.lookup f_Floor___len__ = some ⟨oc_Floor___len__, od_Floor___len__, .func (PySem.W.fnOf "__len__" "Floor.__len__" (defArgs (metS 14 1)) (defBody (metS 14 1)) (defScope (metS 14 1)) .none kV_Floor___len__ dc_Floor___len__ pm_Floor___len__ an_Floor___len__ cd_Floor___len__ ct_Floor___len__), sl_Floor___len__⟩)
    (c_Floor___len__ : PySem.W.codeIn K cd_Floor___len__ "Floor.__len__" = true)
    (k_Floor___len__ : PySem.W.keepIn K (.ref f_Floor___len__) = true)
    (l_Floor___iter__ : K.lookup f_Floor___iter__ = some ⟨oc_Floor___iter__, od_Floor___iter__, .func (PySem.W.fnOf "__iter__" "Floor.__iter__" (defArgs (metS 14 2)) (defBody (metS 14 2)) (defScope (metS 14 2)) .none kV_Floor___iter__ dc_Floor___iter__ pm_Floor___iter__ an_Floor___iter__ cd_Floor___iter__ ct_Floor___iter__), sl_Floor___iter__⟩)
    (c_Floor___iter__ : PySem.W.codeIn K cd_Floor___iter__ "Floor.__iter__" = true)
    (k_Floor___iter__ : PySem.W.keepIn K (.ref f_Floor___iter__) = true)
    (l_Floor___eq__ : K.lookup f_Floor___eq__ = some ⟨oc_Floor___eq__, od_Floor___eq__, .func (PySem.W.fnOf "__eq__" "Floor.__eq__" (defArgs (metS 14 3)) (defBody (metS 14 3)) (defScope (metS 14 3)) .none kV_Floor___eq__ dc_Floor___eq__ pm_Floor___eq__ an_Floor___eq__ cd_Floor___eq__ ct_Floor___eq__), sl_Floor___eq__⟩)
    (c_Floor___eq__ : PySem.W.codeIn K cd_Floor___eq__ "Floor.__eq__" = true)
    (k_Floor___eq__ : PySem.W.keepIn K (.ref f_Floor___eq__) = true)
    (l_Floor_room : K.lookup f_Floor_room = some ⟨oc_Floor_room, od_Floor_room, .func (PySem.W.fnOf "room" "Floor.room" (defArgs (metS 14 4)) (defBody (metS 14 4)) (defScope (metS 14 4)) .none kV_Floor_room dc_Floor_room pm_Floor_room an_Floor_room cd_Floor_room ct_Floor_room), sl_Floor_room⟩)
    (c_Floor_room : PySem.W.codeIn K cd_Floor_room "Floor.room" = true)
    (k_Floor_room : PySem.W.keepIn K (.ref f_Floor_room) = true)
    (l_union_of : K.lookup f_union_of = some ⟨oc_union_of, od_union_of, .func (PySem.W.fnOf "union_of" "union_of" (defArgs (topS 16)) (defBody (topS 16)) (defScope (topS 16)) .none kV_union_of dc_union_of pm_union_of an_union_of cd_union_of ct_union_of), sl_union_of⟩)
    (c_union_of : PySem.W.codeIn K cd_union_of "union_of" = true)
    (k_union_of : PySem.W.keepIn K (.ref f_union_of) = true)
    (l__law_int : K.lookup f__law_int = some ⟨oc__law_int, od__law_int, .func (PySem.W.fnOf "_law_int" "_law_int" (defArgs (topS 21)) (defBody (topS 21)) (defScope (topS 21)) .none kV__law_int dc__law_int pm__law_int an__law_int cd__law_int ct__law_int), sl__law_int⟩)
    (c__law_int : PySem.W.codeIn K cd__law_int "_law_int" = true)
    (k__law_int : PySem.W.keepIn K (.ref f__law_int) = true)
    (l__law_state : K.lookup f__law_state = some ⟨oc__law_state, od__law_state, .func (PySem.W.fnOf "_law_state" "_law_state" (defArgs (topS 23)) (defBody (topS 23)) (defScope (topS 23)) .none kV__law_state dc__law_state pm__law_state an__law_state cd__law_state ct__law_state), sl__law_state⟩)
    (c__law_state : PySem.W.codeIn K cd__law_state "_law_state" = true)
    (k__law_state : PySem.W.keepIn K (.ref f__law_state) = true)
    (l__law_next : K.lookup f__law_next = some ⟨oc__law_next, od__law_next, .func (PySem.W.fnOf "_law_next" "_law_next" (defArgs (topS 24)) (defBody (topS 24)) (defScope (topS 24)) .none kV__law_next dc__law_next pm__law_next an__law_next cd__law_next ct__law_next), sl__law_next⟩)
    (c__law_next : PySem.W.codeIn K cd__law_next "_law_next" = true)
    (k__law_next : PySem.W.keepIn K (.ref f__law_next) = true)
    (l__law_over : K.lookup f__law_over = some ⟨oc__law_over, od__law_over, .func (PySem.W.fnOf "_law_over" "_law_over" (defArgs (topS 25)) (defBody (topS 25)) (defScope (topS 25)) .none kV__law_over dc__law_over pm__law_over an__law_over cd__law_over ct__law_over), sl__law_over⟩)
    (c__law_over : PySem.W.codeIn K cd__law_over "_law_over" = true)
    (k__law_over : PySem.W.keepIn K (.ref f__law_over) = true)
    (l__law_union : K.lookup f__law_union = some ⟨oc__law_union, od__law_union, .func (PySem.W.fnOf "_law_union" "_law_union" (defArgs (topS 34)) (defBody (topS 34)) (defScope (topS 34)) .none kV__law_union dc__law_union pm__law_union an__law_union cd__law_union ct__law_union), sl__law_union⟩)
    (c__law_union : PySem.W.codeIn K cd__law_union "_law_union" = true)
    (k__law_union : PySem.W.keepIn K (.ref f__law_union) = true)
    (l__law_parts : K.lookup f__law_parts = some ⟨oc__law_parts, od__law_parts, .func (PySem.W.fnOf "_law_parts" "_law_parts" (defArgs (topS 38)) (defBody (topS 38)) (defScope (topS 38)) .none kV__law_parts dc__law_parts pm__law_parts an__law_parts cd__law_parts ct__law_parts), sl__law_parts⟩)
    (c__law_parts : PySem.W.codeIn K cd__law_parts "_law_parts" = true)
    (k__law_parts : PySem.W.keepIn K (.ref f__law_parts) = true)
    (l_check_rooms : K.lookup f_check_rooms = some ⟨oc_check_rooms, od_check_rooms, .func (PySem.W.fnOf "check_rooms" "check_rooms" (defArgs (topS 8)) (defBody (topS 8)) (defScope (topS 8)) .none kV_check_rooms dc_check_rooms pm_check_rooms an_check_rooms cd_check_rooms ct_check_rooms), sl_check_rooms⟩)
    (c_check_rooms : PySem.W.codeIn K cd_check_rooms "check_rooms" = true)
    (k_check_rooms : PySem.W.keepIn K (.ref f_check_rooms) = true)
    (l_room_fault : K.lookup f_room_fault = some ⟨oc_room_fault, od_room_fault, .func (PySem.W.fnOf "room_fault" "room_fault" (defArgs (topS 12)) (defBody (topS 12)) (defScope (topS 12)) .none kV_room_fault dc_room_fault pm_room_fault an_room_fault cd_room_fault ct_room_fault), sl_room_fault⟩)
    (c_room_fault : PySem.W.codeIn K cd_room_fault "room_fault" = true)
    (k_room_fault : PySem.W.keepIn K (.ref f_room_fault) = true)
    (l__law_ints : K.lookup f__law_ints = some ⟨oc__law_ints, od__law_ints, .func (PySem.W.fnOf "_law_ints" "_law_ints" (defArgs (topS 22)) (defBody (topS 22)) (defScope (topS 22)) .none kV__law_ints dc__law_ints pm__law_ints an__law_ints cd__law_ints ct__law_ints), sl__law_ints⟩)
    (c__law_ints : PySem.W.codeIn K cd__law_ints "_law_ints" = true)
    (k__law_ints : PySem.W.keepIn K (.ref f__law_ints) = true)
    (l__law_push : K.lookup f__law_push = some ⟨oc__law_push, od__law_push, .func (PySem.W.fnOf "_law_push" "_law_push" (defArgs (topS 26)) (defBody (topS 26)) (defScope (topS 26)) .none kV__law_push dc__law_push pm__law_push an__law_push cd__law_push ct__law_push), sl__law_push⟩)
    (c__law_push : PySem.W.codeIn K cd__law_push "_law_push" = true)
    (k__law_push : PySem.W.keepIn K (.ref f__law_push) = true)
    (l__law_border : K.lookup f__law_border = some ⟨oc__law_border, od__law_border, .func (PySem.W.fnOf "_law_border" "_law_border" (defArgs (topS 27)) (defBody (topS 27)) (defScope (topS 27)) .none kV__law_border dc__law_border pm__law_border an__law_border cd__law_border ct__law_border), sl__law_border⟩)
    (c__law_border : PySem.W.codeIn K cd__law_border "_law_border" = true)
    (k__law_border : PySem.W.keepIn K (.ref f__law_border) = true)
    (l__law_order : K.lookup f__law_order = some ⟨oc__law_order, od__law_order, .func (PySem.W.fnOf "_law_order" "_law_order" (defArgs (topS 31)) (defBody (topS 31)) (defScope (topS 31)) .none kV__law_order dc__law_order pm__law_order an__law_order cd__law_order ct__law_order), sl__law_order⟩)
    (c__law_order : PySem.W.codeIn K cd__law_order "_law_order" = true)
    (k__law_order : PySem.W.keepIn K (.ref f__law_order) = true)
    (l__law_unions : K.lookup f__law_unions = some ⟨oc__law_unions, od__law_unions, .func (PySem.W.fnOf "_law_unions" "_law_unions" (defArgs (topS 35)) (defBody (topS 35)) (defScope (topS 35)) .none kV__law_unions dc__law_unions pm__law_unions an__law_unions cd__law_unions ct__law_unions), sl__law_unions⟩)
    (c__law_unions : PySem.W.codeIn K cd__law_unions "_law_unions" = true)
    (k__law_unions : PySem.W.keepIn K (.ref f__law_unions) = true)
    (l__law_together : K.lookup f__law_together = some ⟨oc__law_together, od__law_together, .func (PySem.W.fnOf "_law_together" "_law_together" (defArgs (topS 36)) (defBody (topS 36)) (defScope (topS 36)) .none kV__law_together dc__law_together pm__law_together an__law_together cd__law_together ct__law_together), sl__law_together⟩)
    (c__law_together : PySem.W.codeIn K cd__law_together "_law_together" = true)
    (k__law_together : PySem.W.keepIn K (.ref f__law_together) = true)
    (l_floor_fault : K.lookup f_floor_fault = some ⟨oc_floor_fault, od_floor_fault, .func (PySem.W.fnOf "floor_fault" "floor_fault" (defArgs (topS 13)) (defBody (topS 13)) (defScope (topS 13)) .none kV_floor_fault dc_floor_fault pm_floor_fault an_floor_fault cd_floor_fault ct_floor_fault), sl_floor_fault⟩)
    (c_floor_fault : PySem.W.codeIn K cd_floor_fault "floor_fault" = true)
    (k_floor_fault : PySem.W.keepIn K (.ref f_floor_fault) = true)
    (l__law_slide : K.lookup f__law_slide = some ⟨oc__law_slide, od__law_slide, .func (PySem.W.fnOf "_law_slide" "_law_slide" (defArgs (topS 28)) (defBody (topS 28)) (defScope (topS 28)) .none kV__law_slide dc__law_slide pm__law_slide an__law_slide cd__law_slide ct__law_slide), sl__law_slide⟩)
    (c__law_slide : PySem.W.codeIn K cd__law_slide "_law_slide" = true)
    (k__law_slide : PySem.W.keepIn K (.ref f__law_slide) = true)
    (l_Floor___init__ : K.lookup f_Floor___init__ = some ⟨oc_Floor___init__, od_Floor___init__, .func (PySem.W.fnOf "__init__" "Floor.__init__" (defArgs (metS 14 0)) (defBody (metS 14 0)) (defScope (metS 14 0)) .none kV_Floor___init__ dc_Floor___init__ pm_Floor___init__ an_Floor___init__ cd_Floor___init__ ct_Floor___init__), sl_Floor___init__⟩)
    (c_Floor___init__ : PySem.W.codeIn K cd_Floor___init__ "Floor.__init__" = true)
    (k_Floor___init__ : PySem.W.keepIn K (.ref f_Floor___init__) = true)
    (l__law_floor : K.lookup f__law_floor = some ⟨oc__law_floor, od__law_floor, .func (PySem.W.fnOf "_law_floor" "_law_floor" (defArgs (topS 30)) (defBody (topS 30)) (defScope (topS 30)) .none kV__law_floor dc__law_floor pm__law_floor an__law_floor cd__law_floor ct__law_floor), sl__law_floor⟩)
    (c__law_floor : PySem.W.codeIn K cd__law_floor "_law_floor" = true)
    (k__law_floor : PySem.W.keepIn K (.ref f__law_floor) = true)
    (l_joinable : K.lookup f_joinable = some ⟨oc_joinable, od_joinable, .func (PySem.W.fnOf "joinable" "joinable" (defArgs (topS 19)) (defBody (topS 19)) (defScope (topS 19)) .none kV_joinable dc_joinable pm_joinable an_joinable cd_joinable ct_joinable), sl_joinable⟩)
    (c_joinable : PySem.W.codeIn K cd_joinable "joinable" = true)
    (k_joinable : PySem.W.keepIn K (.ref f_joinable) = true)
    (l__law_drawn : K.lookup f__law_drawn = some ⟨oc__law_drawn, od__law_drawn, .func (PySem.W.fnOf "_law_drawn" "_law_drawn" (defArgs (topS 32)) (defBody (topS 32)) (defScope (topS 32)) .none kV__law_drawn dc__law_drawn pm__law_drawn an__law_drawn cd__law_drawn ct__law_drawn), sl__law_drawn⟩)
    (c__law_drawn : PySem.W.codeIn K cd__law_drawn "_law_drawn" = true)
    (k__law_drawn : PySem.W.keepIn K (.ref f__law_drawn) = true)
    (l__law_is : K.lookup f__law_is = some ⟨oc__law_is, od__law_is, .func (PySem.W.fnOf "_law_is" "_law_is" (defArgs (topS 33)) (defBody (topS 33)) (defScope (topS 33)) .none kV__law_is dc__law_is pm__law_is an__law_is cd__law_is ct__law_is), sl__law_is⟩)
    (c__law_is : PySem.W.codeIn K cd__law_is "_law_is" = true)
    (k__law_is : PySem.W.keepIn K (.ref f__law_is) = true)
    (l_split_room : K.lookup f_split_room = some ⟨oc_split_room, od_split_room, .func (PySem.W.fnOf "split_room" "split_room" (defArgs (topS 17)) (defBody (topS 17)) (defScope (topS 17)) .none kV_split_room dc_split_room pm_split_room an_split_room cd_split_room ct_split_room), sl_split_room⟩)
    (c_split_room : PySem.W.codeIn K cd_split_room "split_room" = true)
    (k_split_room : PySem.W.keepIn K (.ref f_split_room) = true)
    (l_join_rooms : K.lookup f_join_rooms = some ⟨oc_join_rooms, od_join_rooms, .func (PySem.W.fnOf "join_rooms" "join_rooms" (defArgs (topS 18)) (defBody (topS 18)) (defScope (topS 18)) .none kV_join_rooms dc_join_rooms pm_join_rooms an_join_rooms cd_join_rooms ct_join_rooms), sl_join_rooms⟩)
    (c_join_rooms : PySem.W.codeIn K cd_join_rooms "join_rooms" = true)
    (k_join_rooms : PySem.W.keepIn K (.ref f_join_rooms) = true)
    (l__law_listed : K.lookup f__law_listed = some ⟨oc__law_listed, od__law_listed, .func (PySem.W.fnOf "_law_listed" "_law_listed" (defArgs (topS 41)) (defBody (topS 41)) (defScope (topS 41)) .none kV__law_listed dc__law_listed pm__law_listed an__law_listed cd__law_listed ct__law_listed), sl__law_listed⟩)
    (c__law_listed : PySem.W.codeIn K cd__law_listed "_law_listed" = true)
    (k__law_listed : PySem.W.keepIn K (.ref f__law_listed) = true)
    (l__law_join : K.lookup f__law_join = some ⟨oc__law_join, od__law_join, .func (PySem.W.fnOf "_law_join" "_law_join" (defArgs (topS 37)) (defBody (topS 37)) (defScope (topS 37)) .none kV__law_join dc__law_join pm__law_join an__law_join cd__law_join ct__law_join), sl__law_join⟩)
    (c__law_join : PySem.W.codeIn K cd__law_join "_law_join" = true)
    (k__law_join : PySem.W.keepIn K (.ref f__law_join) = true)
    (l__law_split : K.lookup f__law_split = some ⟨oc__law_split, od__law_split, .func (PySem.W.fnOf "_law_split" "_law_split" (defArgs (topS 39)) (defBody (topS 39)) (defScope (topS 39)) .none kV__law_split dc__law_split pm__law_split an__law_split cd__law_split ct__law_split), sl__law_split⟩)
    (c__law_split : PySem.W.codeIn K cd__law_split "_law_split" = true)
    (k__law_split : PySem.W.keepIn K (.ref f__law_split) = true)
    (l__law_back : K.lookup f__law_back = some ⟨oc__law_back, od__law_back, .func (PySem.W.fnOf "_law_back" "_law_back" (defArgs (topS 40)) (defBody (topS 40)) (defScope (topS 40)) .none kV__law_back dc__law_back pm__law_back an__law_back cd__law_back ct__law_back), sl__law_back⟩)
    (c__law_back : PySem.W.codeIn K cd__law_back "_law_back" = true)
    (k__law_back : PySem.W.keepIn K (.ref f__law_back) = true)
    (l__law_apart : K.lookup f__law_apart = some ⟨oc__law_apart, od__law_apart, .func (PySem.W.fnOf "_law_apart" "_law_apart" (defArgs (topS 42)) (defBody (topS 42)) (defScope (topS 42)) .none kV__law_apart dc__law_apart pm__law_apart an__law_apart cd__law_apart ct__law_apart), sl__law_apart⟩)
    (c__law_apart : PySem.W.codeIn K cd__law_apart "_law_apart" = true)
    (k__law_apart : PySem.W.keepIn K (.ref f__law_apart) = true)
    (l_law : K.lookup f_law = some ⟨oc_law, od_law, .func (PySem.W.fnOf "law" "law" (defArgs (topS 43)) (defBody (topS 43)) (defScope (topS 43)) .none kV_law dc_law pm_law an_law cd_law ct_law), sl_law⟩)
    (c_law : PySem.W.codeIn K cd_law "law" = true)
    (k_law : PySem.W.keepIn K (.ref f_law) = true)
    (i_Floor___len__ : PySem.W.isFn K (.ref f_Floor___len__) = true)
    (i_Floor___iter__ : PySem.W.isFn K (.ref f_Floor___iter__) = true)
    (i_Floor___eq__ : PySem.W.isFn K (.ref f_Floor___eq__) = true)
    (i_Floor_room : PySem.W.isFn K (.ref f_Floor_room) = true)
    (i_Floor___init__ : PySem.W.isFn K (.ref f_Floor___init__) = true)
    (n_len : PySem.W.nsIn K mainGlobals "len" = some none)
    (n_abs : PySem.W.nsIn K mainGlobals "abs" = some none)
    (n_int : PySem.W.nsIn K mainGlobals "int" = some none)
    (n_max : PySem.W.nsIn K mainGlobals "max" = some none)
    (n_min : PySem.W.nsIn K mainGlobals "min" = some none)
    (n_sorted : PySem.W.nsIn K mainGlobals "sorted" = some none)
    (n_list : PySem.W.nsIn K mainGlobals "list" = some none)
    (n_tuple : PySem.W.nsIn K mainGlobals "tuple" = some none)
    (n_isinstance : PySem.W.nsIn K mainGlobals "isinstance" = some none)
    (n_range : PySem.W.nsIn K mainGlobals "range" = some none)
    (n_enumerate : PySem.W.nsIn K mainGlobals "enumerate" = some none)
    (n_bool : PySem.W.nsIn K mainGlobals "bool" = some none)
    (n_iter : PySem.W.nsIn K mainGlobals "iter" = some none)
    (n_ValueError : PySem.W.nsIn K mainGlobals "ValueError" = some none)
    (n_super : PySem.W.nsIn K mainGlobals "super" = some none)
    (pgO : PySem.W.plainGet K C_Floor Str.empty = true)
    (hdO : PySem.W.hasDictIn K C_Floor = true)
    (poO : PySem.W.plainOver K C_Floor = true)
    (saO : PySem.W.findIn K (.ref C_Floor) "__setattr__" = some (some (.builtin "object.__setattr__")))
    (mkO : PySem.W.makesIn K C_Floor = true)
    (kpO : PySem.W.keepIn K (.ref C_Floor) = true)
    (haO : PySem.W.findIn K (.ref C_Floor) "__class__" = some (some (.builtin "object.__class__")))
    (hmO : PySem.W.mroIn K C_Floor (.type "object") = some true)
    (hn : PySem.W.specialIn K (.builtin "object.__class__") "__get__" = some (some (.builtin "getset_descriptor.__get__")))
    (htk : PySem.W.takesIn K (.builtin "object.__class__") = some true)
    (noO : PySem.W.nsIn K cStatics "thirdparty.any" = some none)
    (na__rooms : PySem.W.findIn K (.ref C_Floor) "_rooms" = some none)
    (na_height : PySem.W.findIn K (.ref C_Floor) "height" = some none)
    (na_width : PySem.W.findIn K (.ref C_Floor) "width" = some none)
    (xL_BadCount : K.lookup C_BadCount = some (excClassObj nm_BadCount q_BadCount C_BadCount N_BadCount bs_BadCount bm_BadCount true sn_BadCount sub_BadCount ab_BadCount col_BadCount dd_BadCount k0_BadCount k1_BadCount k2_BadCount k3_BadCount k5_BadCount "ValueError.__new__"))
    (xb_BadCount : HandSPX.refsVE bm_BadCount = true)
    (xsa_BadCount : PySem.W.findIn K (.ref C_BadCount) "__setattr__" = some (some (.builtin "object.__setattr__")))
    (xga_BadCount : PySem.W.findIn K (.ref C_BadCount) "__getattribute__" = some (some (.builtin "BaseException.__getattribute__")))
    (xgg_BadCount : PySem.W.findIn K (.ref C_BadCount) "__getattr__" = some none)
    (xn_BadCount : PySem.W.findIn K (.ref C_BadCount) "number" = some none)
    (xi_BadCount : PySem.W.findIn K (.ref C_BadCount) "__init__" = some (some (.ref i_BadCount)))
    (xt_BadCount : PySem.W.typeIn K (.ref i_BadCount) = some (.type "function"))
    (xk_BadCount : PySem.W.keepIn K (.ref C_BadCount) = true)
    (xe_BadCount : PySem.W.subIn K (.ref C_BadCount) (.type "BaseException") = some true)
    (xv_BadCount : PySem.W.subIn K (.ref C_BadCount) (.type "ValueError") = some true)
    (xm_BadCount : PySem.W.mroIn K C_BadCount (.ref C_BadCount) = some true)
    (xy_BadCount : PySem.W.typeIn K (.ref C_BadCount) = some (.type "type"))
    (xh_BadCount : PySem.W.hasDictIn K C_BadCount = true)
    (xs_BadCount : PySem.W.ks_superIn K C_BadCount C_BadCount "__init__" = some (some (.builtin "ValueError.__init__")))
    (xa_BadCount : PySem.W.findIn K (.ref C_BadCount) "__class__" = some (some (.builtin "object.__class__")))
    (xo_BadCount : PySem.W.mroIn K C_BadCount (.type "object") = some true)
    (xl_BadCount : K.lookup i_BadCount = some ⟨xoc_BadCount, xod_BadCount, .func (PySem.W.ksFn "__init__" xq_BadCount (OwnErr.eA "number" p0_BadCount p1_BadCount) (OwnErr.eB "number" msg_BadCount p2_BadCount p3_BadCount p4_BadCount p5_BadCount p6_BadCount p7_BadCount p8_BadCount p9_BadCount p10_BadCount p11_BadCount) (OwnErr.eS "number") .none xkV_BadCount xdc_BadCount xpm_BadCount xan_BadCount (.ref cda_BadCount) xct_BadCount cc_BadCount), xsl_BadCount⟩)
    (xc_BadCount : PySem.W.codeIn K (.ref cda_BadCount) xq_BadCount = true)
    (xd_BadCount : K.lookup cda_BadCount = some ⟨ccl_BadCount, cdd_BadCount, .fields vs_BadCount, ccs_BadCount⟩)
    (xf_BadCount : vs_BadCount[2]? = some (.str PySem.Challenge.pw_roomsfit_k31_split_and_join.main.file tf_BadCount))
    (xp_BadCount : (p4_BadCount.endLine == p6_BadCount.line) = true)
    (xcc_BadCount : K.lookup cc_BadCount = some ⟨cl_BadCount, cld_BadCount, .cell (some (.ref C_BadCount)), csl_BadCount⟩)
    (xL_BadFloor : K.lookup C_BadFloor = some (excClassObj nm_BadFloor q_BadFloor C_BadFloor N_BadFloor bs_BadFloor bm_BadFloor true sn_BadFloor sub_BadFloor ab_BadFloor col_BadFloor dd_BadFloor k0_BadFloor k1_BadFloor k2_BadFloor k3_BadFloor k5_BadFloor "ValueError.__new__"))
    (xb_BadFloor : HandSPX.refsVE bm_BadFloor = true)
    (xsa_BadFloor : PySem.W.findIn K (.ref C_BadFloor) "__setattr__" = some (some (.builtin "object.__setattr__")))
    (xga_BadFloor : PySem.W.findIn K (.ref C_BadFloor) "__getattribute__" = some (some (.builtin "BaseException.__getattribute__")))
    (xgg_BadFloor : PySem.W.findIn K (.ref C_BadFloor) "__getattr__" = some none)
    (xn_BadFloor : PySem.W.findIn K (.ref C_BadFloor) "fault" = some none)
    (xi_BadFloor : PySem.W.findIn K (.ref C_BadFloor) "__init__" = some (some (.ref i_BadFloor)))
    (xt_BadFloor : PySem.W.typeIn K (.ref i_BadFloor) = some (.type "function"))
    (xk_BadFloor : PySem.W.keepIn K (.ref C_BadFloor) = true)
    (xe_BadFloor : PySem.W.subIn K (.ref C_BadFloor) (.type "BaseException") = some true)
    (xv_BadFloor : PySem.W.subIn K (.ref C_BadFloor) (.type "ValueError") = some true)
    (xm_BadFloor : PySem.W.mroIn K C_BadFloor (.ref C_BadFloor) = some true)
    (xy_BadFloor : PySem.W.typeIn K (.ref C_BadFloor) = some (.type "type"))
    (xh_BadFloor : PySem.W.hasDictIn K C_BadFloor = true)
    (xs_BadFloor : PySem.W.ks_superIn K C_BadFloor C_BadFloor "__init__" = some (some (.builtin "ValueError.__init__")))
    (xa_BadFloor : PySem.W.findIn K (.ref C_BadFloor) "__class__" = some (some (.builtin "object.__class__")))
    (xo_BadFloor : PySem.W.mroIn K C_BadFloor (.type "object") = some true)
    (xl_BadFloor : K.lookup i_BadFloor = some ⟨xoc_BadFloor, xod_BadFloor, .func (PySem.W.ksFn "__init__" xq_BadFloor (OwnErr.eA "fault" p0_BadFloor p1_BadFloor) (OwnErr.eB "fault" msg_BadFloor p2_BadFloor p3_BadFloor p4_BadFloor p5_BadFloor p6_BadFloor p7_BadFloor p8_BadFloor p9_BadFloor p10_BadFloor p11_BadFloor) (OwnErr.eS "fault") .none xkV_BadFloor xdc_BadFloor xpm_BadFloor xan_BadFloor (.ref cda_BadFloor) xct_BadFloor cc_BadFloor), xsl_BadFloor⟩)
    (xc_BadFloor : PySem.W.codeIn K (.ref cda_BadFloor) xq_BadFloor = true)
    (xd_BadFloor : K.lookup cda_BadFloor = some ⟨ccl_BadFloor, cdd_BadFloor, .fields vs_BadFloor, ccs_BadFloor⟩)
    (xf_BadFloor : vs_BadFloor[2]? = some (.str PySem.Challenge.pw_roomsfit_k31_split_and_join.main.file tf_BadFloor))
    (xp_BadFloor : (p4_BadFloor.endLine == p6_BadFloor.line) = true)
    (xcc_BadFloor : K.lookup cc_BadFloor = some ⟨cl_BadFloor, cld_BadFloor, .cell (some (.ref C_BadFloor)), csl_BadFloor⟩)
    (xL_BadPlace : K.lookup C_BadPlace = some (excClassObj nm_BadPlace q_BadPlace C_BadPlace N_BadPlace bs_BadPlace bm_BadPlace true sn_BadPlace sub_BadPlace ab_BadPlace col_BadPlace dd_BadPlace k0_BadPlace k1_BadPlace k2_BadPlace k3_BadPlace k5_BadPlace "ValueError.__new__"))
    (xb_BadPlace : HandSPX.refsVE bm_BadPlace = true)
    (xsa_BadPlace : PySem.W.findIn K (.ref C_BadPlace) "__setattr__" = some (some (.builtin "object.__setattr__")))
    (xga_BadPlace : PySem.W.findIn K (.ref C_BadPlace) "__getattribute__" = some (some (.builtin "BaseException.__getattribute__")))
    (xgg_BadPlace : PySem.W.findIn K (.ref C_BadPlace) "__getattr__" = some none)
    (xn_BadPlace : PySem.W.findIn K (.ref C_BadPlace) "place" = some none)
    (xi_BadPlace : PySem.W.findIn K (.ref C_BadPlace) "__init__" = some (some (.ref i_BadPlace)))
    (xt_BadPlace : PySem.W.typeIn K (.ref i_BadPlace) = some (.type "function"))
    (xk_BadPlace : PySem.W.keepIn K (.ref C_BadPlace) = true)
    (xe_BadPlace : PySem.W.subIn K (.ref C_BadPlace) (.type "BaseException") = some true)
    (xv_BadPlace : PySem.W.subIn K (.ref C_BadPlace) (.type "ValueError") = some true)
    (xm_BadPlace : PySem.W.mroIn K C_BadPlace (.ref C_BadPlace) = some true)
    (xy_BadPlace : PySem.W.typeIn K (.ref C_BadPlace) = some (.type "type"))
    (xh_BadPlace : PySem.W.hasDictIn K C_BadPlace = true)
    (xs_BadPlace : PySem.W.ks_superIn K C_BadPlace C_BadPlace "__init__" = some (some (.builtin "ValueError.__init__")))
    (xa_BadPlace : PySem.W.findIn K (.ref C_BadPlace) "__class__" = some (some (.builtin "object.__class__")))
    (xo_BadPlace : PySem.W.mroIn K C_BadPlace (.type "object") = some true)
    (xl_BadPlace : K.lookup i_BadPlace = some ⟨xoc_BadPlace, xod_BadPlace, .func (PySem.W.ksFn "__init__" xq_BadPlace (OwnErr.eA "place" p0_BadPlace p1_BadPlace) (OwnErr.eB "place" msg_BadPlace p2_BadPlace p3_BadPlace p4_BadPlace p5_BadPlace p6_BadPlace p7_BadPlace p8_BadPlace p9_BadPlace p10_BadPlace p11_BadPlace) (OwnErr.eS "place") .none xkV_BadPlace xdc_BadPlace xpm_BadPlace xan_BadPlace (.ref cda_BadPlace) xct_BadPlace cc_BadPlace), xsl_BadPlace⟩)
    (xc_BadPlace : PySem.W.codeIn K (.ref cda_BadPlace) xq_BadPlace = true)
    (xd_BadPlace : K.lookup cda_BadPlace = some ⟨ccl_BadPlace, cdd_BadPlace, .fields vs_BadPlace, ccs_BadPlace⟩)
    (xf_BadPlace : vs_BadPlace[2]? = some (.str PySem.Challenge.pw_roomsfit_k31_split_and_join.main.file tf_BadPlace))
    (xp_BadPlace : (p4_BadPlace.endLine == p6_BadPlace.line) = true)
    (xcc_BadPlace : K.lookup cc_BadPlace = some ⟨cl_BadPlace, cld_BadPlace, .cell (some (.ref C_BadPlace)), csl_BadPlace⟩)
    (xL_NotJoined : K.lookup C_NotJoined = some (excClassObj nm_NotJoined q_NotJoined C_NotJoined N_NotJoined bs_NotJoined bm_NotJoined true sn_NotJoined sub_NotJoined ab_NotJoined col_NotJoined dd_NotJoined k0_NotJoined k1_NotJoined k2_NotJoined k3_NotJoined k5_NotJoined "ValueError.__new__"))
    (xb_NotJoined : HandSPX.refsVE bm_NotJoined = true)
    (xsa_NotJoined : PySem.W.findIn K (.ref C_NotJoined) "__setattr__" = some (some (.builtin "object.__setattr__")))
    (xga_NotJoined : PySem.W.findIn K (.ref C_NotJoined) "__getattribute__" = some (some (.builtin "BaseException.__getattribute__")))
    (xgg_NotJoined : PySem.W.findIn K (.ref C_NotJoined) "__getattr__" = some none)
    (xn_NotJoined : PySem.W.findIn K (.ref C_NotJoined) "pair" = some none)
    (xi_NotJoined : PySem.W.findIn K (.ref C_NotJoined) "__init__" = some (some (.ref i_NotJoined)))
    (xt_NotJoined : PySem.W.typeIn K (.ref i_NotJoined) = some (.type "function"))
    (xk_NotJoined : PySem.W.keepIn K (.ref C_NotJoined) = true)
    (xe_NotJoined : PySem.W.subIn K (.ref C_NotJoined) (.type "BaseException") = some true)
    (xv_NotJoined : PySem.W.subIn K (.ref C_NotJoined) (.type "ValueError") = some true)
    (xm_NotJoined : PySem.W.mroIn K C_NotJoined (.ref C_NotJoined) = some true)
    (xy_NotJoined : PySem.W.typeIn K (.ref C_NotJoined) = some (.type "type"))
    (xh_NotJoined : PySem.W.hasDictIn K C_NotJoined = true)
    (xs_NotJoined : PySem.W.ks_superIn K C_NotJoined C_NotJoined "__init__" = some (some (.builtin "ValueError.__init__")))
    (xa_NotJoined : PySem.W.findIn K (.ref C_NotJoined) "__class__" = some (some (.builtin "object.__class__")))
    (xo_NotJoined : PySem.W.mroIn K C_NotJoined (.type "object") = some true)
    (xl_NotJoined : K.lookup i_NotJoined = some ⟨xoc_NotJoined, xod_NotJoined, .func (PySem.W.ksFn "__init__" xq_NotJoined (OwnErr.eA "pair" p0_NotJoined p1_NotJoined) (OwnErr.eB "pair" msg_NotJoined p2_NotJoined p3_NotJoined p4_NotJoined p5_NotJoined p6_NotJoined p7_NotJoined p8_NotJoined p9_NotJoined p10_NotJoined p11_NotJoined) (OwnErr.eS "pair") .none xkV_NotJoined xdc_NotJoined xpm_NotJoined xan_NotJoined (.ref cda_NotJoined) xct_NotJoined cc_NotJoined), xsl_NotJoined⟩)
    (xc_NotJoined : PySem.W.codeIn K (.ref cda_NotJoined) xq_NotJoined = true)
    (xd_NotJoined : K.lookup cda_NotJoined = some ⟨ccl_NotJoined, cdd_NotJoined, .fields vs_NotJoined, ccs_NotJoined⟩)
    (xf_NotJoined : vs_NotJoined[2]? = some (.str PySem.Challenge.pw_roomsfit_k31_split_and_join.main.file tf_NotJoined))
    (xp_NotJoined : (p4_NotJoined.endLine == p6_NotJoined.line) = true)
    (xcc_NotJoined : K.lookup cc_NotJoined = some ⟨cl_NotJoined, cld_NotJoined, .cell (some (.ref C_NotJoined)), csl_NotJoined⟩)
    (hdFE : PySem.W.hasDictIn K C_FitError = true)
    (tyFE : PySem.W.typeIn K (.ref C_FitError) = some (.type "type"))
    (tX0 : PySem.W.subIn K (.ref C_NotJoined) (.ref C_BadCount) = some false)
    (tN0 : C_NotJoined ≠ C_BadCount)
    (tX1 : PySem.W.subIn K (.ref C_NotJoined) (.ref C_BadFloor) = some false)
    (tN1 : C_NotJoined ≠ C_BadFloor)
    (tX2 : PySem.W.subIn K (.ref C_NotJoined) (.ref C_BadPlace) = some false)
    (tN2 : C_NotJoined ≠ C_BadPlace)
    (tX3 : PySem.W.subIn K (.ref C_NotJoined) (.ref C_FitError) = some true)
    (tX4 : PySem.W.subIn K (.ref C_BadPlace) (.ref C_BadCount) = some false)
    (tN4 : C_BadPlace ≠ C_BadCount)
    (tX5 : PySem.W.subIn K (.ref C_BadPlace) (.ref C_BadFloor) = some false)
    (tN5 : C_BadPlace ≠ C_BadFloor)
    (tX6 : PySem.W.subIn K (.ref C_BadPlace) (.ref C_NotJoined) = some false)
    (tN6 : C_BadPlace ≠ C_NotJoined)
    (tX8 : PySem.W.subIn K (.ref C_BadCount) (.ref C_BadFloor) = some false)
    (tN8 : C_BadCount ≠ C_BadFloor)
    (tX9 : PySem.W.subIn K (.ref C_BadCount) (.ref C_NotJoined) = some false)
    (tN9 : C_BadCount ≠ C_NotJoined)
    (tX10 : PySem.W.subIn K (.ref C_BadCount) (.ref C_FitError) = some true)
    (tE0 : PySem.W.subIn K (.ref C_NotJoined) (.ref C_NotJoined) = some true)
    (tE1 : PySem.W.subIn K (.ref C_BadPlace) (.ref C_BadPlace) = some true)
    (tE2 : PySem.W.subIn K (.ref C_BadCount) (.ref C_BadPlace) = some false)
    (tE3 : PySem.W.subIn K (.ref C_BadCount) (.ref C_BadCount) = some true)
    : ∃ D : Defs, Txt PySem.Challenge.pw_roomsfit_k31_split_and_join K mg D ∧ D.f_law = f_law ∧ D.d_law = PySem.W.fnOf "law" "law" (defArgs (topS 43)) (defBody (topS 43)) (defScope (topS 43)) .none kV_law dc_law pm_law an_law cd_law ct_law := by
  let D : Defs := { CT := ctOf C_FitError C_BadCount C_BadFloor C_BadPlace C_NotJoined C_Floor, f_overlap := f_overlap, d_overlap := PySem.W.fnOf "overlap" "overlap" (defArgs (topS 9)) (defBody (topS 9)) (defScope (topS 9)) .none kV_overlap dc_overlap pm_overlap an_overlap cd_overlap ct_overlap, f_Floor___len__ := f_Floor___len__, d_Floor___len__ := PySem.W.fnOf "__len__" "Floor.__len__" (defArgs (metS 14 1)) (defBody (metS 14 1)) (defScope (metS 14 1)) .none kV_Floor___len__ dc_Floor___len__ pm_Floor___len__ an_Floor___len__ cd_Floor___len__ ct_Floor___len__, f_Floor___iter__ := f_Floor___iter__, d_Floor___iter__ := PySem.W.fnOf "__iter__" "Floor.__iter__" (defArgs (metS 14 2)) (defBody (metS 14 2)) (defScope (metS 14 2)) .none kV_Floor___iter__ dc_Floor___iter__ pm_Floor___iter__ an_Floor___iter__ cd_Floor___iter__ ct_Floor___iter__, f_Floor___eq__ := f_Floor___eq__, d_Floor___eq__ := PySem.W.fnOf "__eq__" "Floor.__eq__" (defArgs (metS 14 3)) (defBody (metS 14 3)) (defScope (metS 14 3)) .none kV_Floor___eq__ dc_Floor___eq__ pm_Floor___eq__ an_Floor___eq__ cd_Floor___eq__ ct_Floor___eq__, f_Floor_room := f_Floor_room, d_Floor_room := PySem.W.fnOf "room" "Floor.room" (defArgs (metS 14 4)) (defBody (metS 14 4)) (defScope (metS 14 4)) .none kV_Floor_room dc_Floor_room pm_Floor_room an_Floor_room cd_Floor_room ct_Floor_room, f_union_of := f_union_of, d_union_of := PySem.W.fnOf "union_of" "union_of" (defArgs (topS 16)) (defBody (topS 16)) (defScope (topS 16)) .none kV_union_of dc_union_of pm_union_of an_union_of cd_union_of ct_union_of, f__law_int := f__law_int, d__law_int := PySem.W.fnOf "_law_int" "_law_int" (defArgs (topS 21)) (defBody (topS 21)) (defScope (topS 21)) .none kV__law_int dc__law_int pm__law_int an__law_int cd__law_int ct__law_int, f__law_state := f__law_state, d__law_state := PySem.W.fnOf "_law_state" "_law_state" (defArgs (topS 23)) (defBody (topS 23)) (defScope (topS 23)) .none kV__law_state dc__law_state pm__law_state an__law_state cd__law_state ct__law_state, f__law_next := f__law_next, d__law_next := PySem.W.fnOf "_law_next" "_law_next" (defArgs (topS 24)) (defBody (topS 24)) (defScope (topS 24)) .none kV__law_next dc__law_next pm__law_next an__law_next cd__law_next ct__law_next, f__law_over := f__law_over, d__law_over := PySem.W.fnOf "_law_over" "_law_over" (defArgs (topS 25)) (defBody (topS 25)) (defScope (topS 25)) .none kV__law_over dc__law_over pm__law_over an__law_over cd__law_over ct__law_over, f__law_union := f__law_union, d__law_union := PySem.W.fnOf "_law_union" "_law_union" (defArgs (topS 34)) (defBody (topS 34)) (defScope (topS 34)) .none kV__law_union dc__law_union pm__law_union an__law_union cd__law_union ct__law_union, f__law_parts := f__law_parts, d__law_parts := PySem.W.fnOf "_law_parts" "_law_parts" (defArgs (topS 38)) (defBody (topS 38)) (defScope (topS 38)) .none kV__law_parts dc__law_parts pm__law_parts an__law_parts cd__law_parts ct__law_parts, f_check_rooms := f_check_rooms, d_check_rooms := PySem.W.fnOf "check_rooms" "check_rooms" (defArgs (topS 8)) (defBody (topS 8)) (defScope (topS 8)) .none kV_check_rooms dc_check_rooms pm_check_rooms an_check_rooms cd_check_rooms ct_check_rooms, f_room_fault := f_room_fault, d_room_fault := PySem.W.fnOf "room_fault" "room_fault" (defArgs (topS 12)) (defBody (topS 12)) (defScope (topS 12)) .none kV_room_fault dc_room_fault pm_room_fault an_room_fault cd_room_fault ct_room_fault, f__law_ints := f__law_ints, d__law_ints := PySem.W.fnOf "_law_ints" "_law_ints" (defArgs (topS 22)) (defBody (topS 22)) (defScope (topS 22)) .none kV__law_ints dc__law_ints pm__law_ints an__law_ints cd__law_ints ct__law_ints, f__law_push := f__law_push, d__law_push := PySem.W.fnOf "_law_push" "_law_push" (defArgs (topS 26)) (defBody (topS 26)) (defScope (topS 26)) .none kV__law_push dc__law_push pm__law_push an__law_push cd__law_push ct__law_push, f__law_border := f__law_border, d__law_border := PySem.W.fnOf "_law_border" "_law_border" (defArgs (topS 27)) (defBody (topS 27)) (defScope (topS 27)) .none kV__law_border dc__law_border pm__law_border an__law_border cd__law_border ct__law_border, f__law_order := f__law_order, d__law_order := PySem.W.fnOf "_law_order" "_law_order" (defArgs (topS 31)) (defBody (topS 31)) (defScope (topS 31)) .none kV__law_order dc__law_order pm__law_order an__law_order cd__law_order ct__law_order, f__law_unions := f__law_unions, d__law_unions := PySem.W.fnOf "_law_unions" "_law_unions" (defArgs (topS 35)) (defBody (topS 35)) (defScope (topS 35)) .none kV__law_unions dc__law_unions pm__law_unions an__law_unions cd__law_unions ct__law_unions, f__law_together := f__law_together, d__law_together := PySem.W.fnOf "_law_together" "_law_together" (defArgs (topS 36)) (defBody (topS 36)) (defScope (topS 36)) .none kV__law_together dc__law_together pm__law_together an__law_together cd__law_together ct__law_together, f_floor_fault := f_floor_fault, d_floor_fault := PySem.W.fnOf "floor_fault" "floor_fault" (defArgs (topS 13)) (defBody (topS 13)) (defScope (topS 13)) .none kV_floor_fault dc_floor_fault pm_floor_fault an_floor_fault cd_floor_fault ct_floor_fault, f__law_slide := f__law_slide, d__law_slide := PySem.W.fnOf "_law_slide" "_law_slide" (defArgs (topS 28)) (defBody (topS 28)) (defScope (topS 28)) .none kV__law_slide dc__law_slide pm__law_slide an__law_slide cd__law_slide ct__law_slide, f_Floor___init__ := f_Floor___init__, d_Floor___init__ := PySem.W.fnOf "__init__" "Floor.__init__" (defArgs (metS 14 0)) (defBody (metS 14 0)) (defScope (metS 14 0)) .none kV_Floor___init__ dc_Floor___init__ pm_Floor___init__ an_Floor___init__ cd_Floor___init__ ct_Floor___init__, f__law_floor := f__law_floor, d__law_floor := PySem.W.fnOf "_law_floor" "_law_floor" (defArgs (topS 30)) (defBody (topS 30)) (defScope (topS 30)) .none kV__law_floor dc__law_floor pm__law_floor an__law_floor cd__law_floor ct__law_floor, f_joinable := f_joinable, d_joinable := PySem.W.fnOf "joinable" "joinable" (defArgs (topS 19)) (defBody (topS 19)) (defScope (topS 19)) .none kV_joinable dc_joinable pm_joinable an_joinable cd_joinable ct_joinable, f__law_drawn := f__law_drawn, d__law_drawn := PySem.W.fnOf "_law_drawn" "_law_drawn" (defArgs (topS 32)) (defBody (topS 32)) (defScope (topS 32)) .none kV__law_drawn dc__law_drawn pm__law_drawn an__law_drawn cd__law_drawn ct__law_drawn, f__law_is := f__law_is, d__law_is := PySem.W.fnOf "_law_is" "_law_is" (defArgs (topS 33)) (defBody (topS 33)) (defScope (topS 33)) .none kV__law_is dc__law_is pm__law_is an__law_is cd__law_is ct__law_is, f_split_room := f_split_room, d_split_room := PySem.W.fnOf "split_room" "split_room" (defArgs (topS 17)) (defBody (topS 17)) (defScope (topS 17)) .none kV_split_room dc_split_room pm_split_room an_split_room cd_split_room ct_split_room, f_join_rooms := f_join_rooms, d_join_rooms := PySem.W.fnOf "join_rooms" "join_rooms" (defArgs (topS 18)) (defBody (topS 18)) (defScope (topS 18)) .none kV_join_rooms dc_join_rooms pm_join_rooms an_join_rooms cd_join_rooms ct_join_rooms, f__law_listed := f__law_listed, d__law_listed := PySem.W.fnOf "_law_listed" "_law_listed" (defArgs (topS 41)) (defBody (topS 41)) (defScope (topS 41)) .none kV__law_listed dc__law_listed pm__law_listed an__law_listed cd__law_listed ct__law_listed, f__law_join := f__law_join, d__law_join := PySem.W.fnOf "_law_join" "_law_join" (defArgs (topS 37)) (defBody (topS 37)) (defScope (topS 37)) .none kV__law_join dc__law_join pm__law_join an__law_join cd__law_join ct__law_join, f__law_split := f__law_split, d__law_split := PySem.W.fnOf "_law_split" "_law_split" (defArgs (topS 39)) (defBody (topS 39)) (defScope (topS 39)) .none kV__law_split dc__law_split pm__law_split an__law_split cd__law_split ct__law_split, f__law_back := f__law_back, d__law_back := PySem.W.fnOf "_law_back" "_law_back" (defArgs (topS 40)) (defBody (topS 40)) (defScope (topS 40)) .none kV__law_back dc__law_back pm__law_back an__law_back cd__law_back ct__law_back, f__law_apart := f__law_apart, d__law_apart := PySem.W.fnOf "_law_apart" "_law_apart" (defArgs (topS 42)) (defBody (topS 42)) (defScope (topS 42)) .none kV__law_apart dc__law_apart pm__law_apart an__law_apart cd__law_apart ct__law_apart, f_law := f_law, d_law := PySem.W.fnOf "law" "law" (defArgs (topS 43)) (defBody (topS 43)) (defScope (topS 43)) .none kV_law dc_law pm_law an_law cd_law ct_law, i_BadCount := i_BadCount, i_BadFloor := i_BadFloor, i_BadPlace := i_BadPlace, i_NotJoined := i_NotJoined, t_MOST_ROOMS_tools := t_MOST_ROOMS_tools, t_MOST_ROOMS_floors := t_MOST_ROOMS_floors }
  have ct_FitError : D.CT "FitError" = C_FitError := by
    show ctOf C_FitError C_BadCount C_BadFloor C_BadPlace C_NotJoined C_Floor "FitError" = _
    unfold ctOf
    rw [if_pos (rfl : _ = _)]
  have ct_BadCount : D.CT "BadCount" = C_BadCount := by
    show ctOf C_FitError C_BadCount C_BadFloor C_BadPlace C_NotJoined C_Floor "BadCount" = _
    unfold ctOf
    rw [if_neg (by decide), if_pos (rfl : _ = _)]
  have ct_BadFloor : D.CT "BadFloor" = C_BadFloor := by
    show ctOf C_FitError C_BadCount C_BadFloor C_BadPlace C_NotJoined C_Floor "BadFloor" = _
    unfold ctOf
    rw [if_neg (by decide), if_neg (by decide), if_pos (rfl : _ = _)]
  have ct_BadPlace : D.CT "BadPlace" = C_BadPlace := by
    show ctOf C_FitError C_BadCount C_BadFloor C_BadPlace C_NotJoined C_Floor "BadPlace" = _
    unfold ctOf
    rw [if_neg (by decide), if_neg (by decide), if_neg (by decide), if_pos (rfl : _ = _)]
  have ct_NotJoined : D.CT "NotJoined" = C_NotJoined := by
    show ctOf C_FitError C_BadCount C_BadFloor C_BadPlace C_NotJoined C_Floor "NotJoined" = _
    unfold ctOf
    rw [if_neg (by decide), if_neg (by decide), if_neg (by decide), if_neg (by decide), if_pos (rfl : _ = _)]
  have ct_Floor : D.CT "Floor" = C_Floor := by
    show ctOf C_FitError C_BadCount C_BadFloor C_BadPlace C_NotJoined C_Floor "Floor" = _
    unfold ctOf
    rw [if_neg (by decide), if_neg (by decide), if_neg (by decide), if_neg (by decide), if_neg (by decide), if_pos (rfl : _ = _)]
  refine ⟨D, ?_, rfl, rfl⟩
  exact {
    F_overlap := fun_mk (st := (topS 9)) l_overlap c_overlap k_overlap,
    b_overlap := (fun_mk (st := (topS 9)) l_overlap c_overlap k_overlap).binds fun _ _ _ _ _ _ us hl => match us, hl with | [_, _, _], _ => rfl,
    g_overlap := PySem.W.mg_of X G g_overlap,
    F_Floor___len__ := fun_mk (st := (metS 14 1)) l_Floor___len__ c_Floor___len__ k_Floor___len__,
    b_Floor___len__ := (fun_mk (st := (metS 14 1)) l_Floor___len__ c_Floor___len__ k_Floor___len__).binds fun _ _ _ _ _ _ us hl => match us, hl with | [_], _ => rfl,
    F_Floor___iter__ := fun_mk (st := (metS 14 2)) l_Floor___iter__ c_Floor___iter__ k_Floor___iter__,
    b_Floor___iter__ := (fun_mk (st := (metS 14 2)) l_Floor___iter__ c_Floor___iter__ k_Floor___iter__).binds fun _ _ _ _ _ _ us hl => match us, hl with | [_], _ => rfl,
    F_Floor___eq__ := fun_mk (st := (metS 14 3)) l_Floor___eq__ c_Floor___eq__ k_Floor___eq__,
    b_Floor___eq__ := (fun_mk (st := (metS 14 3)) l_Floor___eq__ c_Floor___eq__ k_Floor___eq__).binds fun _ _ _ _ _ _ us hl => match us, hl with | [_, _], _ => rfl,
    F_Floor_room := fun_mk (st := (metS 14 4)) l_Floor_room c_Floor_room k_Floor_room,
    b_Floor_room := (fun_mk (st := (metS 14 4)) l_Floor_room c_Floor_room k_Floor_room).binds fun _ _ _ _ _ _ us hl => match us, hl with | [_, _], _ => rfl,
    F_union_of := fun_mk (st := (topS 16)) l_union_of c_union_of k_union_of,
    b_union_of := (fun_mk (st := (topS 16)) l_union_of c_union_of k_union_of).binds fun _ _ _ _ _ _ us hl => match us, hl with | [_, _], _ => rfl,
    g_union_of := PySem.W.mg_of X G g_union_of,
    F__law_int := fun_mk (st := (topS 21)) l__law_int c__law_int k__law_int,
    b__law_int := (fun_mk (st := (topS 21)) l__law_int c__law_int k__law_int).binds fun _ _ _ _ _ _ us hl => match us, hl with | [_], _ => rfl,
    g__law_int := PySem.W.mg_of X G g__law_int,
    F__law_state := fun_mk (st := (topS 23)) l__law_state c__law_state k__law_state,
    b__law_state := (fun_mk (st := (topS 23)) l__law_state c__law_state k__law_state).binds fun _ _ _ _ _ _ us hl => match us, hl with | [_, _], _ => rfl,
    g__law_state := PySem.W.mg_of X G g__law_state,
    F__law_next := fun_mk (st := (topS 24)) l__law_next c__law_next k__law_next,
    b__law_next := (fun_mk (st := (topS 24)) l__law_next c__law_next k__law_next).binds fun _ _ _ _ _ _ us hl => match us, hl with | [_, _], _ => rfl,
    g__law_next := PySem.W.mg_of X G g__law_next,
    F__law_over := fun_mk (st := (topS 25)) l__law_over c__law_over k__law_over,
    b__law_over := (fun_mk (st := (topS 25)) l__law_over c__law_over k__law_over).binds fun _ _ _ _ _ _ us hl => match us, hl with | [_, _, _], _ => rfl,
    g__law_over := PySem.W.mg_of X G g__law_over,
    F__law_union := fun_mk (st := (topS 34)) l__law_union c__law_union k__law_union,
    b__law_union := (fun_mk (st := (topS 34)) l__law_union c__law_union k__law_union).binds fun _ _ _ _ _ _ us hl => match us, hl with | [_, _], _ => rfl,
    g__law_union := PySem.W.mg_of X G g__law_union,
    F__law_parts := fun_mk (st := (topS 38)) l__law_parts c__law_parts k__law_parts,
    b__law_parts := (fun_mk (st := (topS 38)) l__law_parts c__law_parts k__law_parts).binds fun _ _ _ _ _ _ us hl => match us, hl with | [_, _, _, _], _ => rfl,
    g__law_parts := PySem.W.mg_of X G g__law_parts,
    F_check_rooms := fun_mk (st := (topS 8)) l_check_rooms c_check_rooms k_check_rooms,
    b_check_rooms := (fun_mk (st := (topS 8)) l_check_rooms c_check_rooms k_check_rooms).binds fun _ _ _ _ _ _ us hl => match us, hl with | [_], _ => rfl,
    g_check_rooms := PySem.W.mg_of X G g_check_rooms,
    F_room_fault := fun_mk (st := (topS 12)) l_room_fault c_room_fault k_room_fault,
    b_room_fault := (fun_mk (st := (topS 12)) l_room_fault c_room_fault k_room_fault).binds fun _ _ _ _ _ _ us hl => match us, hl with | [_, _, _, _], _ => rfl,
    g_room_fault := PySem.W.mg_of X G g_room_fault,
    F__law_ints := fun_mk (st := (topS 22)) l__law_ints c__law_ints k__law_ints,
    b__law_ints := (fun_mk (st := (topS 22)) l__law_ints c__law_ints k__law_ints).binds fun _ _ _ _ _ _ us hl => match us, hl with | [_], _ => rfl,
    g__law_ints := PySem.W.mg_of X G g__law_ints,
    F__law_push := fun_mk (st := (topS 26)) l__law_push c__law_push k__law_push,
    b__law_push := (fun_mk (st := (topS 26)) l__law_push c__law_push k__law_push).binds fun _ _ _ _ _ _ us hl => match us, hl with | [_, _, _], _ => rfl,
    g__law_push := PySem.W.mg_of X G g__law_push,
    F__law_border := fun_mk (st := (topS 27)) l__law_border c__law_border k__law_border,
    b__law_border := (fun_mk (st := (topS 27)) l__law_border c__law_border k__law_border).binds fun _ _ _ _ _ _ us hl => match us, hl with | [_, _, _], _ => rfl,
    g__law_border := PySem.W.mg_of X G g__law_border,
    F__law_order := fun_mk (st := (topS 31)) l__law_order c__law_order k__law_order,
    b__law_order := (fun_mk (st := (topS 31)) l__law_order c__law_order k__law_order).binds fun _ _ _ _ _ _ us hl => match us, hl with | [_, _], _ => rfl,
    g__law_order := PySem.W.mg_of X G g__law_order,
    F__law_unions := fun_mk (st := (topS 35)) l__law_unions c__law_unions k__law_unions,
    b__law_unions := (fun_mk (st := (topS 35)) l__law_unions c__law_unions k__law_unions).binds fun _ _ _ _ _ _ us hl => match us, hl with | [_], _ => rfl,
    g__law_unions := PySem.W.mg_of X G g__law_unions,
    F__law_together := fun_mk (st := (topS 36)) l__law_together c__law_together k__law_together,
    b__law_together := (fun_mk (st := (topS 36)) l__law_together c__law_together k__law_together).binds fun _ _ _ _ _ _ us hl => match us, hl with | [_, _, _], _ => rfl,
    g__law_together := PySem.W.mg_of X G g__law_together,
    F_floor_fault := fun_mk (st := (topS 13)) l_floor_fault c_floor_fault k_floor_fault,
    b_floor_fault := (fun_mk (st := (topS 13)) l_floor_fault c_floor_fault k_floor_fault).binds fun _ _ _ _ _ _ us hl => match us, hl with | [_, _, _], _ => rfl,
    g_floor_fault := PySem.W.mg_of X G g_floor_fault,
    F__law_slide := fun_mk (st := (topS 28)) l__law_slide c__law_slide k__law_slide,
    b__law_slide := (fun_mk (st := (topS 28)) l__law_slide c__law_slide k__law_slide).binds fun _ _ _ _ _ _ us hl => match us, hl with | [_, _, _], _ => rfl,
    g__law_slide := PySem.W.mg_of X G g__law_slide,
    F_Floor___init__ := fun_mk (st := (metS 14 0)) l_Floor___init__ c_Floor___init__ k_Floor___init__,
    b_Floor___init__ := (fun_mk (st := (metS 14 0)) l_Floor___init__ c_Floor___init__ k_Floor___init__).binds fun _ _ _ _ _ _ us hl => match us, hl with | [_, _, _, _], _ => rfl,
    F__law_floor := fun_mk (st := (topS 30)) l__law_floor c__law_floor k__law_floor,
    b__law_floor := (fun_mk (st := (topS 30)) l__law_floor c__law_floor k__law_floor).binds fun _ _ _ _ _ _ us hl => match us, hl with | [_, _, _, _], _ => rfl,
    g__law_floor := PySem.W.mg_of X G g__law_floor,
    F_joinable := fun_mk (st := (topS 19)) l_joinable c_joinable k_joinable,
    b_joinable := (fun_mk (st := (topS 19)) l_joinable c_joinable k_joinable).binds fun _ _ _ _ _ _ us hl => match us, hl with | [_], _ => rfl,
    g_joinable := PySem.W.mg_of X G g_joinable,
    F__law_drawn := fun_mk (st := (topS 32)) l__law_drawn c__law_drawn k__law_drawn,
    b__law_drawn := (fun_mk (st := (topS 32)) l__law_drawn c__law_drawn k__law_drawn).binds fun _ _ _ _ _ _ us hl => match us, hl with | [_], _ => rfl,
    g__law_drawn := PySem.W.mg_of X G g__law_drawn,
    F__law_is := fun_mk (st := (topS 33)) l__law_is c__law_is k__law_is,
    b__law_is := (fun_mk (st := (topS 33)) l__law_is c__law_is k__law_is).binds fun _ _ _ _ _ _ us hl => match us, hl with | [_, _, _], _ => rfl,
    g__law_is := PySem.W.mg_of X G g__law_is,
    F_split_room := fun_mk (st := (topS 17)) l_split_room c_split_room k_split_room,
    b_split_room := (fun_mk (st := (topS 17)) l_split_room c_split_room k_split_room).binds fun _ _ _ _ _ _ us hl => match us, hl with | [_, _, _, _], _ => rfl,
    g_split_room := PySem.W.mg_of X G g_split_room,
    F_join_rooms := fun_mk (st := (topS 18)) l_join_rooms c_join_rooms k_join_rooms,
    b_join_rooms := (fun_mk (st := (topS 18)) l_join_rooms c_join_rooms k_join_rooms).binds fun _ _ _ _ _ _ us hl => match us, hl with | [_, _, _], _ => rfl,
    g_join_rooms := PySem.W.mg_of X G g_join_rooms,
    F__law_listed := fun_mk (st := (topS 41)) l__law_listed c__law_listed k__law_listed,
    b__law_listed := (fun_mk (st := (topS 41)) l__law_listed c__law_listed k__law_listed).binds fun _ _ _ _ _ _ us hl => match us, hl with | [_, _], _ => rfl,
    g__law_listed := PySem.W.mg_of X G g__law_listed,
    F__law_join := fun_mk (st := (topS 37)) l__law_join c__law_join k__law_join,
    b__law_join := (fun_mk (st := (topS 37)) l__law_join c__law_join k__law_join).binds fun _ _ _ _ _ _ us hl => match us, hl with | [_, _, _, _, _], _ => rfl,
    g__law_join := PySem.W.mg_of X G g__law_join,
    F__law_split := fun_mk (st := (topS 39)) l__law_split c__law_split k__law_split,
    b__law_split := (fun_mk (st := (topS 39)) l__law_split c__law_split k__law_split).binds fun _ _ _ _ _ _ us hl => match us, hl with | [_, _, _, _, _, _], _ => rfl,
    g__law_split := PySem.W.mg_of X G g__law_split,
    F__law_back := fun_mk (st := (topS 40)) l__law_back c__law_back k__law_back,
    b__law_back := (fun_mk (st := (topS 40)) l__law_back c__law_back k__law_back).binds fun _ _ _ _ _ _ us hl => match us, hl with | [_, _, _, _, _, _], _ => rfl,
    g__law_back := PySem.W.mg_of X G g__law_back,
    F__law_apart := fun_mk (st := (topS 42)) l__law_apart c__law_apart k__law_apart,
    b__law_apart := (fun_mk (st := (topS 42)) l__law_apart c__law_apart k__law_apart).binds fun _ _ _ _ _ _ us hl => match us, hl with | [_, _, _, _], _ => rfl,
    g__law_apart := PySem.W.mg_of X G g__law_apart,
    F_law := fun_mk (st := (topS 43)) l_law c_law k_law,
    b_law := (fun_mk (st := (topS 43)) l_law c_law k_law).binds fun _ _ _ _ _ _ us hl => match us, hl with | [_], _ => rfl,
    g_law := PySem.W.mg_of X G g_law,
    n_len := PySem.W.mg_none_of X G n_len,
    n_abs := PySem.W.mg_none_of X G n_abs,
    n_int := PySem.W.mg_none_of X G n_int,
    n_max := PySem.W.mg_none_of X G n_max,
    n_min := PySem.W.mg_none_of X G n_min,
    n_sorted := PySem.W.mg_none_of X G n_sorted,
    n_list := PySem.W.mg_none_of X G n_list,
    n_tuple := PySem.W.mg_none_of X G n_tuple,
    n_isinstance := PySem.W.mg_none_of X G n_isinstance,
    n_range := PySem.W.mg_none_of X G n_range,
    n_enumerate := PySem.W.mg_none_of X G n_enumerate,
    n_bool := PySem.W.mg_none_of X G n_bool,
    n_iter := PySem.W.mg_none_of X G n_iter,
    n_ValueError := PySem.W.mg_none_of X G n_ValueError,
    k_MOST_ROOMS_tools := PySem.W.mg_of X G gk_MOST_ROOMS_tools,
    k_MOST_ROOMS_floors := PySem.W.mg_of X G gk_MOST_ROOMS_floors,
    g_FitError := by rw [ct_FitError]; exact PySem.W.mg_of X G gc_FitError,
    g_BadCount := by rw [ct_BadCount]; exact PySem.W.mg_of X G gc_BadCount,
    g_BadFloor := by rw [ct_BadFloor]; exact PySem.W.mg_of X G gc_BadFloor,
    g_BadPlace := by rw [ct_BadPlace]; exact PySem.W.mg_of X G gc_BadPlace,
    g_NotJoined := by rw [ct_NotJoined]; exact PySem.W.mg_of X G gc_NotJoined,
    g_Floor := by rw [ct_Floor]; exact PySem.W.mg_of X G gc_Floor,
    e_BadCount := by rw [ct_BadCount]; exact err_mk xL_BadCount xb_BadCount xsa_BadCount xga_BadCount xgg_BadCount xn_BadCount xi_BadCount xt_BadCount xk_BadCount xe_BadCount xv_BadCount xm_BadCount xy_BadCount xh_BadCount n_super noO xs_BadCount xl_BadCount xc_BadCount xd_BadCount xf_BadCount xp_BadCount xcc_BadCount,
    e_BadFloor := by rw [ct_BadFloor]; exact err_mk xL_BadFloor xb_BadFloor xsa_BadFloor xga_BadFloor xgg_BadFloor xn_BadFloor xi_BadFloor xt_BadFloor xk_BadFloor xe_BadFloor xv_BadFloor xm_BadFloor xy_BadFloor xh_BadFloor n_super noO xs_BadFloor xl_BadFloor xc_BadFloor xd_BadFloor xf_BadFloor xp_BadFloor xcc_BadFloor,
    e_BadPlace := by rw [ct_BadPlace]; exact err_mk xL_BadPlace xb_BadPlace xsa_BadPlace xga_BadPlace xgg_BadPlace xn_BadPlace xi_BadPlace xt_BadPlace xk_BadPlace xe_BadPlace xv_BadPlace xm_BadPlace xy_BadPlace xh_BadPlace n_super noO xs_BadPlace xl_BadPlace xc_BadPlace xd_BadPlace xf_BadPlace xp_BadPlace xcc_BadPlace,
    e_NotJoined := by rw [ct_NotJoined]; exact err_mk xL_NotJoined xb_NotJoined xsa_NotJoined xga_NotJoined xgg_NotJoined xn_NotJoined xi_NotJoined xt_NotJoined xk_NotJoined xe_NotJoined xv_NotJoined xm_NotJoined xy_NotJoined xh_NotJoined n_super noO xs_NotJoined xl_NotJoined xc_NotJoined xd_NotJoined xf_NotJoined xp_NotJoined xcc_NotJoined,
    eqC := by rw [ct_Floor]; exact g_Floor___eq__,
    eqF := i_Floor___eq__,
    lenC := by rw [ct_Floor]; exact g_Floor___len__,
    lenF := i_Floor___len__,
    itC := by rw [ct_Floor]; exact g_Floor___iter__,
    itF := i_Floor___iter__,
    clO := by rw [ct_Floor]; exact ⟨pgO, hdO, poO, saO⟩,
    mkO := by rw [ct_Floor]; exact ⟨mkO, g_Floor___init__, i_Floor___init__, kpO⟩,
    mt_room := by rw [ct_Floor]; exact ⟨g_Floor_room, i_Floor_room, k_Floor_room⟩,
    fl__rooms := fun c hc => by rw [List.mem_singleton.mp hc, ct_Floor]; exact ⟨⟨pgO, hdO, poO, saO⟩, na__rooms⟩,
    fl_height := fun c hc => by rw [List.mem_singleton.mp hc, ct_Floor]; exact ⟨⟨pgO, hdO, poO, saO⟩, na_height⟩,
    fl_width := fun c hc => by rw [List.mem_singleton.mp hc, ct_Floor]; exact ⟨⟨pgO, hdO, poO, saO⟩, na_width⟩,
    tI := ⟨fun x hx => by
      simp only [tabI, List.mem_cons, List.not_mem_nil, or_false] at hx
      rcases hx with rfl | rfl | rfl | rfl | rfl
      · simpa only [Tag.val, LY, ct_FitError, ct_BadCount, ct_BadFloor, ct_BadPlace, ct_NotJoined, ct_Floor] using kit_ty (K := K) (by rfl)
      · simpa only [Tag.val, LY, ct_FitError, ct_BadCount, ct_BadFloor, ct_BadPlace, ct_NotJoined, ct_Floor] using kit_ty (K := K) (by rfl)
      · simpa only [Tag.val, LY, ct_FitError, ct_BadCount, ct_BadFloor, ct_BadPlace, ct_NotJoined, ct_Floor] using kit_ty (K := K) (by rfl)
      · simpa only [Tag.val, LY, ct_FitError, ct_BadCount, ct_BadFloor, ct_BadPlace, ct_NotJoined, ct_Floor] using kit_ty (K := K) (by rfl)
      · simpa only [Tag.val, LY, ct_FitError, ct_BadCount, ct_BadFloor, ct_BadPlace, ct_NotJoined, ct_Floor] using kit_same (K := K) C_Floor⟩,
    tX := ⟨fun x hx => by
      simp only [tabX, List.mem_cons, List.not_mem_nil, or_false] at hx
      rcases hx with rfl | rfl | rfl | rfl | rfl | rfl | rfl | rfl | rfl | rfl | rfl
      · simpa only [Tag.val, LY, ct_FitError, ct_BadCount, ct_BadFloor, ct_BadPlace, ct_NotJoined, ct_Floor] using kit_ref xh_BadCount xy_BadCount tX0 (fun _ => tN0)
      · simpa only [Tag.val, LY, ct_FitError, ct_BadCount, ct_BadFloor, ct_BadPlace, ct_NotJoined, ct_Floor] using kit_ref xh_BadFloor xy_BadFloor tX1 (fun _ => tN1)
      · simpa only [Tag.val, LY, ct_FitError, ct_BadCount, ct_BadFloor, ct_BadPlace, ct_NotJoined, ct_Floor] using kit_ref xh_BadPlace xy_BadPlace tX2 (fun _ => tN2)
      · simpa only [Tag.val, LY, ct_FitError, ct_BadCount, ct_BadFloor, ct_BadPlace, ct_NotJoined, ct_Floor] using kit_ref hdFE tyFE tX3 (fun z => nomatch z)
      · simpa only [Tag.val, LY, ct_FitError, ct_BadCount, ct_BadFloor, ct_BadPlace, ct_NotJoined, ct_Floor] using kit_ref xh_BadCount xy_BadCount tX4 (fun _ => tN4)
      · simpa only [Tag.val, LY, ct_FitError, ct_BadCount, ct_BadFloor, ct_BadPlace, ct_NotJoined, ct_Floor] using kit_ref xh_BadFloor xy_BadFloor tX5 (fun _ => tN5)
      · simpa only [Tag.val, LY, ct_FitError, ct_BadCount, ct_BadFloor, ct_BadPlace, ct_NotJoined, ct_Floor] using kit_ref xh_NotJoined xy_NotJoined tX6 (fun _ => tN6)
      · simpa only [Tag.val, LY, ct_FitError, ct_BadCount, ct_BadFloor, ct_BadPlace, ct_NotJoined, ct_Floor] using kit_refT (by decide) xv_BadPlace
      · simpa only [Tag.val, LY, ct_FitError, ct_BadCount, ct_BadFloor, ct_BadPlace, ct_NotJoined, ct_Floor] using kit_ref xh_BadFloor xy_BadFloor tX8 (fun _ => tN8)
      · simpa only [Tag.val, LY, ct_FitError, ct_BadCount, ct_BadFloor, ct_BadPlace, ct_NotJoined, ct_Floor] using kit_ref xh_NotJoined xy_NotJoined tX9 (fun _ => tN9)
      · simpa only [Tag.val, LY, ct_FitError, ct_BadCount, ct_BadFloor, ct_BadPlace, ct_NotJoined, ct_Floor] using kit_ref hdFE tyFE tX10 (fun z => nomatch z)⟩,
    tE := ⟨fun x hx => by
      simp only [tabE, List.mem_cons, List.not_mem_nil, or_false] at hx
      rcases hx with rfl | rfl | rfl | rfl
      · simpa only [Tag.val, LY, ct_FitError, ct_BadCount, ct_BadFloor, ct_BadPlace, ct_NotJoined, ct_Floor] using PySem.W.exm_ref xe_NotJoined xh_NotJoined xy_NotJoined tE0
      · simpa only [Tag.val, LY, ct_FitError, ct_BadCount, ct_BadFloor, ct_BadPlace, ct_NotJoined, ct_Floor] using PySem.W.exm_ref xe_BadPlace xh_BadPlace xy_BadPlace tE1
      · simpa only [Tag.val, LY, ct_FitError, ct_BadCount, ct_BadFloor, ct_BadPlace, ct_NotJoined, ct_Floor] using PySem.W.exm_ref xe_BadPlace xh_BadPlace xy_BadPlace tE2
      · simpa only [Tag.val, LY, ct_FitError, ct_BadCount, ct_BadFloor, ct_BadPlace, ct_NotJoined, ct_Floor] using PySem.W.exm_ref xe_BadCount xh_BadCount xy_BadCount tE3⟩,
    ownI := fun c hc => by
      obtain ⟨u, b, hm⟩ := hc
      have e : c = "Floor" := by
        simp only [tabI, List.mem_cons, List.not_mem_nil, or_false, Prod.mk.injEq] at hm
        rcases hm with ⟨⟨h, _⟩, _⟩ | ⟨⟨h, _⟩, _⟩ | ⟨⟨h, _⟩, _⟩ | ⟨⟨h, _⟩, _⟩ | ⟨⟨h, _⟩, _⟩
        · exact nomatch h
        · exact nomatch h
        · exact nomatch h
        · exact nomatch h
        · exact Sum.inr.inj h
      rw [e]
      exact ⟨by rw [show (LY K D).CT "Floor" = C_Floor from ct_Floor]; exact ⟨pgO, hdO, poO, saO⟩, by rw [show (LY K D).CT "Floor" = C_Floor from ct_Floor]; exact haO, hn, htk, by rw [show (LY K D).CT "Floor" = C_Floor from ct_Floor]; exact hmO⟩,
    exC := fun c hc => by
      simp only [EXS, List.mem_cons, List.not_mem_nil, or_false] at hc
      rcases hc with rfl | rfl | rfl
      · rw [ct_NotJoined]; exact ⟨xga_NotJoined, xgg_NotJoined, xe_NotJoined, xh_NotJoined, xa_NotJoined, hn, htk, xo_NotJoined⟩
      · rw [ct_BadPlace]; exact ⟨xga_BadPlace, xgg_BadPlace, xe_BadPlace, xh_BadPlace, xa_BadPlace, hn, htk, xo_BadPlace⟩
      · rw [ct_BadCount]; exact ⟨xga_BadCount, xgg_BadCount, xe_BadCount, xh_BadCount, xa_BadCount, hn, htk, xo_BadCount⟩,
    xf_pair := fun c hc => by
      rw [List.mem_singleton.mp hc, ct_NotJoined]; exact ⟨xga_NotJoined, xgg_NotJoined, xe_NotJoined, xh_NotJoined, xn_NotJoined⟩,
    xf_place := fun c hc => by
      rw [List.mem_singleton.mp hc, ct_BadPlace]; exact ⟨xga_BadPlace, xgg_BadPlace, xe_BadPlace, xh_BadPlace, xn_BadPlace⟩,
    xf_number := fun c hc => by
      rw [List.mem_singleton.mp hc, ct_BadCount]; exact ⟨xga_BadCount, xgg_BadCount, xe_BadCount, xh_BadCount, xn_BadCount⟩ }
end K31
end
end
section
namespace K31
/-! ### rooms, plain -/
structure Rm where
  lo : Bool → Int
  hi : Bool → Int
theorem Rm.ext' {r s : Rm} (h1 : ∀ a, r.lo a = s.lo a) (h2 : ∀ a, r.hi a = s.hi a) : r = s := by
  cases r; cases s; simp only [Rm.mk.injEq]; exact ⟨funext h1, funext h2⟩
def Rm.con (r : Rm) (p : Bool → Int) : Prop := ∀ a, r.lo a ≤ p a ∧ p a < r.hi a
def Rm.ok (S : Bool → Int) (r : Rm) : Prop := ∀ a, 0 ≤ r.lo a ∧ r.lo a < r.hi a ∧ r.hi a ≤ S a
def apart (r s : Rm) : Prop := ∃ a, r.hi a ≤ s.lo a ∨ s.hi a ≤ r.lo a
def Rm.area (r : Rm) : Int := (r.hi false - r.lo false) * (r.hi true - r.lo true)
theorem allB {p : Bool → Prop} : (∀ a, p a) ↔ p false ∧ p true := ⟨fun h => ⟨h _, h _⟩, fun h a => by cases a; exact h.1; exact h.2⟩
theorem exB {p : Bool → Prop} : (∃ a, p a) ↔ p false ∨ p true := ⟨fun ⟨a, h⟩ => by cases a; exact .inl h; exact .inr h, fun h => h.elim (fun h => ⟨_, h⟩) fun h => ⟨_, h⟩⟩
theorem allX {p : Bool → Prop} (x : Bool) : (∀ a, p a) ↔ p x ∧ p (!x) := by
  rw [allB]; cases x
  · exact Iff.rfl
  · exact And.comm
theorem apart.symm {r s : Rm} : apart r s → apart s r := fun ⟨a, h⟩ => ⟨a, h.symm⟩
theorem apart_of {S : Bool → Int} {r s : Rm} (hr : r.ok S) (hs : s.ok S) (h : ∀ p, r.con p → s.con p → False) : apart r s := by
  apply Classical.byContradiction
  intro n
  have n' : ∀ a, s.lo a < r.hi a ∧ r.lo a < s.hi a := fun a => by
    refine ⟨?_, ?_⟩
    · exact Int.not_le.mp fun z => n ⟨a, .inl z⟩
    · exact Int.not_le.mp fun z => n ⟨a, .inr z⟩
  refine h (fun a => max (r.lo a) (s.lo a)) (fun a => ?_) (fun a => ?_)
  · have := n' a; have := hr a; have := hs a; simp only []; omega
  · have := n' a; have := hr a; have := hs a; simp only []; omega
theorem apart.no {r s : Rm} (h : apart r s) {p : Bool → Int} (h1 : r.con p) (h2 : s.con p) : False := by
  obtain ⟨a, h⟩ := h
  have := h1 a; have := h2 a
  omega
structure Cov (S : Bool → Int) (rs : List Rm) : Prop where
  ok : ∀ r ∈ rs, r.ok S
  ap : rs.Pairwise apart
  cv : ∀ p : Bool → Int, (∀ a, 0 ≤ p a ∧ p a < S a) → ∃ r ∈ rs, r.con p
theorem Cov.un {S : Bool → Int} {rs : List Rm} (C : Cov S rs) {i j : Nat} {r s : Rm} {p : Bool → Int} (hi : rs[i]? = some r) (hj : rs[j]? = some s) (h1 : r.con p) (h2 : s.con p) : i = j := by
  obtain ⟨a1, a2⟩ := List.getElem?_eq_some_iff.mp hi
  obtain ⟨b1, b2⟩ := List.getElem?_eq_some_iff.mp hj
  have q := List.pairwise_iff_getElem.mp C.ap
  rcases Nat.lt_trichotomy i j with h | h | h
  · exact ((q i j a1 b1 h).no (by rw [a2]; exact h1) (by rw [b2]; exact h2)).elim
  · exact h
  · exact ((q j i b1 a1 h).no (by rw [b2]; exact h2) (by rw [a2]; exact h1)).elim
theorem Cov.okI {S : Bool → Int} {rs : List Rm} (C : Cov S rs) {i : Nat} {r : Rm} (hi : rs[i]? = some r) : r.ok S := C.ok r (List.mem_of_getElem? hi)
theorem Cov.mk' {S : Bool → Int} {rs : List Rm} (ok : ∀ (i : Nat) (r : Rm), rs[i]? = some r → r.ok S) (un : ∀ (i j : Nat) (r s : Rm) (p : Bool → Int), rs[i]? = some r → rs[j]? = some s → r.con p → s.con p → i = j)
    (cv : ∀ p : Bool → Int, (∀ a, 0 ≤ p a ∧ p a < S a) → ∃ (i : Nat) (r : Rm), rs[i]? = some r ∧ r.con p) : Cov S rs where
  ok := fun r h => by obtain ⟨i, h⟩ := List.mem_iff_getElem?.mp h; exact ok i r h
  ap := List.pairwise_iff_getElem.mpr fun i j hi hj hlt => by
    have e1 := List.getElem?_eq_getElem hi
    have e2 := List.getElem?_eq_getElem hj
    exact apart_of (ok i _ e1) (ok j _ e2) fun p h1 h2 => by have := un i j _ _ p e1 e2 h1 h2; omega
  cv := fun p hp => by obtain ⟨i, r, h1, h2⟩ := cv p hp; exact ⟨r, List.mem_of_getElem? h1, h2⟩
theorem Cov.cvI {S : Bool → Int} {rs : List Rm} (C : Cov S rs) {p : Bool → Int} (h : ∀ a, 0 ≤ p a ∧ p a < S a) : ∃ (i : Nat) (r : Rm), rs[i]? = some r ∧ r.con p := by
  obtain ⟨r, h1, h2⟩ := C.cv p h
  obtain ⟨i, h⟩ := List.mem_iff_getElem?.mp h1
  exact ⟨i, r, h, h2⟩
theorem Cov.perm {S : Bool → Int} {rs rs' : List Rm} (C : Cov S rs) (h : rs'.Perm rs) : Cov S rs' where
  ok := fun r m => C.ok r (h.mem_iff.mp m)
  ap := (h.pairwise_iff fun h => apart.symm h).mpr C.ap
  cv := fun p hp => by obtain ⟨r, h1, h2⟩ := C.cv p hp; exact ⟨r, h.mem_iff.mpr h1, h2⟩

/-! ### the count of cells -/
def isum : Nat → (Int → Int) → Int
  | 0, _ => 0
  | n + 1, f => isum n f + f n
theorem isum_congr {f g : Int → Int} : ∀ n : Nat, (∀ i : Int, 0 ≤ i → i < n → f i = g i) → isum n f = isum n g
  | 0, _ => rfl
  | n + 1, h => by
    show isum n f + f n = isum n g + g n
    rw [isum_congr n fun i h1 h2 => h i h1 (by omega), h n (by omega) (by omega)]
theorem isum_add (f g : Int → Int) : ∀ n : Nat, isum n (fun i => f i + g i) = isum n f + isum n g
  | 0 => rfl
  | n + 1 => by
    show isum n _ + (f n + g n) = isum n f + f n + (isum n g + g n)
    rw [isum_add f g n]; omega
theorem isum_zero : ∀ n : Nat, isum n (fun _ => 0) = 0
  | 0 => rfl
  | n + 1 => by show isum n _ + 0 = 0; rw [isum_zero n]; rfl
theorem isum_const (c : Int) : ∀ n : Nat, isum n (fun _ => c) = n * c
  | 0 => by simp [isum]
  | n + 1 => by
    show isum n _ + c = _
    rw [isum_const c n, Int.natCast_add, Int.add_mul]; simp
theorem isum_int (a b c : Int) (h1 : 0 ≤ a) (h2 : a ≤ b) : ∀ n : Nat, isum n (fun i => if a ≤ i ∧ i < b then c else 0) = (min b n - min a n) * c
  | 0 => by
    have e1 : min b ((0 : Nat) : Int) = 0 := by omega
    have e2 : min a ((0 : Nat) : Int) = 0 := by omega
    rw [e1, e2]; simp [isum]
  | n + 1 => by
    show isum n _ + (if a ≤ (n : Int) ∧ (n : Int) < b then c else 0) = _
    rw [isum_int a b c h1 h2 n]
    by_cases h : a ≤ (n : Int) ∧ (n : Int) < b
    · rw [if_pos h]
      have e : min b ((n + 1 : Nat) : Int) - min a ((n + 1 : Nat) : Int) = (min b n - min a n) + 1 := by omega
      rw [e, Int.add_mul]; omega
    · rw [if_neg h]
      have e : min b ((n + 1 : Nat) : Int) - min a ((n + 1 : Nat) : Int) = (min b n - min a n) := by omega
      rw [e]; omega
def cellR (r : Rm) (x y : Int) : Int := if r.lo false ≤ x ∧ x < r.hi false then (if r.lo true ≤ y ∧ y < r.hi true then 1 else 0) else 0
def cells (rs : List Rm) (x y : Int) : Int := (rs.map fun r => cellR r x y).sum
def box (W H : Nat) (f : Int → Int → Int) : Int := isum W fun x => isum H fun y => f x y
theorem box_room {W H : Nat} {r : Rm} {S : Bool → Int} (h : r.ok S) (hw : S false ≤ W) (hh : S true ≤ H) : box W H (cellR r) = r.area := by
  unfold box
  have h0 := h false
  have h1 := h true
  have e : ∀ x : Int, isum H (fun y => cellR r x y) = if r.lo false ≤ x ∧ x < r.hi false then (r.hi true - r.lo true) else 0 := fun x => by
    by_cases q : r.lo false ≤ x ∧ x < r.hi false
    · rw [if_pos q]
      have : (fun y => cellR r x y) = fun y => if r.lo true ≤ y ∧ y < r.hi true then 1 else 0 := funext fun y => by unfold cellR; rw [if_pos q]
      rw [this, isum_int _ _ _ h1.1 (by omega)]
      have : min (r.hi true) (H : Int) = r.hi true := by omega
      have : min (r.lo true) (H : Int) = r.lo true := by omega
      simp [*]
    · rw [if_neg q]
      have : (fun y => cellR r x y) = fun y => 0 := funext fun y => by unfold cellR; rw [if_neg q]
      rw [this, isum_zero]
  simp only [e]
  rw [isum_int _ _ _ h0.1 (by omega)]
  have e1 : min (r.hi false) (W : Int) = r.hi false := by omega
  have e2 : min (r.lo false) (W : Int) = r.lo false := by omega
  rw [e1, e2]; rfl
theorem box_add (W H : Nat) (f g : Int → Int → Int) : box W H (fun x y => f x y + g x y) = box W H f + box W H g := by
  unfold box
  simp only [isum_add]
theorem box_zero (W H : Nat) : box W H (fun _ _ => 0) = 0 := by
  unfold box
  simp only [isum_zero]
theorem box_sum {W H : Nat} {S : Bool → Int} (hw : S false ≤ W) (hh : S true ≤ H) : ∀ rs : List Rm, (∀ r ∈ rs, r.ok S) → box W H (cells rs) = (rs.map Rm.area).sum
  | [], _ => box_zero W H
  | r :: rs, h => by
    have e : cells (r :: rs) = fun x y => cellR r x y + cells rs x y := funext fun x => funext fun y => by simp [cells]
    rw [e, box_add, box_room (h r (List.mem_cons_self)) hw hh, box_sum hw hh rs fun s m => h s (List.mem_cons_of_mem _ m)]
    simp
def pt (x y : Int) : Bool → Int := fun a => if a then y else x
theorem cellR_eq (r : Rm) (x y : Int) [Decidable (r.con (pt x y))] : cellR r x y = if r.con (pt x y) then 1 else 0 := by
  unfold cellR
  by_cases h : r.con (pt x y)
  · rw [if_pos h, if_pos (by simpa [pt] using h false), if_pos (by simpa [pt] using h true)]
  · rw [if_neg h]
    by_cases q : r.lo false ≤ x ∧ x < r.hi false
    · rw [if_pos q, if_neg fun z => h (allB.mpr ⟨by simpa [pt] using q, by simpa [pt] using z⟩)]
    · rw [if_neg q]
open Classical in
theorem cells_zero {x y : Int} : ∀ rs : List Rm, (∀ r ∈ rs, ¬ r.con (pt x y)) → cells rs x y = 0
  | [], _ => rfl
  | r :: rs, h => by
    show (_ :: _).sum = _
    rw [List.sum_cons]; simp only []; rw [cellR_eq, if_neg (h r List.mem_cons_self)]
    have := cells_zero rs fun s m => h s (List.mem_cons_of_mem _ m)
    unfold cells at this
    simpa using this
open Classical in
theorem cells_one {x y : Int} : ∀ rs : List Rm, rs.Pairwise apart → (∃ r ∈ rs, r.con (pt x y)) → cells rs x y = 1
  | [], _, h => by obtain ⟨r, h, _⟩ := h; cases h
  | r :: rs, hp, h => by
    show (_ :: _).sum = _
    rw [List.pairwise_cons] at hp
    rw [List.sum_cons]; simp only []; rw [cellR_eq]
    by_cases q : r.con (pt x y)
    · rw [if_pos q]
      have := cells_zero (x := x) (y := y) rs fun s m z => (hp.1 s m).no q z
      unfold cells at this
      rw [this]; rfl
    · rw [if_neg q]
      obtain ⟨s, m, hs⟩ := h
      rcases List.mem_cons.mp m with rfl | m
      · exact absurd hs q
      · have := cells_one (x := x) (y := y) rs hp.2 ⟨s, m, hs⟩
        unfold cells at this
        rw [this]; rfl
theorem Cov.area {S : Bool → Int} {rs : List Rm} (C : Cov S rs) (h0 : 0 ≤ S false) (h1 : 0 ≤ S true) : (rs.map Rm.area).sum = S false * S true := by
  have e0 : ((S false).toNat : Int) = S false := Int.toNat_of_nonneg h0
  have e1 : ((S true).toNat : Int) = S true := Int.toNat_of_nonneg h1
  rw [← box_sum (W := (S false).toNat) (H := (S true).toNat) (by omega) (by omega) rs C.ok]
  have : box (S false).toNat (S true).toNat (cells rs) = box (S false).toNat (S true).toNat fun _ _ => 1 := by
    unfold box
    refine isum_congr _ fun x hx0 hx1 => isum_congr _ fun y hy0 hy1 => cells_one rs C.ap (C.cv _ (allB.mpr ⟨?_, ?_⟩))
    · show 0 ≤ x ∧ x < S false; omega
    · show 0 ≤ y ∧ y < S true; omega
  rw [this]
  unfold box
  rw [isum_const, isum_const, e0, e1]; simp

/-! ### pushes and slides -/
def Rm.setHi (a : Bool) (v : Int) (r : Rm) : Rm := ⟨r.lo, fun b => if b = a then v else r.hi b⟩
def Rm.setLo (a : Bool) (v : Int) (r : Rm) : Rm := ⟨fun b => if b = a then v else r.lo b, r.hi⟩
theorem setHi_self (a : Bool) (v : Int) (r : Rm) : (r.setHi a v).hi a = v := if_pos rfl
theorem setHi_ne (a : Bool) (v : Int) (r : Rm) : (r.setHi a v).hi (!a) = r.hi (!a) := if_neg (by cases a <;> decide)
theorem setLo_self (a : Bool) (v : Int) (r : Rm) : (r.setLo a v).lo a = v := if_pos rfl
theorem setLo_ne (a : Bool) (v : Int) (r : Rm) : (r.setLo a v).lo (!a) = r.lo (!a) := if_neg (by cases a <;> decide)
theorem con_ax {r : Rm} {p : Bool → Int} (a : Bool) : r.con p ↔ (r.lo a ≤ p a ∧ p a < r.hi a) ∧ (r.lo (!a) ≤ p (!a) ∧ p (!a) < r.hi (!a)) := allX a
def mv (a : Bool) (v : Int) (p : Bool → Int) : Bool → Int := fun b => if b = a then v else p b
theorem mv_self (a : Bool) (v : Int) (p : Bool → Int) : mv a v p a = v := if_pos rfl
theorem mv_ne (a : Bool) (v : Int) (p : Bool → Int) : mv a v p (!a) = p (!a) := if_neg (by cases a <;> decide)
theorem push_cov {S : Bool → Int} {rs rs' : List Rm} {ax : Bool} {k0 : Nat} {r0 fr : Rm} {ks : Nat → Prop} {d : Int} (C : Cov S rs) (hS : 0 < S ax) (hd : 0 < d) (h0 : rs[k0]? = some r0) (h0h : r0.hi ax = S ax)
    (p1 : ∀ k r, rs[k]? = some r → r.hi ax = S ax → ks k ∨ r0.lo (!ax) ≤ r.lo (!ax)) (p2 : ∀ k, ks k → k ≠ k0 ∧ ∃ r, rs[k]? = some r ∧ r.hi ax = S ax ∧ r.lo (!ax) ≤ r0.lo (!ax))
    (hl : rs'.length = rs.length) (hk : ∀ k r, rs[k]? = some r → (ks k → rs'[k]? = some (r.setHi ax (S ax + d))) ∧ (¬ ks k → rs'[k]? = some r))
    (hf : fr.lo ax = S ax ∧ fr.hi ax = S ax + d ∧ fr.lo (!ax) = r0.lo (!ax) ∧ fr.hi (!ax) = S (!ax)) : Cov (fun a => if a = ax then S a + d else S a) (rs' ++ [fr]) := by
  have o0 := C.okI h0
  -- what stands at a place of the new list
  have look : ∀ k s, (rs' ++ [fr])[k]? = some s → (∃ r, rs[k]? = some r ∧ ((ks k ∧ s = r.setHi ax (S ax + d)) ∨ (¬ ks k ∧ s = r))) ∨ (k = rs.length ∧ s = fr) := fun k s h => by
    by_cases q : k < rs.length
    · rw [List.getElem?_append_left (by omega)] at h
      have e := List.getElem?_eq_getElem q
      refine .inl ⟨_, e, ?_⟩
      by_cases z : ks k
      · rw [(hk k _ e).1 z] at h; exact .inl ⟨z, (Option.some.inj h).symm⟩
      · rw [(hk k _ e).2 z] at h; exact .inr ⟨z, (Option.some.inj h).symm⟩
    · rw [List.getElem?_append_right (by omega)] at h
      have : k - rs'.length = 0 := by
        by_cases z : k - rs'.length = 0
        · exact z
        · rw [List.getElem?_eq_none (by simp; omega)] at h; exact nomatch h
      rw [this] at h
      exact .inr ⟨by omega, (Option.some.inj h).symm⟩
  -- the rooms that grow end below the new room
  have below : ∀ k r, ks k → rs[k]? = some r → r.hi ax = S ax ∧ r.hi (!ax) ≤ r0.lo (!ax) := fun k r hkk e => by
    obtain ⟨ne, r', e', h1, h2⟩ := p2 k hkk
    obtain rfl : r' = r := Option.some.inj (e'.symm.trans e)
    refine ⟨h1, Int.not_lt.mp fun z => ne ?_⟩
    have ok' := C.okI e
    refine C.un (p := fun b => if b = ax then S ax - 1 else r0.lo (!ax)) e h0 ((con_ax ax).mpr ?_) ((con_ax ax).mpr ?_)
    · have := ok' ax; have := ok' (!ax)
      have : (!ax) ≠ ax := by cases ax <;> decide
      simp only [if_true, if_neg this]; omega
    · have := o0 ax; have := o0 (!ax)
      have : (!ax) ≠ ax := by cases ax <;> decide
      simp only [if_true, if_neg this]; omega
  have nx : (!ax) ≠ ax := by cases ax <;> decide
  refine Cov.mk' (fun k s h => ?_) (fun i j r s p hi hj h1 h2 => ?_) (fun p hp => ?_)
  · refine (allX ax).mpr ?_
    simp only [if_true, if_neg nx]
    rcases look k s h with ⟨r, e, ⟨z, rfl⟩ | ⟨z, rfl⟩⟩ | ⟨rfl, rfl⟩
    · have o := C.okI e
      have := o ax; have := o (!ax)
      rw [setHi_self, setHi_ne]; simp only [Rm.setHi]; omega
    · have o := C.okI e
      have := o ax; have := o (!ax); omega
    · have := o0 (!ax); omega
  · -- one room at each point
    have key : ∀ (i j : Nat) (r s : Rm), (rs' ++ [fr])[i]? = some r → (rs' ++ [fr])[j]? = some s → r.con p → s.con p → (∃ r1, rs[i]? = some r1 ∧ ((ks i ∧ r = r1.setHi ax (S ax + d)) ∨ (¬ ks i ∧ r = r1))) → i = j := by
      intro i j r s hi hj h1 h2 ⟨r1, e1, c1⟩
      have o1 := C.okI e1
      have b1 : r1.lo ax ≤ p ax ∧ r1.lo (!ax) ≤ p (!ax) ∧ p (!ax) < r1.hi (!ax) ∧ (p ax < r1.hi ax ∨ ks i) := by
        have u := (con_ax ax).mp h1
        rcases c1 with ⟨z, rfl⟩ | ⟨z, rfl⟩
        · rw [setHi_self, setHi_ne] at u; simp only [Rm.setHi] at u; exact ⟨u.1.1, u.2.1, u.2.2, .inr z⟩
        · exact ⟨u.1.1, u.2.1, u.2.2, .inl u.1.2⟩
      rcases look j s hj with ⟨r2, e2, c2⟩ | ⟨rfl, rfl⟩
      · have o2 := C.okI e2
        have b2 : r2.lo ax ≤ p ax ∧ r2.lo (!ax) ≤ p (!ax) ∧ p (!ax) < r2.hi (!ax) ∧ (p ax < r2.hi ax ∨ ks j) := by
          have u := (con_ax ax).mp h2
          rcases c2 with ⟨z, rfl⟩ | ⟨z, rfl⟩
          · rw [setHi_self, setHi_ne] at u; simp only [Rm.setHi] at u; exact ⟨u.1.1, u.2.1, u.2.2, .inr z⟩
          · exact ⟨u.1.1, u.2.1, u.2.2, .inl u.1.2⟩
        by_cases hp : p ax < S ax
        · refine C.un (p := p) e1 e2 ((con_ax ax).mpr ?_) ((con_ax ax).mpr ?_)
          · have : p ax < r1.hi ax := b1.2.2.2.elim id fun z => by have := below i r1 z e1; omega
            omega
          · have : p ax < r2.hi ax := b2.2.2.2.elim id fun z => by have := below j r2 z e2; omega
            omega
        · have x1 : ks i := b1.2.2.2.elim (fun z => by have := o1 ax; omega) id
          have x2 : ks j := b2.2.2.2.elim (fun z => by have := o2 ax; omega) id
          refine C.un (p := mv ax (S ax - 1) p) e1 e2 ((con_ax ax).mpr ?_) ((con_ax ax).mpr ?_)
          · rw [mv_self, mv_ne]; have := below i r1 x1 e1; have := o1 ax; omega
          · rw [mv_self, mv_ne]; have := below j r2 x2 e2; have := o2 ax; omega
      · have u := (con_ax ax).mp h2
        have x1 : ks i := b1.2.2.2.elim (fun z => by have := o1 ax; omega) id
        have := below i r1 x1 e1
        omega
    rcases look i r hi with c | ⟨rfl, rfl⟩
    · exact key i j r s hi hj h1 h2 c
    · rcases look j s hj with c | ⟨rfl, rfl⟩
      · exact (key j _ s _ hj hi h2 h1 c).symm
      · rfl
  · have hx := hp ax
    have hy := hp (!ax)
    simp only [if_true, if_neg nx] at hx hy
    by_cases q : p ax < S ax
    · obtain ⟨i, r, e, c⟩ := C.cvI (p := p) ((allX ax).mpr ⟨⟨hx.1, q⟩, hy⟩)
      have hl : i < rs'.length := by rw [hl]; exact (List.getElem?_eq_some_iff.mp e).1
      by_cases z : ks i
      · refine ⟨i, _, by rw [List.getElem?_append_left hl]; exact (hk i r e).1 z, (con_ax ax).mpr ?_⟩
        rw [setHi_self, setHi_ne]; simp only [Rm.setHi]
        have := (con_ax ax).mp c; omega
      · exact ⟨i, r, by rw [List.getElem?_append_left hl]; exact (hk i r e).2 z, c⟩
    · obtain ⟨i, r, e, c⟩ := C.cvI (p := mv ax (S ax - 1) p) ((allX ax).mpr (by rw [mv_self, mv_ne]; omega))
      have c' := (con_ax ax).mp c
      rw [mv_self, mv_ne] at c'
      have o := C.okI e
      have hl : i < rs'.length := by rw [hl]; exact (List.getElem?_eq_some_iff.mp e).1
      rcases p1 i r e (by have := o ax; omega) with z | z
      · refine ⟨i, _, by rw [List.getElem?_append_left hl]; exact (hk i r e).1 z, (con_ax ax).mpr ?_⟩
        rw [setHi_self, setHi_ne]; simp only [Rm.setHi]; omega
      · refine ⟨rs'.length, fr, by simp, (con_ax ax).mpr ?_⟩
        omega
abbrev ovr (a : Bool) (r s : Rm) : Prop := r.lo a < s.hi a ∧ s.lo a < r.hi a
structure Border (rs : List Rm) (ax : Bool) (c : Int) (L H : Nat → Prop) : Prop where
  lo : ∀ k, L k → ∃ r, rs[k]? = some r ∧ r.hi ax = c
  hi : ∀ k, H k → ∃ r, rs[k]? = some r ∧ r.lo ax = c
  cH : ∀ k r j s, rs[k]? = some r → r.lo ax = c → L j → rs[j]? = some s → ovr (!ax) s r → H k
  cL : ∀ k r j s, rs[k]? = some r → r.hi ax = c → H j → rs[j]? = some s → ovr (!ax) s r → L k
/-- behind a low room at the border there is a high one, and the other way round -/
theorem Border.over {S : Bool → Int} {rs : List Rm} {ax : Bool} {c : Int} {L H : Nat → Prop} (C : Cov S rs) (B : Border rs ax c L H) (hc : 0 < c ∧ c < S ax) {k : Nat} {r : Rm} (e : rs[k]? = some r) {v : Int} (hv : r.lo (!ax) ≤ v ∧ v < r.hi (!ax)) :
    (L k → ∃ j s, H j ∧ rs[j]? = some s ∧ s.lo (!ax) ≤ v ∧ v < s.hi (!ax)) ∧ (H k → ∃ j s, L j ∧ rs[j]? = some s ∧ s.lo (!ax) ≤ v ∧ v < s.hi (!ax)) := by
  have o := C.okI e
  have nx : (!ax) ≠ ax := by cases ax <;> decide
  refine ⟨fun l => ?_, fun l => ?_⟩
  · obtain ⟨r', e', h⟩ := B.lo k l
    obtain rfl : r' = r := Option.some.inj (e'.symm.trans e)
    obtain ⟨j, s, ej, cj⟩ := C.cvI (p := fun b => if b = ax then c else v) ((allX ax).mpr (by have := o (!ax); simp only [if_true, if_neg nx]; omega))
    have cj := (con_ax ax).mp cj
    simp only [if_true, if_neg nx] at cj
    have : s.lo ax = c := by
      apply Classical.byContradiction
      intro n
      have : k = j := C.un (p := fun b => if b = ax then c - 1 else v) e ej ((con_ax ax).mpr (by have := o ax; simp only [if_true, if_neg nx]; omega)) ((con_ax ax).mpr (by simp only [if_true, if_neg nx]; omega))
      subst this
      obtain rfl : r' = s := Option.some.inj (e.symm.trans ej)
      omega
    exact ⟨j, s, B.cH j s k r' ej this l e ⟨by omega, by omega⟩, ej, cj.2⟩
  · obtain ⟨r', e', h⟩ := B.hi k l
    obtain rfl : r' = r := Option.some.inj (e'.symm.trans e)
    obtain ⟨j, s, ej, cj⟩ := C.cvI (p := fun b => if b = ax then c - 1 else v) ((allX ax).mpr (by have := o (!ax); simp only [if_true, if_neg nx]; omega))
    have cj := (con_ax ax).mp cj
    simp only [if_true, if_neg nx] at cj
    have : s.hi ax = c := by
      apply Classical.byContradiction
      intro n
      have : k = j := C.un (p := fun b => if b = ax then c else v) e ej ((con_ax ax).mpr (by have := o ax; simp only [if_true, if_neg nx]; omega)) ((con_ax ax).mpr (by simp only [if_true, if_neg nx]; omega))
      subst this
      obtain rfl : r' = s := Option.some.inj (e.symm.trans ej)
      omega
    exact ⟨j, s, B.cL j s k r' ej this l e ⟨by omega, by omega⟩, ej, cj.2⟩
theorem slide_cov {S : Bool → Int} {rs rs' : List Rm} {ax : Bool} {c f : Int} {L H : Nat → Prop} (C : Cov S rs) (B : Border rs ax c L H) (hc : 0 < c ∧ c < S ax)
    (hL : ∀ k r, L k → rs[k]? = some r → r.lo ax < f) (hH : ∀ k r, H k → rs[k]? = some r → f < r.hi ax) (hl : rs'.length = rs.length)
    (hk : ∀ k r, rs[k]? = some r → (L k → rs'[k]? = some (r.setHi ax f)) ∧ (H k → rs'[k]? = some (r.setLo ax f)) ∧ (¬ L k → ¬ H k → rs'[k]? = some r)) : Cov S rs' := by
  have look : ∀ k s, rs'[k]? = some s → ∃ r, rs[k]? = some r ∧ ((L k ∧ r.hi ax = c ∧ r.lo ax < f ∧ s = r.setHi ax f) ∨ (H k ∧ r.lo ax = c ∧ f < r.hi ax ∧ s = r.setLo ax f) ∨ (¬ L k ∧ ¬ H k ∧ s = r)) := fun k s h => by
    have q : k < rs.length := by rw [← hl]; exact (List.getElem?_eq_some_iff.mp h).1
    have e := List.getElem?_eq_getElem q
    refine ⟨_, e, ?_⟩
    by_cases z : L k
    · rw [(hk k _ e).1 z] at h
      obtain ⟨r', e', h'⟩ := B.lo k z
      rw [e] at e'; cases e'
      exact .inl ⟨z, h', hL k _ z e, (Option.some.inj h).symm⟩
    · by_cases y : H k
      · rw [(hk k _ e).2.1 y] at h
        obtain ⟨r', e', h'⟩ := B.hi k y
        rw [e] at e'; cases e'
        exact .inr (.inl ⟨y, h', hH k _ y e, (Option.some.inj h).symm⟩)
      · rw [(hk k _ e).2.2 z y] at h; exact .inr (.inr ⟨z, y, (Option.some.inj h).symm⟩)
  have nx : (!ax) ≠ ax := by cases ax <;> decide
  -- at each point the old owner
  have old : ∀ k s p, rs'[k]? = some s → s.con p → ∃ r, rs[k]? = some r ∧ ((r.con p) ∨ (L k ∧ c ≤ p ax ∧ p ax < f ∧ r.hi ax = c ∧ r.lo (!ax) ≤ p (!ax) ∧ p (!ax) < r.hi (!ax)) ∨ (H k ∧ f ≤ p ax ∧ p ax < c ∧ r.lo ax = c ∧ r.lo (!ax) ≤ p (!ax) ∧ p (!ax) < r.hi (!ax))) := fun k s p h hp => by
    obtain ⟨r, e, h⟩ := look k s h
    refine ⟨r, e, ?_⟩
    have u := (con_ax ax).mp hp
    rcases h with ⟨z, h1, h2, rfl⟩ | ⟨z, h1, h2, rfl⟩ | ⟨z, y, rfl⟩
    · rw [setHi_self, setHi_ne] at u; simp only [Rm.setHi] at u
      by_cases q : p ax < c
      · exact .inl ((con_ax ax).mpr (by omega))
      · exact .inr (.inl ⟨z, by omega⟩)
    · rw [setLo_self, setLo_ne] at u; simp only [Rm.setLo] at u
      by_cases q : c ≤ p ax
      · exact .inl ((con_ax ax).mpr (by omega))
      · exact .inr (.inr ⟨z, by omega⟩)
    · exact .inl hp
  refine Cov.mk' (fun k s h => ?_) (fun i j r s p hi hj h1 h2 => ?_) (fun p hp => ?_)
  · obtain ⟨r, e, h⟩ := look k s h
    have o := C.okI e
    have ox := o ax; have oy := o (!ax)
    refine (allX ax).mpr ?_
    rcases h with ⟨z, h1, h2, rfl⟩ | ⟨z, h1, h2, rfl⟩ | ⟨z, y, rfl⟩
    · rw [setHi_self, setHi_ne]; simp only [Rm.setHi]
      -- there is a high room, whose end is above f
      obtain ⟨j, s, hj, ej, _⟩ := (B.over C hc e (v := r.lo (!ax)) (by omega)).1 z
      have := hH j s hj ej
      have := C.okI ej ax
      omega
    · rw [setLo_self, setLo_ne]; simp only [Rm.setLo]
      obtain ⟨j, s, hj, ej, _⟩ := (B.over C hc e (v := r.lo (!ax)) (by omega)).2 z
      have := hL j s hj ej
      have := C.okI ej ax
      omega
    · exact ⟨ox, oy⟩
  · obtain ⟨r1, e1, c1⟩ := old i r p hi h1
    obtain ⟨r2, e2, c2⟩ := old j s p hj h2
    obtain ⟨r1', e1', d1⟩ := look i r hi
    obtain ⟨r2', e2', d2⟩ := look j s hj
    obtain rfl : r1 = r1' := Option.some.inj (e1.symm.trans e1')
    obtain rfl : r2 = r2' := Option.some.inj (e2.symm.trans e2')
    have u1 := (con_ax ax).mp h1
    have u2 := (con_ax ax).mp h2
    -- a room that moved into the strip against one that was there
    have clash : ∀ (i j : Nat) (r s r1 r2 : Rm), rs[i]? = some r1 → rs[j]? = some r2 → s.con p → (L i ∧ c ≤ p ax ∧ p ax < f ∧ r1.hi ax = c ∧ r1.lo (!ax) ≤ p (!ax) ∧ p (!ax) < r1.hi (!ax)) ∨ (H i ∧ f ≤ p ax ∧ p ax < c ∧ r1.lo ax = c ∧ r1.lo (!ax) ≤ p (!ax) ∧ p (!ax) < r1.hi (!ax)) → r2.con p →
        ((L j ∧ r2.hi ax = c ∧ r2.lo ax < f ∧ s = r2.setHi ax f) ∨ (H j ∧ r2.lo ax = c ∧ f < r2.hi ax ∧ s = r2.setLo ax f) ∨ (¬ L j ∧ ¬ H j ∧ s = r2)) → False := by
      intro i j r s r1 r2 e1 e2 h2 c1 c2 d2
      have v2 := (con_ax ax).mp c2
      have u2 := (con_ax ax).mp h2
      rcases c1 with ⟨l, a1, a2, a3, a4, a5⟩ | ⟨l, a1, a2, a3, a4, a5⟩
      · obtain ⟨m, t, hm, em, b1, b2⟩ := (B.over C hc e1 ⟨a4, a5⟩).1 l
        obtain ⟨t', et', ht'⟩ := B.hi m hm
        obtain rfl : t' = t := Option.some.inj (et'.symm.trans em)
        have := hH m t' hm em
        have q : m = j := C.un (p := p) em e2 ((con_ax ax).mpr (by omega)) c2
        subst q
        obtain rfl : t' = r2 := Option.some.inj (em.symm.trans e2)
        rcases d2 with ⟨_, z, _⟩ | ⟨_, _, _, rfl⟩ | ⟨_, z, _⟩
        · have := C.okI em ax; omega
        · rw [setLo_self] at u2; omega
        · exact z hm
      · obtain ⟨m, t, hm, em, b1, b2⟩ := (B.over C hc e1 ⟨a4, a5⟩).2 l
        obtain ⟨t', et', ht'⟩ := B.lo m hm
        obtain rfl : t' = t := Option.some.inj (et'.symm.trans em)
        have := hL m t' hm em
        have q : m = j := C.un (p := p) em e2 ((con_ax ax).mpr (by omega)) c2
        subst q
        obtain rfl : t' = r2 := Option.some.inj (em.symm.trans e2)
        rcases d2 with ⟨_, _, _, rfl⟩ | ⟨_, z, _⟩ | ⟨z, _, _⟩
        · rw [setHi_self] at u2; omega
        · have := C.okI em ax; omega
        · exact z hm
    rcases c1 with c1 | c1
    · rcases c2 with c2 | c2
      · exact C.un e1 e2 c1 c2
      · exact (clash j i s r r2 r1 e2 e1 h1 c2 c1 d1).elim
    · rcases c2 with c2 | c2
      · exact (clash i j r s r1 r2 e1 e2 h2 c1 c2 d2).elim
      · -- both moved to the same side
        rcases c1 with ⟨l, a1, a2, a3, a4, a5⟩ | ⟨l, a1, a2, a3, a4, a5⟩
        · rcases c2 with ⟨l2, b1, b2, b3, b4, b5⟩ | ⟨l2, b1, b2, b3, b4, b5⟩
          · refine C.un (p := mv ax (c - 1) p) e1 e2 ((con_ax ax).mpr ?_) ((con_ax ax).mpr ?_)
            · rw [mv_self, mv_ne]; have := C.okI e1 ax; omega
            · rw [mv_self, mv_ne]; have := C.okI e2 ax; omega
          · omega
        · rcases c2 with ⟨l2, b1, b2, b3, b4, b5⟩ | ⟨l2, b1, b2, b3, b4, b5⟩
          · omega
          · refine C.un (p := mv ax c p) e1 e2 ((con_ax ax).mpr ?_) ((con_ax ax).mpr ?_)
            · rw [mv_self, mv_ne]; have := C.okI e1 ax; omega
            · rw [mv_self, mv_ne]; have := C.okI e2 ax; omega
  · obtain ⟨i, r, e, cr⟩ := C.cvI hp
    have u := (con_ax ax).mp cr
    by_cases z : L i
    · obtain ⟨r', e', h'⟩ := B.lo i z
      obtain rfl : r' = r := Option.some.inj (e'.symm.trans e)
      by_cases q : p ax < f
      · refine ⟨i, _, (hk i r' e).1 z, (con_ax ax).mpr ?_⟩
        rw [setHi_self, setHi_ne]; simp only [Rm.setHi]; omega
      · obtain ⟨m, t, hm, em, b1, b2⟩ := (B.over C hc e u.2).1 z
        obtain ⟨t', et', ht'⟩ := B.hi m hm
        obtain rfl : t' = t := Option.some.inj (et'.symm.trans em)
        refine ⟨m, _, (hk m t' em).2.1 hm, (con_ax ax).mpr ?_⟩
        rw [setLo_self, setLo_ne]; simp only [Rm.setLo]
        have := C.okI em ax; omega
    · by_cases y : H i
      · obtain ⟨r', e', h'⟩ := B.hi i y
        obtain rfl : r' = r := Option.some.inj (e'.symm.trans e)
        by_cases q : f ≤ p ax
        · refine ⟨i, _, (hk i r' e).2.1 y, (con_ax ax).mpr ?_⟩
          rw [setLo_self, setLo_ne]; simp only [Rm.setLo]; omega
        · obtain ⟨m, t, hm, em, b1, b2⟩ := (B.over C hc e u.2).2 y
          obtain ⟨t', et', ht'⟩ := B.lo m hm
          obtain rfl : t' = t := Option.some.inj (et'.symm.trans em)
          refine ⟨m, _, (hk m t' em).1 hm, (con_ax ax).mpr ?_⟩
          rw [setHi_self, setHi_ne]; simp only [Rm.setHi]
          have := C.okI em ax; omega
      · exact ⟨i, r, (hk i r e).2.2 z y, cr⟩
end K31
end
section
namespace K31
/-! ### floors, splits and joins -/
theorem perm_sum {xs ys : List Int} (h : xs.Perm ys) : xs.sum = ys.sum := by
  induction h with
  | nil => rfl
  | cons x _ ih => rw [List.sum_cons, List.sum_cons, ih]
  | swap x y l => simp only [List.sum_cons]; omega
  | trans _ _ h1 h2 => exact h1.trans h2
theorem getElem_eraseIdx_perm {α : Type} : ∀ (l : List α) (i : Nat) (h : i < l.length), (l[i] :: l.eraseIdx i).Perm l
  | x :: l, 0, _ => by simp
  | x :: l, i + 1, h => by
    simp only [List.getElem_cons_succ, List.eraseIdx_cons_succ]
    exact (List.Perm.swap x _ _).trans ((getElem_eraseIdx_perm l i (by simpa using h)).cons x)
theorem set_eraseIdx_perm {α : Type} : ∀ (l : List α) (i : Nat) (_ : i < l.length) (u : α), (l.set i u).Perm (u :: l.eraseIdx i)
  | x :: l, 0, _, u => by simp
  | x :: l, i + 1, h, u => by
    simp only [List.set_cons_succ, List.eraseIdx_cons_succ]
    exact ((set_eraseIdx_perm l i (by simpa using h) u).cons x).trans (List.Perm.swap u x _)
structure Fl (S : Bool → Int) (rs : List Rm) : Prop where
  s : ∀ a, 1 ≤ S a ∧ S a < 2 ^ 40
  n : 1 ≤ rs.length ∧ rs.length ≤ 20
  ok : ∀ r ∈ rs, r.ok S
  ap : rs.Pairwise apart
  ar : (rs.map Rm.area).sum = S false * S true
theorem Fl.perm {S : Bool → Int} {rs rs' : List Rm} (F : Fl S rs) (h : rs'.Perm rs) : Fl S rs' where
  s := F.s
  n := by rw [h.length_eq]; exact F.n
  ok := fun r m => F.ok r (h.mem_iff.mp m)
  ap := (h.pairwise_iff fun h => apart.symm h).mpr F.ap
  ar := by rw [← F.ar]; exact perm_sum (h.map _)
theorem Cov.fl {S : Bool → Int} {rs : List Rm} (C : Cov S rs) (s : ∀ a, 1 ≤ S a ∧ S a < 2 ^ 40) (n : rs.length ≤ 20) : Fl S rs where
  s := s
  n := by
    refine ⟨?_, n⟩
    obtain ⟨r, h, _⟩ := C.cv (fun _ => 0) fun a => by have := s a; omega
    exact List.length_pos_of_mem h
  ok := C.ok
  ap := C.ap
  ar := C.area (by have := s false; omega) (by have := s true; omega)
def boxOf (r s : Rm) : Rm := ⟨fun a => min (r.lo a) (s.lo a), fun a => max (r.hi a) (s.hi a)⟩
def unionL (r s : Rm) : Option Rm := if r.area + s.area = (boxOf r s).area then some (boxOf r s) else none
abbrev lvl (a : Bool) (r s : Rm) : Prop := r.lo (!a) = s.lo (!a) ∧ r.hi (!a) = s.hi (!a)
def unionA (a : Bool) (r s : Rm) (e : Option Rm) : Option Rm := if lvl a r s ∧ r.hi a = s.lo a then some ⟨r.lo, s.hi⟩ else if lvl a r s ∧ s.hi a = r.lo a then some ⟨s.lo, r.hi⟩ else e
def unionP (r s : Rm) : Option Rm := unionA false r s (unionA true r s none)
theorem area_ax (r : Rm) (a : Bool) : r.area = (r.hi a - r.lo a) * (r.hi (!a) - r.lo (!a)) := by
  cases a
  · rfl
  · exact Int.mul_comm _ _
theorem box_ahead {S : Bool → Int} {r s : Rm} {a : Bool} (hr : r.ok S) (hs : s.ok S) (h : lvl a r s) (e : r.hi a = s.lo a) : (⟨r.lo, s.hi⟩ : Rm) = boxOf r s ∧ r.area + s.area = (boxOf r s).area := by
  have ra := hr a; have sa := hs a
  have x : (⟨r.lo, s.hi⟩ : Rm) = boxOf r s := by
    refine Rm.ext' ((allX a).mpr ⟨?_, ?_⟩) ((allX a).mpr ⟨?_, ?_⟩) <;> simp only [boxOf]
    · omega
    · have := h.1; omega
    · omega
    · have := h.2; omega
  refine ⟨x, ?_⟩
  rw [← x, area_ax r a, area_ax s a, area_ax _ a]
  simp only []
  rw [← h.1, ← h.2, ← Int.add_mul]
  congr 1
  omega
theorem boxOf_comm (r s : Rm) : boxOf r s = boxOf s r := Rm.ext' (fun a => Int.min_comm _ _) (fun a => Int.max_comm _ _)
theorem mul_gap {a b w h k l : Int} (ha : 0 < a) (hb : 0 < b) (hw : a + b ≤ w) (hk : 0 < k) (hl : 0 < l) (h1 : k ≤ h) (h2 : l ≤ h) (e : a * k + b * l = w * h) : w = a + b ∧ k = h ∧ l = h := by
  have x1 : a * k ≤ a * h := Int.mul_le_mul_of_nonneg_left h1 (by omega)
  have x2 : b * l ≤ b * h := Int.mul_le_mul_of_nonneg_left h2 (by omega)
  have x3 : (a + b) * h ≤ w * h := Int.mul_le_mul_of_nonneg_right hw (by omega)
  rw [Int.add_mul] at x3
  have y1 : a * k = a * h := by omega
  have y2 : b * l = b * h := by omega
  have y3 : (a + b) * h = w * h := by rw [Int.add_mul]; omega
  exact ⟨(Int.eq_of_mul_eq_mul_right (by omega) y3).symm, Int.eq_of_mul_eq_mul_left (by omega) y1, Int.eq_of_mul_eq_mul_left (by omega) y2⟩
theorem area_gap {S : Bool → Int} {r s : Rm} {a : Bool} (hr : r.ok S) (hs : s.ok S) (h : r.hi a ≤ s.lo a) (e : r.area + s.area = (boxOf r s).area) : lvl a r s ∧ r.hi a = s.lo a := by
  have ra := hr a; have sa := hs a
  have ra' := hr (!a); have sa' := hs (!a)
  rw [area_ax r a, area_ax s a, area_ax _ a] at e
  simp only [boxOf] at e
  have := mul_gap (by omega) (by omega) (by omega) (by omega) (by omega) (by omega) (by omega) e
  exact ⟨⟨by omega, by omega⟩, by omega⟩
theorem union_eq {S : Bool → Int} {r s : Rm} (hr : r.ok S) (hs : s.ok S) (h : apart r s) : unionP r s = unionL r s := by
  unfold unionL
  by_cases e : r.area + s.area = (boxOf r s).area
  · rw [if_pos e]
    have key : (∃ a, (lvl a r s ∧ r.hi a = s.lo a) ∨ (lvl a r s ∧ s.hi a = r.lo a)) := by
      obtain ⟨a, h | h⟩ := h
      · exact ⟨a, .inl (area_gap hr hs h e)⟩
      · have := area_gap hs hr h (by rw [boxOf_comm s r]; omega)
        exact ⟨a, .inr ⟨⟨this.1.1.symm, this.1.2.symm⟩, this.2⟩⟩
    have a1 : ∀ a, lvl a r s ∧ r.hi a = s.lo a → (⟨r.lo, s.hi⟩ : Rm) = boxOf r s := fun a x => (box_ahead hr hs x.1 x.2).1
    have a2 : ∀ a, lvl a r s ∧ s.hi a = r.lo a → (⟨s.lo, r.hi⟩ : Rm) = boxOf r s := fun a x => by rw [boxOf_comm]; exact (box_ahead hs hr ⟨x.1.1.symm, x.1.2.symm⟩ x.2).1
    unfold unionP unionA
    by_cases c1 : lvl false r s ∧ r.hi false = s.lo false
    · rw [if_pos c1, a1 _ c1]
    · rw [if_neg c1]
      by_cases c2 : lvl false r s ∧ s.hi false = r.lo false
      · rw [if_pos c2, a2 _ c2]
      · rw [if_neg c2]
        by_cases c3 : lvl true r s ∧ r.hi true = s.lo true
        · rw [if_pos c3, a1 _ c3]
        · rw [if_neg c3]
          by_cases c4 : lvl true r s ∧ s.hi true = r.lo true
          · rw [if_pos c4, a2 _ c4]
          · exfalso
            obtain ⟨a, k⟩ := key
            cases a
            · exact k.elim c1 c2
            · exact k.elim c3 c4
  · rw [if_neg e]
    have b1 : ∀ a, ¬ (lvl a r s ∧ r.hi a = s.lo a) := fun a x => e (box_ahead hr hs x.1 x.2).2
    have b2 : ∀ a, ¬ (lvl a r s ∧ s.hi a = r.lo a) := fun a x => e (by
      have := (box_ahead hs hr ⟨x.1.1.symm, x.1.2.symm⟩ x.2).2
      rw [boxOf_comm s r] at this; omega)
    unfold unionP unionA
    rw [if_neg (b1 _), if_neg (b2 _), if_neg (b1 _), if_neg (b2 _)]
theorem union_fact {S : Bool → Int} {r s u : Rm} (hr : r.ok S) (hs : s.ok S) (h : apart r s) (hu : unionL r s = some u) : u = boxOf r s ∧ r.area + s.area = u.area ∧ ∃ a, lvl a r s ∧ (r.hi a = s.lo a ∨ s.hi a = r.lo a) := by
  unfold unionL at hu
  by_cases e : r.area + s.area = (boxOf r s).area
  · rw [if_pos e] at hu
    obtain rfl := Option.some.inj hu
    refine ⟨rfl, e, ?_⟩
    obtain ⟨a, h | h⟩ := h
    · have := area_gap hr hs h e
      exact ⟨a, this.1, .inl this.2⟩
    · have := area_gap hs hr h (by rw [boxOf_comm s r]; omega)
      exact ⟨a, ⟨this.1.1.symm, this.1.2.symm⟩, .inr this.2⟩
  · rw [if_neg e] at hu; exact nomatch hu
theorem union_apart {S : Bool → Int} {r s t : Rm} {a : Bool} (hr : r.ok S) (hs : s.ok S) (ht : t.ok S) (hl : lvl a r s) (h : r.hi a = s.lo a ∨ s.hi a = r.lo a) (h1 : apart r t) (h2 : apart s t) : apart (boxOf r s) t := by
  have ra := hr a; have sa := hs a; have ta := ht a
  rw [apart, exB] at h1 h2 ⊢
  obtain ⟨l1, l2⟩ := hl
  cases a <;> simp only [Bool.not_false, Bool.not_true, boxOf] at * <;> omega
theorem union_ok {S : Bool → Int} {r s : Rm} (hr : r.ok S) (hs : s.ok S) : (boxOf r s).ok S := fun a => by
  have := hr a; have := hs a
  simp only [boxOf]
  omega
theorem Fl.join {S : Bool → Int} {rs rs' E : List Rm} {r s u : Rm} (F : Fl S rs) (h : rs.Perm (r :: s :: E)) (h' : rs'.Perm (u :: E)) (hu : unionL r s = some u) : Fl S rs' := by
  have G := F.perm h.symm
  have hr := G.ok r (by simp)
  have hs := G.ok s (by simp)
  have ap := G.ap
  simp only [List.pairwise_cons] at ap
  obtain ⟨e1, e2, a, hl, ha⟩ := union_fact hr hs (ap.1 s (by simp)) hu
  refine Fl.perm ⟨F.s, ?_, ?_, ?_, ?_⟩ h'
  · have := G.n
    simp only [List.length_cons] at this ⊢
    omega
  · intro t m
    rcases List.mem_cons.mp m with rfl | m
    · rw [e1]; exact union_ok hr hs
    · exact G.ok t (by simp [m])
  · rw [List.pairwise_cons]
    refine ⟨fun t m => ?_, ap.2.2⟩
    rw [e1]
    exact union_apart hr hs (G.ok t (by simp [m])) hl ha (ap.1 t (by simp [m])) (ap.2.1 t m)
  · have := G.ar
    simp only [List.map_cons, List.sum_cons] at this ⊢
    omega
/-- the two parts of a cut room -/
theorem parts_fact {S : Bool → Int} {r : Rm} {a : Bool} {p : Int} (hr : r.ok S) (h : r.lo a < p ∧ p < r.hi a) :
    (r.setHi a p).ok S ∧ (r.setLo a p).ok S ∧ apart (r.setHi a p) (r.setLo a p) ∧ (r.setHi a p).area + (r.setLo a p).area = r.area ∧ ∀ t, apart r t → apart (r.setHi a p) t ∧ apart (r.setLo a p) t := by
  have ra := hr a; have ra' := hr (!a)
  refine ⟨(allX a).mpr ?_, (allX a).mpr ?_, ⟨a, .inl ?_⟩, ?_, fun t ⟨b, hb⟩ => ⟨⟨b, ?_⟩, ⟨b, ?_⟩⟩⟩
  · rw [setHi_self, setHi_ne]; simp only [Rm.setHi]; omega
  · rw [setLo_self, setLo_ne]; simp only [Rm.setLo]; omega
  · rw [setHi_self, setLo_self]; omega
  · rw [area_ax _ a, area_ax (r.setLo a p) a, area_ax r a, setHi_self, setHi_ne, setLo_self, setLo_ne]
    simp only [Rm.setHi, Rm.setLo]
    rw [← Int.add_mul]
    congr 1
    omega
  · by_cases e : b = a
    · subst e; rw [setHi_self]; simp only [Rm.setHi]; omega
    · simp only [Rm.setHi, if_neg e]; exact hb
  · by_cases e : b = a
    · subst e; rw [setLo_self]; simp only [Rm.setLo]; omega
    · simp only [Rm.setLo, if_neg e]; exact hb
theorem Fl.split {S : Bool → Int} {rs rs' E : List Rm} {r : Rm} {a : Bool} {p : Int} (F : Fl S rs) (h : rs.Perm (r :: E)) (h' : rs'.Perm (r.setHi a p :: r.setLo a p :: E)) (hp : r.lo a < p ∧ p < r.hi a) (hn : rs.length < 20) : Fl S rs' := by
  have G := F.perm h.symm
  have hr := G.ok r (by simp)
  have ap := G.ap
  simp only [List.pairwise_cons] at ap
  obtain ⟨o1, o2, o3, o4, o5⟩ := parts_fact hr hp
  refine Fl.perm ⟨F.s, ?_, ?_, ?_, ?_⟩ h'
  · have := h.length_eq
    simp only [List.length_cons] at this ⊢
    omega
  · intro t m
    rcases List.mem_cons.mp m with rfl | m
    · exact o1
    · rcases List.mem_cons.mp m with rfl | m
      · exact o2
      · exact G.ok t (by simp [m])
  · rw [List.pairwise_cons, List.pairwise_cons]
    refine ⟨fun t m => ?_, fun t m => (o5 t (ap.1 t m)).2, ap.2⟩
    rcases List.mem_cons.mp m with rfl | m
    · exact o3
    · exact (o5 t (ap.1 t m)).1
  · have := G.ar
    simp only [List.map_cons, List.sum_cons] at this ⊢
    omega
def joined (rs : List Rm) (a b : Nat) (u : Rm) : List Rm := (rs.set a u).eraseIdx b
def cutAt (rs : List Rm) (k : Nat) (r : Rm) (a : Bool) (p : Int) : List Rm := rs.set k (r.setHi a p) ++ [r.setLo a p]
theorem joined_perm {rs : List Rm} {a b : Nat} {r s : Rm} (ha : rs[a]? = some r) (hb : rs[b]? = some s) (hab : a ≠ b) (u : Rm) : ∃ E, rs.Perm (r :: s :: E) ∧ (joined rs a b u).Perm (u :: E) := by
  obtain ⟨la, ea⟩ := List.getElem?_eq_some_iff.mp ha
  obtain ⟨lb, eb⟩ := List.getElem?_eq_some_iff.mp hb
  have p1 : (rs[a] :: rs.eraseIdx a).Perm rs := getElem_eraseIdx_perm _ _ la
  have p2 : (rs.set a u).Perm (u :: rs.eraseIdx a) := set_eraseIdx_perm _ _ la u
  have lb' : b < (rs.set a u).length := by rw [List.length_set]; exact lb
  have p3 : ((rs.set a u)[b] :: (rs.set a u).eraseIdx b).Perm (rs.set a u) := getElem_eraseIdx_perm _ _ lb'
  rw [List.getElem_set_ne hab, eb] at p3
  rw [ea] at p1
  have m : s ∈ rs.eraseIdx a := List.mem_eraseIdx_iff_getElem?.mpr ⟨b, fun z => hab z.symm, hb⟩
  obtain ⟨x, y, e⟩ := List.append_of_mem m
  have p4 : (rs.eraseIdx a).Perm (s :: (x ++ y)) := by rw [e]; exact List.perm_middle
  refine ⟨x ++ y, p1.symm.trans (p4.cons r), ?_⟩
  have p5 : (s :: joined rs a b u).Perm (s :: u :: (x ++ y)) := (p3.trans p2).trans ((p4.cons u).trans (List.Perm.swap s u _))
  exact List.Perm.cons_inv p5
theorem cut_perm {rs : List Rm} {k : Nat} {r : Rm} (hk : rs[k]? = some r) (a : Bool) (p : Int) : ∃ E, rs.Perm (r :: E) ∧ (cutAt rs k r a p).Perm (r.setHi a p :: r.setLo a p :: E) := by
  obtain ⟨la, ea⟩ := List.getElem?_eq_some_iff.mp hk
  have p1 : (rs[k] :: rs.eraseIdx k).Perm rs := getElem_eraseIdx_perm _ _ la
  rw [ea] at p1
  have p2 : (rs.set k (r.setHi a p)).Perm (r.setHi a p :: rs.eraseIdx k) := set_eraseIdx_perm _ _ la _
  refine ⟨_, p1.symm, ?_⟩
  unfold cutAt
  exact (p2.append_right _).trans ((List.perm_append_comm (l₁ := rs.eraseIdx k) (l₂ := [r.setLo a p])).cons _)
theorem Fl.joinI {S : Bool → Int} {rs : List Rm} {a b : Nat} {r s u : Rm} (F : Fl S rs) (ha : rs[a]? = some r) (hb : rs[b]? = some s) (hab : a ≠ b) (hu : unionL r s = some u) : Fl S (joined rs a b u) := by
  obtain ⟨E, h1, h2⟩ := joined_perm ha hb hab u
  exact F.join h1 h2 hu
theorem Fl.cutI {S : Bool → Int} {rs : List Rm} {k : Nat} {r : Rm} {a : Bool} {p : Int} (F : Fl S rs) (hk : rs[k]? = some r) (hp : r.lo a < p ∧ p < r.hi a) (hn : rs.length < 20) : Fl S (cutAt rs k r a p) := by
  obtain ⟨E, h1, h2⟩ := cut_perm hk a p
  exact F.split h1 h2 hp hn
theorem Fl.apI {S : Bool → Int} {rs : List Rm} {a b : Nat} {r s : Rm} (F : Fl S rs) (ha : rs[a]? = some r) (hb : rs[b]? = some s) (hab : a ≠ b) : apart r s := by
  obtain ⟨la, rfl⟩ := List.getElem?_eq_some_iff.mp ha
  obtain ⟨lb, rfl⟩ := List.getElem?_eq_some_iff.mp hb
  have q := List.pairwise_iff_getElem.mp F.ap
  rcases Nat.lt_or_gt_of_ne hab with h | h
  · exact q a b la lb h
  · exact (q b a lb la h).symm
theorem Fl.okI {S : Bool → Int} {rs : List Rm} {a : Nat} {r : Rm} (F : Fl S rs) (ha : rs[a]? = some r) : r.ok S := F.ok r (List.mem_of_getElem? ha)
/-- the parts joined -/
theorem parts_union {S : Bool → Int} {r : Rm} {a : Bool} {p : Int} (hr : r.ok S) (h : r.lo a < p ∧ p < r.hi a) : unionL (r.setHi a p) (r.setLo a p) = some r := by
  obtain ⟨o1, o2, o3, o4, o5⟩ := parts_fact hr h
  have e : boxOf (r.setHi a p) (r.setLo a p) = r := by
    have ra := hr a
    refine Rm.ext' ((allX a).mpr ⟨?_, ?_⟩) ((allX a).mpr ⟨?_, ?_⟩) <;> simp only [boxOf]
    · rw [setLo_self]; simp only [Rm.setHi]; omega
    · rw [setLo_ne]; simp only [Rm.setHi]; omega
    · rw [setHi_self]; simp only [Rm.setLo]; omega
    · rw [setHi_ne]; simp only [Rm.setLo]; omega
  unfold unionL
  rw [e, if_pos o4]
theorem unionL_comm (r s : Rm) : unionL r s = unionL s r := by
  unfold unionL
  rw [boxOf_comm, Int.add_comm]
theorem back_list {rs : List Rm} {k : Nat} {r : Rm} (hk : rs[k]? = some r) (a : Bool) (p : Int) : joined (cutAt rs k r a p) k rs.length r = rs := by
  obtain ⟨la, ea⟩ := List.getElem?_eq_some_iff.mp hk
  unfold joined cutAt
  rw [List.set_append_left _ _ (by rw [List.length_set]; exact la), List.set_set, List.eraseIdx_append_of_length_le (by rw [List.length_set]; exact Nat.le_refl _)]
  rw [List.length_set, Nat.sub_self]
  simp only [List.eraseIdx_cons_zero, List.append_nil]
  rw [← ea]
  exact List.set_getElem_self la
end K31
end
section
set_option Elab.async false
set_option linter.all false
set_option maxRecDepth 100000
noncomputable section
namespace K31
open PySem L2 VL
/-! ### rooms as data -/
def rmD (r : Rm) : D := .tup [.int (r.lo false), .int (r.lo true), .int (r.hi false), .int (r.hi true)]
def rmL (o : Bool) (r : Rm) : D := .lst o [.int (r.lo false), .int (r.lo true), .int (r.hi false), .int (r.hi true)]
def axI (a : Bool) : Int := if a then 1 else 0
@[simp] theorem u_retM (f : EM) (ρ : VL.Env) : retM f ρ = (f ρ).then fun d ρ1 => .rt d ρ1 := rfl
@[simp] theorem u_opP (op : D → D → Option D) (pa pb : PM) (ρ : VL.Env) : opP op pa pb ρ = (pa ρ).bind fun a => (pb ρ).bind fun b => op a b := rfl
@[simp] theorem u_unP (op : D → Option D) (pa : PM) (ρ : VL.Env) : unP op pa ρ = (pa ρ).bind op := rfl
@[simp] theorem u_callP (op : List D → Option D) (q : PA') (ρ : VL.Env) : callP op q ρ = (q ρ).bind op := rfl
@[simp] theorem u_nilP (ρ : VL.Env) : nilP ρ = some [] := rfl
@[simp] theorem u_consP (p : PM) (q : PA') (ρ : VL.Env) : consP p q ρ = (p ρ).bind fun d => (q ρ).bind fun ds => some (d :: ds) := rfl
@[simp] theorem u_nP (i : Nat) (ρ : VL.Env) : nP i ρ = ρ.at i := rfl
@[simp] theorem u_cP (d : D) (ρ : VL.Env) : cP d ρ = some d := rfl
@[simp] theorem u_seqM (a b : SM) (ρ : VL.Env) : seqM a b ρ = (a ρ).then b := rfl
@[simp] theorem u_ifM (c : TM) (a b : SM) (ρ : VL.Env) : ifM c a b ρ = (c ρ).then fun k ρ1 => if k = true then a ρ1 else b ρ1 := rfl
@[simp] theorem u_exprM (f : EM) (ρ : VL.Env) : exprM f ρ = (f ρ).then fun _ ρ1 => .nx ρ1 := rfl
@[simp] theorem u_setM (i : Nat) (f : EM) (ρ : VL.Env) : setM i f ρ = (f ρ).then fun d ρ1 => .nx (ρ1.set i (some d)) := rfl
@[simp] theorem u_nxM (ρ : VL.Env) : nxM ρ = .nx ρ := rfl
@[simp] theorem u_bkM (ρ : VL.Env) : bkM ρ = .bk ρ := rfl
@[simp] theorem u_ctM (ρ : VL.Env) : ctM ρ = .ct ρ := rfl
@[simp] theorem u_badM (ρ : VL.Env) : badM ρ = .bad := rfl
@[simp] theorem u_at (ρ : VL.Env) (i : Nat) : ρ.at i = (ρ[i]?).join := rfl
@[simp] theorem u_outs0 (S : List Nat) (i : Nat) (ρ : VL.Env) : outs S 0 i ρ = [] := by cases ρ <;> rfl
@[simp] theorem u_outs1 (S : List Nat) (n i : Nat) : outs S (n + 1) i [] = none :: outs S n (i + 1) [] := rfl
@[simp] theorem u_outs2 (S : List Nat) (n i : Nat) (o : Option D) (r : VL.Env) : outs S (n + 1) i (o :: r) = (if i ∈ S then o else none) :: outs S n (i + 1) r := rfl
@[simp] theorem u_valT (p : PM) (ρ : VL.Env) : valT p ρ = (p ρ).bind D.bool? := rfl
@[simp] theorem u_notT (p : PT') (ρ : VL.Env) : notT p ρ = (p ρ).map fun b => !b := rfl
@[simp] theorem u_andT (p q : PT') (ρ : VL.Env) : andT p q ρ = (p ρ).bind fun b => if b = true then q ρ else some false := rfl
@[simp] theorem u_orT (p q : PT') (ρ : VL.Env) : orT p q ρ = (p ρ).bind fun b => if b = true then some true else q ρ := rfl
@[simp] theorem u_andP (pa pb : PM) (ρ : VL.Env) : andP pa pb ρ = ((pa ρ).bind D.bool?).bind fun b => if b = true then pb ρ else some (.bl false) := rfl
@[simp] theorem u_orP (pa pb : PM) (ρ : VL.Env) : orP pa pb ρ = ((pa ρ).bind D.bool?).bind fun b => if b = true then some (.bl true) else pb ρ := rfl
@[simp] theorem u_notP (pa : PM) (ρ : VL.Env) : notP pa ρ = ((pa ρ).bind D.bool?).map fun b => .bl (!b) := rfl
@[simp] theorem u_tupP (q : PA') (ρ : VL.Env) : tupP q ρ = (q ρ).bind fun ds => if ds.length ≤ 1000 then some (.tup ds) else none := rfl
@[simp] theorem u_lstN (q : PA') (ρ : VL.Env) : lstN q ρ = (q ρ).bind fun ds => if ds.length ≤ 1000 ∧ froL ds = true then some (.lst true ds) else none := rfl
@[simp] theorem u_chainP (op op' : D → D → Option D) (pa pb pc : PM) (ρ : VL.Env) : chainP op op' pa pb pc ρ = (pa ρ).bind fun a => (pb ρ).bind fun b => ((op a b).bind D.bool?).bind fun k => if k = true then (pc ρ).bind fun c => op' b c else some (.bl false) := rfl
@[simp] theorem u_callM (m : List D → FR) (q : AM) (ρ : VL.Env) : callM m q ρ = (q ρ).bind fun as ρ1 => ranM m as ρ1 := rfl
@[simp] theorem u_nilE (ρ : VL.Env) : nilE ρ = .ok [] ρ := rfl
@[simp] theorem u_consE (f : EM) (q : AM) (ρ : VL.Env) : consE f q ρ = (f ρ).bind fun d ρ1 => (q ρ1).bind fun as ρ2 => .ok (.val d :: as) ρ2 := rfl
@[simp] theorem u_consL (i : Nat) (q : AM) (ρ : VL.Env) : consL i q ρ = if (ρ.at i).isSome = true then (q ρ).bind fun as ρ2 => .ok (.ld i :: as) ρ2 else .bad := rfl
@[simp] theorem u_takeA0 (ρ : VL.Env) : takeA [] ρ = some ([], ρ) := rfl
@[simp] theorem u_takeA1 (d : D) (as : List AV) (ρ : VL.Env) : takeA (.val d :: as) ρ = (takeA as ρ).map fun x => (d :: x.1, x.2) := rfl
@[simp] theorem u_takeA2 (i : Nat) (as : List AV) (ρ : VL.Env) : takeA (.ld i :: as) ρ = (ρ.at i).bind fun d => (takeA as (ρ.set i none)).map fun x => (d :: x.1, x.2) := rfl
@[simp] theorem u_giveA0 (os : List (Option D)) (ρ : VL.Env) : giveA [] os ρ = ρ := by cases os <;> rfl
@[simp] theorem u_giveA1 (d : D) (as : List AV) (o : Option D) (os : List (Option D)) (ρ : VL.Env) : giveA (.val d :: as) (o :: os) ρ = giveA as os ρ := rfl
@[simp] theorem u_giveA2 (i : Nat) (as : List AV) (o : Option D) (os : List (Option D)) (ρ : VL.Env) : giveA (.ld i :: as) (o :: os) ρ = giveA as os (ρ.set i o) := rfl
@[simp] theorem u_opE (op : D → D → Option D) (fa fb : EM) (ρ : VL.Env) : opE op fa fb ρ = (fa ρ).bind fun a ρ1 => (fb ρ1).bind fun b ρ2 => done (op a b) ρ2 := rfl
@[simp] theorem u_froP (p : PM) (ρ : VL.Env) : froP p ρ = froO (p ρ) := rfl
@[simp] theorem u_froO (o : Option D) : froO o = o.bind fun d => if d.fro = true then some d else none := rfl
@[simp] theorem u_valsOf0 : valsOf [] = some [] := rfl
@[simp] theorem u_valsOf1 (d : D) (as : List AV) : valsOf (.val d :: as) = (valsOf as).map (d :: ·) := rfl
@[simp] theorem u_callE (op : List D → Option D) (q : AM) (ρ : VL.Env) : callE op q ρ = (q ρ).bind fun as ρ1 => done ((valsOf as).bind op) ρ1 := rfl
@[simp] theorem u_tupE (q : AM) (ρ : VL.Env) : tupE q ρ = (q ρ).bind fun as ρ1 => done ((valsOf as).bind fun ds => if ds.length ≤ 1000 then some (.tup ds) else none) ρ1 := rfl
@[simp] theorem u_lstE (q : AM) (ρ : VL.Env) : lstE q ρ = (q ρ).bind fun as ρ1 => done ((valsOf as).bind fun ds => if ds.length ≤ 1000 then some (.lst true ds) else none) ρ1 := rfl
@[simp] theorem u_yesP (ρ : VL.Env) : yesP ρ = some true := rfl
@[simp] theorem u_yesM (ρ : VL.Env) : yesM ρ = .ok true ρ := rfl
@[simp] theorem u_noB (ρ : VL.Env) : noB ρ = some none := rfl
@[simp] theorem u_nmG (i : Nat) (d : D) (ρ : VL.Env) : nmG i d ρ = some (ρ.set i (some d)) := rfl
@[simp] theorem u_nmL (i : Nat) (ρ : VL.Env) : nmL i ρ = some (i, []) := rfl
@[simp] theorem u_sub0 (d : D) : d.sub [] = some d := by unfold D.sub; rfl
@[simp] theorem u_sub1 (d : D) (j : Nat) (p : List Nat) : d.sub (j :: p) = (d.kid j).bind fun k => k.sub p := by rw [D.sub]
@[simp] theorem u_esub (ρ : VL.Env) (i : Nat) (p : List Nat) : ρ.sub i p = (ρ.at i).bind fun d => d.sub p := rfl
@[simp] theorem u_orM (f g : TM) (ρ : VL.Env) : VL.orM f g ρ = (f ρ).bind fun b ρ1 => if b = true then .ok true ρ1 else g ρ1 := rfl
@[simp] theorem u_andM (f g : TM) (ρ : VL.Env) : VL.andM f g ρ = (f ρ).bind fun b ρ1 => if b = true then g ρ1 else .ok false ρ1 := rfl
@[simp] theorem u_notM (f : TM) (ρ : VL.Env) : VL.notM f ρ = (f ρ).bind fun b ρ1 => .ok (!b) ρ1 := rfl
@[simp] theorem u_valM (f : EM) (ρ : VL.Env) : VL.valM f ρ = (f ρ).bind fun a ρ1 => okB a.bool? ρ1 := rfl
@[simp] theorem bool_bl (b : Bool) : (D.bl b).bool? = some b := rfl
@[simp] theorem intOp_ii (g : Int → Int → D) (i j : Int) : intOp g (.int i) (.int j) = some (g i j) := rfl
@[simp] theorem intOpC_ii (C : Int → Int → Prop) [∀ i j, Decidable (C i j)] (g : Int → Int → D) (i j : Int) : intOpC C g (.int i) (.int j) = if C i j then some (g i j) else none := rfl
@[simp] theorem addX_ii (i j : Int) : addX (.int i) (.int j) = some (.int (i + j)) := rfl
@[simp] theorem addX_ll (o o' : Bool) (xs ys : List D) : addX (.lst o xs) (.lst o' ys) = if froL xs = true ∧ froL ys = true ∧ xs.length + ys.length ≤ 1000 then some (.lst true (xs ++ ys)) else none := rfl
@[simp] theorem addX_tt (xs ys : List D) : addX (.tup xs) (.tup ys) = if froL xs = true ∧ froL ys = true ∧ xs.length + ys.length ≤ 1000 then some (.tup (xs ++ ys)) else none := rfl
@[simp] theorem isBlD_bb (a b : Bool) : isBlD (.bl a) (.bl b) = some (.bl (decide (a = b))) := rfl
@[simp] theorem notBlD_bb (a b : Bool) : notBlD (.bl a) (.bl b) = some (.bl (!decide (a = b))) := rfl
@[simp] theorem absD_i (i : Int) : absD [.int i] = some (.int (if i < 0 then -i else i)) := rfl
@[simp] theorem toIntD_i (i : Int) : toIntD [.int i] = some (.int i) := rfl
@[simp] theorem toIntD_b (k : Bool) : toIntD [.bl k] = some (.int (if k then 1 else 0)) := rfl
@[simp] theorem max2D_i (i j : Int) : max2D [.int i, .int j] = some (.int (if j > i then j else i)) := rfl
@[simp] theorem min2D_i (i j : Int) : min2D [.int i, .int j] = some (.int (if j < i then j else i)) := rfl
@[simp] theorem lenD_l (o : Bool) (l : List D) : lenD [.lst o l] = some (.int l.length) := rfl
@[simp] theorem lenD_t (l : List D) : lenD [.tup l] = some (.int l.length) := rfl
@[simp] theorem lenD_e (l : List D) : lenD [.ext l] = some (.int l.length) := rfl
@[simp] theorem listD_eq (d : D) : listD [d] = (seqOf d).bind fun ds => if froL ds = true then some (.lst true ds) else none := rfl
@[simp] theorem tupleD_eq (d : D) : tupleD [d] = (seqOf d).bind fun ds => if froL ds = true then some (.tup ds) else none := rfl
def cnR (r : FR) : Option D := match r with
  | .rt d _ => if d.own = true then some d else none
  | _ => none
@[simp] theorem callN_eq (m : List D → FR) (q : PA') (ρ : VL.Env) : callN m q ρ = (q ρ).bind fun ds => cnR (m (frzL ds)) := by
  unfold callN cnR; rfl
@[simp] theorem cnR_rt (d : D) (os : List (Option D)) : cnR (.rt d os) = if d.own = true then some d else none := rfl
def atR (o : Option D) : Option (Option Int) := o.bind fun d => match d with
  | .int i => some (some i)
  | _ => none
@[simp] theorem atB_eq (p : PM) (ρ : VL.Env) : atB p ρ = atR (p ρ) := by
  unfold atB atR; rfl
@[simp] theorem atR_i (i : Int) : atR (some (.int i)) = some (some i) := rfl
def nmO (i : Nat) (o : Option D) (ρ : VL.Env) : R D := match o with
  | some d => .ok d (ρ.set i none)
  | none => .bad
@[simp] theorem nM_eq (i : Nat) (ρ : VL.Env) : nM i ρ = nmO i (ρ.at i) ρ := by
  unfold nM nmO; rfl
@[simp] theorem nmO_some (i : Nat) (d : D) (ρ : VL.Env) : nmO i (some d) ρ = .ok d (ρ.set i none) := rfl
@[simp] theorem done_some (d : D) (ρ : VL.Env) : done (some d) ρ = .ok d ρ := rfl
@[simp] theorem okB_some (d : Bool) (ρ : VL.Env) : okB (some d) ρ = .ok d ρ := rfl
def ptO (i : Nat) (p : List Nat) (c : D) (o : Option D) (ρ : VL.Env) : VL.Env := match o with
  | some d => ρ.set i (some (d.put p c))
  | none => ρ
@[simp] theorem putAt_eq (ρ : VL.Env) (i : Nat) (p : List Nat) (c : D) : ρ.putAt i p c = ptO i p c (ρ.at i) ρ := by
  unfold Env.putAt ptO; rfl
@[simp] theorem ptO_some (i : Nat) (p : List Nat) (c d : D) (ρ : VL.Env) : ptO i p c (some d) ρ = ρ.set i (some (d.put p c)) := rfl
@[simp] theorem put_nil (d c : D) : d.put [] c = c := by unfold D.put; rfl
def pkO (o : Option D) (j : Nat) (p : List Nat) (d c : D) : D := match o with
  | some k => d.setKid j (k.put p c)
  | none => d
@[simp] theorem put_cons (d : D) (j : Nat) (p : List Nat) (c : D) : d.put (j :: p) c = pkO (d.kid j) j p d c := by
  rw [D.put]; rfl
@[simp] theorem pkO_some (k : D) (j : Nat) (p : List Nat) (d c : D) : pkO (some k) j p d c = d.setKid j (k.put p c) := rfl
section
variable {α β : Type} {c : Prop} [Decidable c]
@[simp] theorem rb_ok (a : α) (ρ : VL.Env) (k : α → VL.Env → R β) : (R.ok a ρ).bind k = k a ρ := (rfl)
@[simp] theorem rb_exc (e : Ex) (ρ : VL.Env) (k : α → VL.Env → R β) : (R.exc e ρ : R α).bind k = .exc e ρ := (rfl)
@[simp] theorem rb_ite (a b : R α) (k : α → VL.Env → R β) : (if c then a else b).bind k = if c then a.bind k else b.bind k := apply_ite (fun x => R.bind x k) c a b
@[simp] theorem rt_ok (a : α) (ρ : VL.Env) (k : α → VL.Env → SR) : (R.ok a ρ).then k = k a ρ := (rfl)
@[simp] theorem rt_exc (e : Ex) (ρ : VL.Env) (k : α → VL.Env → SR) : (R.exc e ρ : R α).then k = .exc e ρ := (rfl)
@[simp] theorem rt_ite (a b : R α) (k : α → VL.Env → SR) : (if c then a else b).then k = if c then a.then k else b.then k := apply_ite (fun x => R.then x k) c a b
@[simp] theorem st_nx (ρ : VL.Env) (k : VL.Env → SR) : (SR.nx ρ).then k = k ρ := (rfl)
@[simp] theorem st_rt (d : D) (ρ : VL.Env) (k : VL.Env → SR) : (SR.rt d ρ).then k = .rt d ρ := (rfl)
@[simp] theorem st_bk (ρ : VL.Env) (k : VL.Env → SR) : (SR.bk ρ).then k = .bk ρ := (rfl)
@[simp] theorem st_ct (ρ : VL.Env) (k : VL.Env → SR) : (SR.ct ρ).then k = .ct ρ := (rfl)
@[simp] theorem st_exc (e : Ex) (ρ : VL.Env) (k : VL.Env → SR) : (SR.exc e ρ).then k = .exc e ρ := (rfl)
@[simp] theorem st_ite (a b : SR) (k : VL.Env → SR) : (if c then a else b).then k = if c then a.then k else b.then k := apply_ite (fun x => SR.then x k) c a b
@[simp] theorem ob_ite (a b : Option α) (f : α → Option β) : (if c then a else b).bind f = if c then a.bind f else b.bind f := apply_ite (fun x => Option.bind x f) c a b
@[simp] theorem ite_bl_and (b : Bool) : (if c then some (D.bl b) else some (D.bl false)) = some (D.bl (decide c && b)) := by by_cases h : c <;> simp [h]
@[simp] theorem ite_bl_or (b : Bool) : (if c then some (D.bl true) else some (D.bl b)) = some (D.bl (decide c || b)) := by by_cases h : c <;> simp [h]
@[simp] theorem ite_b_and (b : Bool) : (if c then some b else some false) = some (decide c && b) := by by_cases h : c <;> simp [h]
@[simp] theorem ite_b_or (b : Bool) : (if c then some true else some b) = some (decide c || b) := by by_cases h : c <;> simp [h]
end
def toF (n : Nat) (S : List Nat) (r : SR) : FR := match r with
  | .nx ρ => .rt .non (outs S n 0 ρ)
  | .rt d ρ => .rt d (outs S n 0 ρ)
  | .exc e ρ => .exc e (outs S n 0 ρ)
  | _ => .bad
@[simp] theorem mkF_eq (n N : Nat) (S : List Nat) (body : SM) (ds : List D) : mkF n N S body ds = if ds.length = n then toF n S (body (ds.map some ++ List.replicate (N - n) none)) else .bad := by
  unfold mkF toF; rfl
@[simp] theorem toF_nx (n : Nat) (S : List Nat) (ρ : VL.Env) : toF n S (.nx ρ) = .rt .non (outs S n 0 ρ) := (rfl)
@[simp] theorem toF_rt (n : Nat) (S : List Nat) (d : D) (ρ : VL.Env) : toF n S (.rt d ρ) = .rt d (outs S n 0 ρ) := (rfl)
@[simp] theorem toF_exc (n : Nat) (S : List Nat) (e : Ex) (ρ : VL.Env) : toF n S (.exc e ρ) = .exc e (outs S n 0 ρ) := (rfl)
@[simp] theorem toF_ite (n : Nat) (S : List Nat) (c : Prop) [Decidable c] (a b : SR) : toF n S (if c then a else b) = if c then toF n S a else toF n S b := apply_ite (fun x => toF n S x) c a b
def lfA (o o' : Option D) (ρ ρ' : VL.Env) : R D := match o with
  | some d => if d.fro = true then .ok d ρ else match o' with
      | some d' => if d'.fro = true then .ok d' ρ' else .bad
      | none => .bad
  | none => .bad
@[simp] theorem liftA_eq (is : List Nat) (p : PM) (ρ : VL.Env) : liftA is p ρ = lfA (p ρ) (p (lockE is ρ)) ρ (lockE is ρ) := (rfl)
@[simp] theorem lfA_fro (d : D) (h : d.fro = true) (o : Option D) (ρ ρ' : VL.Env) : lfA (some d) o ρ ρ' = .ok d ρ := if_pos h
@[simp] theorem lfA_own (d d' : D) (h : d.fro = false) (h' : d'.fro = true) (ρ ρ' : VL.Env) : lfA (some d) (some d') ρ ρ' = .ok d' ρ' := by simp [lfA, h, h']
def rnM (as : List AV) (o : Option (List D × VL.Env)) (m : List D → FR) : R D := match o with
  | some (ds, ρ2) => match m ds with
    | .rt d os => .ok d (giveA as os ρ2)
    | .exc e os => .exc e (giveA as os ρ2)
    | .bad => .bad
  | none => .bad
def rnF (as : List AV) (ρ2 : VL.Env) (r : FR) : R D := match r with
  | .rt d os => .ok d (giveA as os ρ2)
  | .exc e os => .exc e (giveA as os ρ2)
  | .bad => .bad
@[simp] theorem ranM_eq (m : List D → FR) (as : List AV) (ρ : VL.Env) : ranM m as ρ = rnM as (takeA as ρ) m := (rfl)
@[simp] theorem rnM_some (as : List AV) (ds : List D) (ρ2 : VL.Env) (m : List D → FR) : rnM as (some (ds, ρ2)) m = rnF as ρ2 (m ds) := (rfl)
@[simp] theorem rnF_rt (as : List AV) (ρ2 : VL.Env) (d : D) (os : List (Option D)) : rnF as ρ2 (.rt d os) = .ok d (giveA as os ρ2) := (rfl)
@[simp] theorem rnF_exc (as : List AV) (ρ2 : VL.Env) (d : Ex) (os : List (Option D)) : rnF as ρ2 (.exc d os) = .exc d (giveA as os ρ2) := (rfl)
def flK (r : SR) (k : VL.Env → SR) : SR := match r with
  | .nx ρ => k ρ
  | .ct ρ => k ρ
  | .bk ρ => .nx ρ
  | .rt d ρ => .rt d ρ
  | .exc e ρ => .exc e ρ
  | .bad => .bad
def flG (o : Option VL.Env) (k : VL.Env → SR) : SR := match o with
  | none => .bad
  | some ρ => k ρ
@[simp] theorem flK_nx (ρ : VL.Env) (k : VL.Env → SR) : flK (.nx ρ) k = k ρ := rfl
@[simp] theorem flK_ct (ρ : VL.Env) (k : VL.Env → SR) : flK (.ct ρ) k = k ρ := rfl
@[simp] theorem flK_bk (ρ : VL.Env) (k : VL.Env → SR) : flK (.bk ρ) k = .nx ρ := rfl
@[simp] theorem flK_rt (d : D) (ρ : VL.Env) (k : VL.Env → SR) : flK (.rt d ρ) k = .rt d ρ := rfl
@[simp] theorem flK_exc (d : Ex) (ρ : VL.Env) (k : VL.Env → SR) : flK (.exc d ρ) k = .exc d ρ := rfl
@[simp] theorem flK_ite (c : Prop) [Decidable c] (a b : SR) (k : VL.Env → SR) : flK (if c then a else b) k = if c then flK a k else flK b k := apply_ite (fun x => flK x k) c a b
@[simp] theorem flG_some (ρ : VL.Env) (k : VL.Env → SR) : flG (some ρ) k = k ρ := rfl
@[simp] theorem forL_nil (gm : GM) (m : SM) (ρ : VL.Env) : forL gm m [] ρ = .nx ρ := rfl
@[simp] theorem forL_cons (gm : GM) (m : SM) (d : D) (ds : List D) (ρ : VL.Env) : forL gm m (d :: ds) ρ = flG (gm d ρ) fun ρ1 => flK (m ρ1) (forL gm m ds) := by
  rw [forL]
  cases gm d ρ with
  | none => rfl
  | some ρ1 => simp only [flG]; cases m ρ1 <;> rfl
/-- a loop that goes through, with what holds behind each turn -/
theorem forL_inv {gm : GM} {m : SM} (P : Nat → VL.Env → Prop) : ∀ (ds : List D) (i : Nat) (ρ : VL.Env), P i ρ → (∀ j d ρ1, ds[j]? = some d → P (i + j) ρ1 → ∃ ρ2 ρ3, gm d ρ1 = some ρ2 ∧ m ρ2 = .nx ρ3 ∧ P (i + j + 1) ρ3) → ∃ ρ', forL gm m ds ρ = .nx ρ' ∧ P (i + ds.length) ρ'
  | [], i, ρ, h, _ => ⟨ρ, rfl, h⟩
  | d :: ds, i, ρ, h, st => by
    obtain ⟨ρ2, ρ3, e1, e2, h2⟩ := st 0 d ρ rfl h
    obtain ⟨ρ', e3, h3⟩ := forL_inv P ds (i + 1) ρ3 h2 fun j d' ρ1 hj hp => by
      have := st (j + 1) d' ρ1 hj (by rw [← Nat.add_assoc, Nat.add_right_comm]; exact hp)
      rw [← Nat.add_assoc, Nat.add_right_comm i j 1] at this
      exact this
    refine ⟨ρ', ?_, ?_⟩
    · rw [forL_cons, e1, flG_some, e2, flK_nx, e3]
    · rw [List.length_cons, ← Nat.add_assoc, Nat.add_right_comm]; exact h3
@[simp] theorem nilG_nil (ρ : VL.Env) : nilG [] ρ = some ρ := rfl
@[simp] theorem consG_cons (g : GM) (h : GsM) (d : D) (r : List D) (ρ : VL.Env) : consG g h (d :: r) ρ = (g d ρ).bind (h r) := rfl
@[simp] theorem tupG_tup (n : Nat) (h : GsM) (ds : List D) (ρ : VL.Env) : tupG n h (.tup ds) ρ = if ds.length = n then h ds ρ else none := rfl
def agO (o : Option VL.Env) : SR := match o with
  | some ρ => .nx ρ
  | none => .bad
@[simp] theorem agO_some (ρ : VL.Env) : agO (some ρ) = .nx ρ := rfl
@[simp] theorem asgM_eq (g : GM) (f : EM) (ρ : VL.Env) : asgM g f ρ = (f ρ).then fun d ρ1 => agO (g d ρ1) := by
  unfold asgM agO; rfl
@[simp] theorem isNonD_eq (d : D) : isNonD d .non = some (.bl d.isNon) := rfl
@[simp] theorem notNonD_eq (d : D) : notNonD d .non = some (.bl (!d.isNon)) := rfl
@[simp] theorem isNon_non : D.non.isNon = true := rfl
@[simp] theorem isNon_lst (o : Bool) (l : List D) : (D.lst o l).isNon = false := rfl
@[simp] theorem isNon_tup (l : List D) : (D.tup l).isNon = false := rfl
def mtA (o : Option D) (r : R D) : R D := match o with
  | some (.lst true _) => r
  | _ => .bad
def mtO (i : Nat) (o : Option (List D × D)) (ρ : VL.Env) : R D := match o with
  | some (ds', d') => .ok d' (ρ.set i (some (.lst true ds')))
  | none => .bad
def mtR (mop : MopL) (i : Nat) (o1 : Option (List D)) (o2 : Option D) (ρ : VL.Env) : R D := match o1, o2 with
  | some as, some (.lst true ds) => mtO i (mop ds as) ρ
  | _, _ => .bad
@[simp] theorem mtA_lst (l : List D) (r : R D) : mtA (some (.lst true l)) r = r := rfl
@[simp] theorem mtO_some (i : Nat) (ds : List D) (d : D) (ρ : VL.Env) : mtO i (some (ds, d)) ρ = .ok d (ρ.set i (some (.lst true ds))) := rfl
@[simp] theorem mtR_some (mop : MopL) (i : Nat) (as ds : List D) (ρ : VL.Env) : mtR mop i (some as) (some (.lst true ds)) ρ = mtO i (mop ds as) ρ := rfl
@[simp] theorem mtdN_eq (mop : MopL) (i : Nat) (q : AM) (ρ : VL.Env) : mtdN mop i q ρ = mtA (ρ.at i) ((q ρ).bind fun as ρ1 => mtR mop i (valsOf as) (ρ1.at i) ρ1) := by
  unfold mtdN mtA mtR mtO
  rfl
@[simp] theorem moAppend_1 (ds : List D) (d : D) : moAppend ds [d] = if ds.length < sizeLine then some (ds ++ [d], .non) else none := rfl
@[simp] theorem mtO_ite (i : Nat) (c : Prop) [Decidable c] (h : c) (x : Option (List D × D)) (ρ : VL.Env) : mtO i (if c then x else none) ρ = mtO i x ρ := by rw [if_pos h]
@[simp] theorem seqOf_lst (o : Bool) (l : List D) : seqOf (.lst o l) = some l := rfl
@[simp] theorem seqOf_tup (l : List D) : seqOf (.tup l) = some l := rfl
@[simp] theorem seqOf_ext (l : List D) : seqOf (.ext l) = some l := rfl
/-! stores into lists -/
def stL (o : Option Nat) (i : Nat) (p : List Nat) (ds : List D) (d : D) (ρ1 : VL.Env) : SR := match o with
  | some j => .nx (ρ1.putAt i p (.lst true (ds.set j d)))
  | none => .bad
def stK (s : Option D) (i : Nat) (p : List Nat) (k : Int) (d : D) (ρ1 : VL.Env) : SR := match s with
  | some (.lst true ds) => stL (ixN ds.length k) i p ds d ρ1
  | _ => .bad
def stO (o : Option (Nat × List Nat)) (b : Option D) (d : D) (ρ1 : VL.Env) : SR := match o, b with
  | some (i, p), some (.int k) => stK (ρ1.sub i p) i p k d ρ1
  | _, _ => .bad
@[simp] theorem stL_some (j i : Nat) (p : List Nat) (ds : List D) (d : D) (ρ1 : VL.Env) : stL (some j) i p ds d ρ1 = .nx (ρ1.putAt i p (.lst true (ds.set j d))) := rfl
@[simp] theorem stK_lst (i : Nat) (p : List Nat) (ds : List D) (k : Int) (d : D) (ρ1 : VL.Env) : stK (some (.lst true ds)) i p k d ρ1 = stL (ixN ds.length k) i p ds d ρ1 := rfl
@[simp] theorem stO_some (i : Nat) (p : List Nat) (k : Int) (d : D) (ρ1 : VL.Env) : stO (some (i, p)) (some (.int k)) d ρ1 = stK (ρ1.sub i p) i p k d ρ1 := rfl
@[simp] theorem stoM_eq (pl : LM) (pb : PM) (f : EM) (ρ : VL.Env) : stoM pl pb f ρ = (f ρ).then fun d ρ1 => stO (pl ρ1) (pb ρ1) d ρ1 := by
  unfold stoM stO stK stL
  rfl
theorem ixN_nat {n k : Nat} (h : k < n) : ixN n (k : Int) = some k := by
  unfold ixN
  rw [if_pos (Int.natCast_nonneg k), if_pos (by omega)]
  simp
@[simp] theorem ixN40 : ixN 4 0 = some 0 := rfl
@[simp] theorem ixN41 : ixN 4 1 = some 1 := rfl
@[simp] theorem ixN42 : ixN 4 2 = some 2 := rfl
@[simp] theorem ixN43 : ixN 4 3 = some 3 := rfl
@[simp] theorem ixN20 : ixN 2 0 = some 0 := rfl
@[simp] theorem ixN21 : ixN 2 1 = some 1 := rfl
@[simp] theorem ixN30 : ixN 3 0 = some 0 := rfl
@[simp] theorem ixN31 : ixN 3 1 = some 1 := rfl
@[simp] theorem ixN32 : ixN 3 2 = some 2 := rfl
@[simp] theorem kid_lst (l : List D) (j : Nat) : (D.lst true l).kid j = l[j]? := rfl
@[simp] theorem setKid_lst (l : List D) (j : Nat) (c : D) : (D.lst true l).setKid j c = .lst true (l.set j c) := rfl
/-! calls that only borrow, constructors, try -/
def cbR (r : FR) (ρ : VL.Env) : R D := match r with
  | .rt d _ => if d.own = true then .ok d ρ else .bad
  | .exc e _ => if ownL e.ds = true then .exc e ρ else .bad
  | .bad => .bad
def cbO (m : List D → FR) (o : Option (List D)) (ρ : VL.Env) : R D := match o with
  | some ds => cbR (m (frzL ds)) ρ
  | none => .bad
@[simp] theorem cbR_rt (d : D) (os : List (Option D)) (ρ : VL.Env) : cbR (.rt d os) ρ = if d.own = true then .ok d ρ else .bad := rfl
@[simp] theorem cbR_exc (e : Ex) (os : List (Option D)) (ρ : VL.Env) : cbR (.exc e os) ρ = if ownL e.ds = true then .exc e ρ else .bad := rfl
@[simp] theorem cbO_some (m : List D → FR) (ds : List D) (ρ : VL.Env) : cbO m (some ds) ρ = cbR (m (frzL ds)) ρ := rfl
@[simp] theorem callB_eq (m : List D → FR) (q : PA') (ρ : VL.Env) : callB m q ρ = cbO m (q ρ) ρ := by
  unfold callB cbO cbR; rfl
def mkR (c : Str) (m : List D → FR) (r : R (List AV)) : R D := r.bind fun as ρ1 => match takeA as ρ1 with
  | some (ds, ρ2) => match m (.obj true c [] [] :: ds) with
    | .rt .non (some o :: os) => .ok o (giveA as os ρ2)
    | .exc e (_ :: os) => .exc e (giveA as os ρ2)
    | _ => .bad
  | none => .bad
@[simp] theorem mkM_eq (c : Str) (m : List D → FR) (q : AM) (ρ : VL.Env) : mkM c m q ρ = mkR c m (q ρ) := rfl
def tryR (T : Tab) (r : SR) (cl : List ClM) : SR := match r with
  | .exc e ρ1 => handM T e ρ1 cl
  | r => r
@[simp] theorem tryM_eq (T : Tab) (m : SM) (cl : List ClM) (ρ : VL.Env) : tryM T m cl ρ = tryR T (m ρ) cl := rfl
@[simp] theorem tryR_nx (T : Tab) (ρ : VL.Env) (cl : List ClM) : tryR T (.nx ρ) cl = .nx ρ := rfl
@[simp] theorem tryR_exc (T : Tab) (e : Ex) (ρ : VL.Env) (cl : List ClM) : tryR T (.exc e ρ) cl = handM T e ρ cl := rfl
def hdR (T : Tab) (e : Ex) (ρ : VL.Env) (o : Option Nat) (m : SM) (r : List ClM) (b : Option Bool) : SR := match b with
  | some true => exitM o (m (onE o e ρ))
  | some false => handM T e ρ r
  | none => .bad
@[simp] theorem handM_cons (T : Tab) (e : Ex) (ρ : VL.Env) (t : Tag) (o : Option Nat) (m : SM) (r : List ClM) : handM T e ρ ((t, o, m) :: r) = hdR T e ρ o m r (tabGet T (.inr e.c) t) := by
  unfold hdR; rw [handM]; try rfl
@[simp] theorem hdR_t (T : Tab) (e : Ex) (ρ : VL.Env) (o : Option Nat) (m : SM) (r : List ClM) : hdR T e ρ o m r (some true) = exitM o (m (onE o e ρ)) := rfl
@[simp] theorem hdR_f (T : Tab) (e : Ex) (ρ : VL.Env) (o : Option Nat) (m : SM) (r : List ClM) : hdR T e ρ o m r (some false) = handM T e ρ r := rfl
@[simp] theorem onE_none (e : Ex) (ρ : VL.Env) : onE none e ρ = ρ := rfl
@[simp] theorem onE_some (i : Nat) (e : Ex) (ρ : VL.Env) : onE (some i) e ρ = ρ.set i (some (.exn e.c e.ns e.ds)) := rfl
@[simp] theorem offE_none (ρ : VL.Env) : exitM.offE none ρ = ρ := rfl
@[simp] theorem offE_some (i : Nat) (ρ : VL.Env) : exitM.offE (some i) ρ = ρ.set i none := rfl
@[simp] theorem exitM_nx (o : Option Nat) (ρ : VL.Env) : exitM o (.nx ρ) = .nx (exitM.offE o (unx ρ)) := rfl
@[simp] theorem unx_nil : unx [] = [] := rfl
@[simp] theorem unx_none (ρ : VL.Env) : unx (none :: ρ) = none :: unx ρ := rfl
@[simp] theorem unx_some (d : D) (ρ : VL.Env) : unx (some d :: ρ) = (if d.nox = true then some d else none) :: unx ρ := rfl
def xfO (cs : List Str) (fl : Str) (d : D) : Option D := match d with
  | .exn c ns ds => if c ∈ cs ∧ fl ∈ ns then ds[ns.idxOf fl]? else none
  | _ => none
@[simp] theorem xfldP_eq (cs : List Str) (fl : Str) (pa : PM) (ρ : VL.Env) : xfldP cs fl pa ρ = (pa ρ).bind (xfO cs fl) := rfl
def mthO (c mth : Str) (m : List D → FR) (d : D) (q : Option (List D)) : Option D := match d with
  | .obj o c' ns ds => if c' = c ∧ mth ∉ ns then q.bind fun es => match m (frzL (.obj o c' ns ds :: es)) with
      | .rt d _ => if d.own = true then some d else none
      | _ => none
    else none
  | _ => none
@[simp] theorem methN_eq (c mth : Str) (pa : PM) (m : List D → FR) (q : PA') (ρ : VL.Env) : methN c mth pa m q ρ = (pa ρ).bind fun d => mthO c mth m d (q ρ) := by
  unfold methN mthO
  rfl
def rsO (c fl : Str) (o : Option D) (ρ : VL.Env) : SR := match o with
  | some d => if d.fro = true then .exc ⟨c, [fl], [d]⟩ ρ else .bad
  | none => .bad
@[simp] theorem raiseP_eq (c fl : Str) (pa : PM) (ρ : VL.Env) : raiseP c fl pa ρ = rsO c fl (pa ρ) ρ := by
  unfold raiseP rsO; rfl
@[simp] theorem rsO_some (c fl : Str) (d : D) (ρ : VL.Env) : rsO c fl (some d) ρ = if d.fro = true then .exc ⟨c, [fl], [d]⟩ ρ else .bad := rfl
def lfN (o : Option D) (ρ : VL.Env) : R D := match o with
  | some d => .ok d ρ
  | none => .bad
@[simp] theorem liftN_eq (p : PM) (ρ : VL.Env) : liftN p ρ = lfN (p ρ) ρ := by
  unfold liftN lfN; rfl
@[simp] theorem lfN_some (d : D) (ρ : VL.Env) : lfN (some d) ρ = .ok d ρ := rfl
def lfT (o : Option Bool) (ρ : VL.Env) : R Bool := match o with
  | some b => .ok b ρ
  | none => .bad
@[simp] theorem liftT_eq (p : PT') (ρ : VL.Env) : liftT p ρ = lfT (p ρ) ρ := by
  unfold liftT lfT; rfl
@[simp] theorem lfT_some (d : Bool) (ρ : VL.Env) : lfT (some d) ρ = .ok d ρ := rfl
def fmO (o : Option (List D)) (gm : GM) (m : SM) (ρ : VL.Env) : SR := match o with
  | some ds => forL gm m ds ρ
  | none => .bad
@[simp] theorem fmO_some (ds : List D) (gm : GM) (m : SM) (ρ : VL.Env) : fmO (some ds) gm m ρ = forL gm m ds ρ := rfl
@[simp] theorem forM_eq (it : D → Option (List D)) (f : EM) (gm : GM) (m : SM) (ρ : VL.Env) : VL.forM it f gm m ρ = (f ρ).then fun d ρ1 => fmO (it d) gm m ρ1 := by
  unfold VL.forM fmO; rfl
@[simp] theorem forR_eq (it : List AV → Option (List D)) (q : AM) (gm : GM) (m : SM) (ρ : VL.Env) : VL.forR it q gm m ρ = (q ρ).then fun as ρ1 => fmO (it as) gm m ρ1 := by
  unfold VL.forR fmO; rfl
@[simp] theorem itL_lst (o : Bool) (l : List D) : itL (.lst o l) = if froL l = true then some l else none := rfl
@[simp] theorem itT_tup (l : List D) : itT (.tup l) = if froL l = true then some l else none := rfl
@[simp] theorem itE_lst (o : Bool) (l : List D) : itE (.lst o l) = if froL l = true then some (enumD 0 l) else none := rfl
@[simp] theorem piL_lst (o : Bool) (l : List D) : piL (.lst o l) = some l := rfl
@[simp] theorem piL_ext (l : List D) : piL (.ext l) = some l := rfl
@[simp] theorem piE_lst (o : Bool) (l : List D) : piE (.lst o l) = some (enumD 0 l) := rfl
def lkO (i : Nat) (o : Option D) (ρ : VL.Env) : VL.Env := match o with
  | some d => ρ.set i (some d.frz)
  | none => ρ
@[simp] theorem lock1_eq (i : Nat) (ρ : VL.Env) : lock1 i ρ = lkO i (ρ.at i) ρ := by
  unfold lock1 lkO; rfl
@[simp] theorem lkO_some (i : Nat) (d : D) (ρ : VL.Env) : lkO i (some d) ρ = ρ.set i (some d.frz) := rfl
@[simp] theorem lkO_none (i : Nat) (ρ : VL.Env) : lkO i none ρ = ρ := rfl
@[simp] theorem lockE_nil (ρ : VL.Env) : lockE [] ρ = ρ := rfl
@[simp] theorem lockE_cons (i : Nat) (is : List Nat) (ρ : VL.Env) : lockE (i :: is) ρ = lockE is (lock1 i ρ) := rfl
@[simp] theorem truth_lst (o : Bool) (l : List D) : (D.lst o l).truth = some (!l.isEmpty) := rfl
@[simp] theorem truth_bl (b : Bool) : (D.bl b).truth = some b := rfl
@[simp] theorem truth_int (i : Int) : (D.int i).truth = some (i != 0) := rfl
def fnP (o : Option D) (i : Nat) (gm : GM) (m : SM) (ρ : VL.Env) : SR := match o with
  | some d => match d with
    | .lst true ds => if froL ds = true then (forL gm m ds (ρ.set i none)).put i d else .bad
    | _ => .bad
  | none => .bad
@[simp] theorem forN_eq (i : Nat) (gm : GM) (m : SM) (ρ : VL.Env) : forN i gm m ρ = fnP (ρ.at i) i gm m ρ := by
  unfold forN fnP; rfl
@[simp] theorem fnP_some (l : List D) (i : Nat) (gm : GM) (m : SM) (ρ : VL.Env) : fnP (some (.lst true l)) i gm m ρ = if froL l = true then (forL gm m l (ρ.set i none)).put i (.lst true l) else .bad := rfl
@[simp] theorem put_nx (i : Nat) (d : D) (ρ : VL.Env) : SR.put i d (.nx ρ) = .nx (ρ.set i (some d)) := rfl
def nxO (op : D → D → Option D) (o : Option D) (b : D) (ρ : VL.Env) : R D := match o with
  | some a => done (froO (op a b)) ρ
  | none => .bad
@[simp] theorem nixE_eq (op : D → D → Option D) (i : Nat) (f : EM) (ρ : VL.Env) : nixE op i f ρ = if (ρ.at i).isSome = true then (f ρ).bind fun b ρ1 => nxO op (ρ1.at i) b ρ1 else .bad := by
  unfold nixE nxO; rfl
@[simp] theorem nxO_some (op : D → D → Option D) (a b : D) (ρ : VL.Env) : nxO op (some a) b ρ = done (froO (op a b)) ρ := rfl
@[simp] theorem ixE_eq (op : D → D → Option D) (a b : D) : ixE op a b = froO (op a b) := rfl
/-- a call's answer -/
def FRo (r : FR) (Q : D → List (Option D) → Prop) : Prop := ∃ d os, r = .rt d os ∧ Q d os
@[simp] theorem fr_rt (d : D) (os : List (Option D)) (Q : D → List (Option D) → Prop) : FRo (.rt d os) Q ↔ Q d os := ⟨fun ⟨d', os', e, h⟩ => by cases e; exact h, fun h => ⟨d, os, rfl, h⟩⟩
@[simp] theorem fr_ite (c : Prop) [Decidable c] (a b : FR) (Q : D → List (Option D) → Prop) : FRo (if c then a else b) Q ↔ if c then FRo a Q else FRo b Q := by split <;> rfl
/-- a suite that ends well -/
def NX (r : SR) (Q : VL.Env → Prop) : Prop := ∃ ρ, r = .nx ρ ∧ Q ρ
@[simp] theorem nx_nx (ρ : VL.Env) (Q : VL.Env → Prop) : NX (.nx ρ) Q ↔ Q ρ := ⟨fun ⟨ρ', e, h⟩ => by cases e; exact h, fun h => ⟨ρ, rfl, h⟩⟩
@[simp] theorem nx_ite (c : Prop) [Decidable c] (a b : SR) (Q : VL.Env → Prop) : NX (if c then a else b) Q ↔ if c then NX a Q else NX b Q := by split <;> rfl
def GX (o : Option VL.Env) (Q : VL.Env → Prop) : Prop := ∃ ρ, o = some ρ ∧ Q ρ
@[simp] theorem gx_some (ρ : VL.Env) (Q : VL.Env → Prop) : GX (some ρ) Q ↔ Q ρ := ⟨fun ⟨ρ', e, h⟩ => by cases e; exact h, fun h => ⟨ρ, rfl, h⟩⟩
theorem loop_ex {gm : GM} {m : SM} {ds : List D} {ρ : VL.Env} (P : Nat → VL.Env → Prop) (h0 : P 0 ρ) (st : ∀ j d ρ1, ds[j]? = some d → P j ρ1 → GX (gm d ρ1) fun ρ2 => NX (m ρ2) (P (j + 1))) : ∃ ρ', forL gm m ds ρ = .nx ρ' ∧ P ds.length ρ' := by
  have := forL_inv (gm := gm) (m := m) P ds 0 ρ h0 fun j d ρ1 hd hp => by
    rw [Nat.zero_add] at hp ⊢
    obtain ⟨ρ2, e1, ρ3, e2, h⟩ := st j d ρ1 hd hp
    exact ⟨ρ2, ρ3, e1, e2, h⟩
  rw [Nat.zero_add] at this
  exact this
theorem loop_fr {gm : GM} {m : SM} {ds : List D} {ρ : VL.Env} {k : VL.Env → SR} {n : Nat} {S : List Nat} {Q : D → List (Option D) → Prop} (P : Nat → VL.Env → Prop) (h0 : P 0 ρ) (st : ∀ j d ρ1, ds[j]? = some d → P j ρ1 → GX (gm d ρ1) fun ρ2 => NX (m ρ2) (P (j + 1)))
    (fin : ∀ ρ', P ds.length ρ' → FRo (toF n S (k ρ')) Q) : FRo (toF n S ((forL gm m ds ρ).then k)) Q := by
  obtain ⟨ρ', e, h⟩ := loop_ex P h0 st
  rw [e]
  exact fin ρ' h
theorem loop_fr0 {gm : GM} {m : SM} {ds : List D} {ρ : VL.Env} {n : Nat} {S : List Nat} {Q : D → List (Option D) → Prop} (P : Nat → VL.Env → Prop) (h0 : P 0 ρ) (st : ∀ j d ρ1, ds[j]? = some d → P j ρ1 → GX (gm d ρ1) fun ρ2 => NX (m ρ2) (P (j + 1)))
    (fin : ∀ ρ', P ds.length ρ' → Q .non (outs S n 0 ρ')) : FRo (toF n S (forL gm m ds ρ)) Q := by
  obtain ⟨ρ', e, h⟩ := loop_ex P h0 st
  rw [e]
  exact ⟨_, _, rfl, fin ρ' h⟩
theorem loop_nx {gm : GM} {m : SM} {ds : List D} {ρ : VL.Env} {k : VL.Env → SR} {Q : VL.Env → Prop} (P : Nat → VL.Env → Prop) (h0 : P 0 ρ) (st : ∀ j d ρ1, ds[j]? = some d → P j ρ1 → GX (gm d ρ1) fun ρ2 => NX (m ρ2) (P (j + 1)))
    (fin : ∀ ρ', P ds.length ρ' → NX (k ρ') Q) : NX ((forL gm m ds ρ).then k) Q := by
  obtain ⟨ρ', e, h⟩ := loop_ex P h0 st
  rw [e]
  exact fin ρ' h
theorem loop_nx0 {gm : GM} {m : SM} {ds : List D} {ρ : VL.Env} {Q : VL.Env → Prop} (P : Nat → VL.Env → Prop) (h0 : P 0 ρ) (st : ∀ j d ρ1, ds[j]? = some d → P j ρ1 → GX (gm d ρ1) fun ρ2 => NX (m ρ2) (P (j + 1)))
    (fin : ∀ ρ', P ds.length ρ' → Q ρ') : NX (forL gm m ds ρ) Q := by
  obtain ⟨ρ', e, h⟩ := loop_ex P h0 st
  exact ⟨ρ', e, fin ρ' h⟩
theorem loop_nxp {gm : GM} {m : SM} {ds : List D} {ρ : VL.Env} {k : VL.Env → SR} {i : Nat} {d0 : D} {Q : VL.Env → Prop} (P : Nat → VL.Env → Prop) (h0 : P 0 ρ) (st : ∀ j d ρ1, ds[j]? = some d → P j ρ1 → GX (gm d ρ1) fun ρ2 => NX (m ρ2) (P (j + 1)))
    (fin : ∀ ρ', P ds.length ρ' → NX (k (ρ'.set i (some d0))) Q) : NX ((SR.put i d0 (forL gm m ds ρ)).then k) Q := by
  obtain ⟨ρ', e, h⟩ := loop_ex P h0 st
  rw [e]
  exact fin ρ' h
theorem t3 : (3 : Int).toNat = 3 := (rfl)
@[simp] theorem ix0 (d : D) (l : List D) : atI (d :: l) 0 = some d := by simp [atI, ixN]
theorem atI_nat (l : List D) (i : Nat) : atI l (i : Int) = l[i]? := by
  unfold atI ixN
  rw [if_pos (by omega)]
  by_cases h : (i : Int) < (l.length : Int)
  · rw [if_pos h]; simp
  · rw [if_neg h, List.getElem?_eq_none (by omega)]; rfl
@[simp] theorem ix1 (d d1 : D) (l : List D) : atI (d :: d1 :: l) 1 = some d1 := atI_nat _ 1
@[simp] theorem ix2 (d d1 d2 : D) (l : List D) : atI (d :: d1 :: d2 :: l) 2 = some d2 := atI_nat _ 2
@[simp] theorem ix3 (d d1 d2 d3 : D) (l : List D) : atI (d :: d1 :: d2 :: d3 :: l) 3 = some d3 := atI_nat _ 3
@[simp] theorem ixl (o : Bool) (l : List D) (i : Int) : ixD (.lst o l) (.int i) = atI l i := (rfl)
@[simp] theorem ixt (l : List D) (i : Int) : ixD (.tup l) (.int i) = atI l i := (rfl)
@[simp] theorem ixe (l : List D) (i : Int) : ixD (.ext l) (.int i) = atI l i := (rfl)
@[simp] theorem tupG_rm (h : GsM) (r : Rm) (ρ : VL.Env) : tupG 4 h (rmD r) ρ = h [.int (r.lo false), .int (r.lo true), .int (r.hi false), .int (r.hi true)] ρ := rfl
@[simp] theorem isNon_rm (r : Rm) : (rmD r).isNon = false := (rfl)
@[simp] theorem seqOf_rm (r : Rm) : seqOf (rmD r) = some [.int (r.lo false), .int (r.lo true), .int (r.hi false), .int (r.hi true)] := (rfl)
@[simp] theorem nox_rm (r : Rm) : (rmD r).nox = true := (rfl)
@[simp] theorem nox_int (i : Int) : (D.int i).nox = true := (rfl)
@[simp] theorem nox_bl (i : Bool) : (D.bl i).nox = true := (rfl)
@[simp] theorem nox_str (i : Str) : (D.str i).nox = true := (rfl)
@[simp] theorem nox_non : D.non.nox = true := (rfl)
@[simp] theorem nox_tup (l : List D) : (D.tup l).nox = noxL l := (rfl)
@[simp] theorem nox_lst (o : Bool) (l : List D) : (D.lst o l).nox = noxL l := (rfl)
@[simp] theorem nox_obj (o : Bool) (c : Str) (ns : List Str) (l : List D) : (D.obj o c ns l).nox = noxL l := (rfl)
@[simp] theorem nox_exn (c : Str) (ns : List Str) (l : List D) : (D.exn c ns l).nox = false := (rfl)
@[simp] theorem noxL_nil : noxL [] = true := (rfl)
@[simp] theorem noxL_cons (d : D) (l : List D) : noxL (d :: l) = (d.nox && noxL l) := (rfl)
theorem mapnox {α : Type} (f : α → D) (h : ∀ a, (f a).nox = true) : ∀ l : List α, noxL (l.map f) = true
  | [] => (rfl)
  | a :: l => by simp [h, mapnox f h l]
@[simp] theorem nox_rms (l : List Rm) : noxL (l.map rmD) = true := mapnox _ nox_rm l
@[simp] theorem fro_rmD (r : Rm) : (rmD r).fro = true := (rfl)
@[simp] theorem own_rmD (r : Rm) : (rmD r).own = true := (rfl)
@[simp] theorem frz_rmD (r : Rm) : (rmD r).frz = rmD r := (rfl)
@[simp] theorem frz_rmL (o : Bool) (r : Rm) : (rmL o r).frz = rmL false r := (rfl)
@[simp] theorem frz_lst (o : Bool) (l : List D) : (D.lst o l).frz = .lst false (frzL l) := (rfl)
@[simp] theorem frz_int (i : Int) : (D.int i).frz = .int i := (rfl)
@[simp] theorem frz_bl (i : Bool) : (D.bl i).frz = .bl i := (rfl)
@[simp] theorem frz_non : D.non.frz = .non := (rfl)
@[simp] theorem frz_str (x : Str) : (D.str x).frz = .str x := (rfl)
@[simp] theorem frz_tup (l : List D) : (D.tup l).frz = .tup (frzL l) := (rfl)
@[simp] theorem frz_ext (l : List D) : (D.ext l).frz = .ext (frzL l) := (rfl)
@[simp] theorem frz_obj (o : Bool) (c : Str) (ns : List Str) (l : List D) : (D.obj o c ns l).frz = .obj false c ns (frzL l) := (rfl)
@[simp] theorem frzL_nil : frzL [] = [] := (rfl)
@[simp] theorem frzL_cons (d : D) (l : List D) : frzL (d :: l) = d.frz :: frzL l := (rfl)
@[simp] theorem fro_int (i : Int) : (D.int i).fro = true := (rfl)
@[simp] theorem fro_bl (i : Bool) : (D.bl i).fro = true := (rfl)
@[simp] theorem fro_non : D.non.fro = true := (rfl)
@[simp] theorem fro_str (x : Str) : (D.str x).fro = true := (rfl)
@[simp] theorem fro_tup (l : List D) : (D.tup l).fro = froL l := (rfl)
@[simp] theorem fro_ext (l : List D) : (D.ext l).fro = froL l := (rfl)
@[simp] theorem fro_lstT (l : List D) : (D.lst true l).fro = false := (rfl)
@[simp] theorem fro_lstF (l : List D) : (D.lst false l).fro = froL l := (rfl)
@[simp] theorem fro_objF (c : Str) (ns : List Str) (l : List D) : (D.obj false c ns l).fro = froL l := (rfl)
@[simp] theorem fro_objT (c : Str) (ns : List Str) (l : List D) : (D.obj true c ns l).fro = false := (rfl)
@[simp] theorem froL_nil : froL [] = true := (rfl)
@[simp] theorem froL_cons (d : D) (l : List D) : froL (d :: l) = (d.fro && froL l) := (rfl)
@[simp] theorem own_int (i : Int) : (D.int i).own = true := (rfl)
@[simp] theorem own_bl (i : Bool) : (D.bl i).own = true := (rfl)
@[simp] theorem own_non : D.non.own = true := (rfl)
@[simp] theorem own_str (x : Str) : (D.str x).own = true := (rfl)
@[simp] theorem own_tup (l : List D) : (D.tup l).own = ownL l := (rfl)
@[simp] theorem own_lst (o : Bool) (l : List D) : (D.lst o l).own = (o && ownL l) := (rfl)
@[simp] theorem own_obj (o : Bool) (c : Str) (ns : List Str) (l : List D) : (D.obj o c ns l).own = (o && ownL l) := (rfl)
@[simp] theorem ownL_nil : ownL [] = true := (rfl)
@[simp] theorem ownL_cons (d : D) (l : List D) : ownL (d :: l) = (d.own && ownL l) := (rfl)
theorem mapfz {α : Type} (f : α → D) (h : ∀ a, (f a).frz = f a) : ∀ l : List α, frzL (l.map f) = l.map f
  | [] => rfl
  | a :: l => by simp [h, mapfz f h l]
theorem mapfro {α : Type} (f : α → D) (h : ∀ a, (f a).fro = true) : ∀ l : List α, froL (l.map f) = true
  | [] => rfl
  | a :: l => by simp [h, mapfro f h l]
theorem mapown {α : Type} (f : α → D) (h : ∀ a, (f a).own = true) : ∀ l : List α, ownL (l.map f) = true
  | [] => rfl
  | a :: l => by simp [h, mapown f h l]
@[simp] theorem fz_rms (l : List Rm) : frzL (l.map rmD) = l.map rmD := mapfz _ frz_rmD l
@[simp] theorem fro_rms (l : List Rm) : froL (l.map rmD) = true := mapfro _ fro_rmD l
@[simp] theorem own_rms (l : List Rm) : ownL (l.map rmD) = true := mapown _ own_rmD l
@[simp] theorem fz_ints (l : List Int) : frzL (l.map D.int) = l.map D.int := mapfz _ frz_int l
@[simp] theorem fro_ints (l : List Int) : froL (l.map D.int) = true := mapfro _ fro_int l
@[simp] theorem own_ints (l : List Int) : ownL (l.map D.int) = true := mapown _ own_int l
@[simp] theorem frzL_rmL (o : Bool) : ∀ l : List Rm, frzL (l.map (rmL o)) = l.map (rmL false)
  | [] => rfl
  | a :: l => by simp [frzL_rmL o l]
theorem atI_map {α : Type} {f : α → D} {l : List α} {k : Nat} {a : α} (h : l[k]? = some a) : atI (l.map f) (k : Int) = some (f a) := by
  have hk := (List.getElem?_eq_some_iff.mp h).1
  have h0 : 0 ≤ (k : Int) := by omega
  have h1 : (k : Int) < (l.length : Int) := by omega
  simp [atI, ixN, h1, h]
@[simp] theorem ixr0 (r : Rm) : ixD (rmD r) (.int 0) = some (.int (r.lo false)) := by simp [rmD]
@[simp] theorem ixr1 (r : Rm) : ixD (rmD r) (.int 1) = some (.int (r.lo true)) := by simp [rmD]
@[simp] theorem ixr2 (r : Rm) : ixD (rmD r) (.int 2) = some (.int (r.hi false)) := by simp [rmD]
@[simp] theorem ixr3 (r : Rm) : ixD (rmD r) (.int 3) = some (.int (r.hi true)) := by simp [rmD]
@[simp] theorem ixs0 (o : Bool) (r : Rm) : ixD (rmL o r) (.int 0) = some (.int (r.lo false)) := by simp [rmL]
@[simp] theorem ixs1 (o : Bool) (r : Rm) : ixD (rmL o r) (.int 1) = some (.int (r.lo true)) := by simp [rmL]
@[simp] theorem ixs2 (o : Bool) (r : Rm) : ixD (rmL o r) (.int 2) = some (.int (r.hi false)) := by simp [rmL]
@[simp] theorem ixs3 (o : Bool) (r : Rm) : ixD (rmL o r) (.int 3) = some (.int (r.hi true)) := by simp [rmL]
theorem over_eq (o o' : Bool) (r s : Rm) (a : Bool) : m__law_over [rmL o r, rmL o' s, .int (axI a)] = .rt (.bl (decide (ovr a r s ∧ r.lo a < r.hi a ∧ s.lo a < s.hi a))) [some (rmL o r), some (rmL o' s), some (.int (axI a))] := by
  cases a <;> simp -implicitDefEqProofs [m__law_over, b__law_over, axI, ovr] <;> split <;> split <;> rw [Bool.eq_iff_iff] <;> simp only [decide_eq_true_eq, Bool.and_eq_true, ovr] 

  all_goals omega
theorem overlap_eq (r s : Rm) (a : Bool) : m_overlap [rmD r, rmD s, .int (axI a)] = .rt (.bl (decide (ovr a r s ∧ r.lo a < r.hi a ∧ s.lo a < s.hi a))) [some (rmD r), some (rmD s), some (.int (axI a))] := by
  cases a <;> simp -implicitDefEqProofs [m_overlap, b_overlap, axI, ovr] <;> split <;> split <;> rw [Bool.eq_iff_iff] <;> simp only [decide_eq_true_eq, Bool.and_eq_true] <;> omega
end K31
end
end
section
set_option Elab.async false
set_option linter.all false
set_option maxRecDepth 100000
noncomputable section
namespace K31
open PySem L2 VL
@[simp] theorem eqD_int (i j : Int) : eqD (.int i) (.int j) = some (.bl (decide (i = j))) := (rfl)
@[simp] theorem eqD_str (i j : Str) : eqD (.str i) (.str j) = some (.bl (decide (i = j))) := (rfl)
@[simp] theorem neD_int (i j : Int) : neD (.int i) (.int j) = some (.bl (!decide (i = j))) := (rfl)
@[simp] theorem isi_ii (i : Int) : isiD tabI [.int i, .ty "int"] = some (.bl true) := (rfl)
@[simp] theorem isi_ib (i : Int) : isiD tabI [.int i, .ty "bool"] = some (.bl false) := (rfl)
@[simp] theorem isi_ll (o : Bool) (l : List D) : isiD tabI [.lst o l, .ty "list"] = some (.bl true) := (rfl)
@[simp] theorem isi_tt (l : List D) : isiD tabI [.tup l, .ty "tuple"] = some (.bl true) := (rfl)
@[simp] theorem isi_rt (r : Rm) : isiD tabI [rmD r, .ty "tuple"] = some (.bl true) := (rfl)
@[simp] theorem isi_ff (o : Bool) (ns : List Str) (l : List D) : isiD tabI [.obj o "Floor" ns l, .cls "Floor"] = some (.bl true) := (rfl)
def optD : Option Rm → D
  | some r => rmD r
  | none => .non
theorem optD_some (r : Rm) : optD (some r) = rmD r := rfl
theorem optD_none : optD none = .non := rfl
theorem union_of_eq (r s : Rm) : m_union_of [rmD r, rmD s] = .rt (optD (unionP r s)) [some (rmD r), some (rmD s)] := by
  simp only [unionP, unionA, apply_ite optD, lvl, optD_some, optD_none]
  simp -implicitDefEqProofs [m_union_of, b_union_of]
  repeat' split
  all_goals first | rfl | (exfalso; simp_all; done) | skip
theorem int_eq (i : Int) : m__law_int [.int i] = .rt (.bl true) [some (.int i)] := by
  simp -implicitDefEqProofs [m__law_int, b__law_int]
@[simp] theorem itR1_j (j : Int) : itR1 [.val (.int j)] = if inR j then some (rngD 0 j.toNat) else none := rfl
@[simp] theorem itR2_j (i j : Int) : itR2 [.val (.int i), .val (.int j)] = if inR i ∧ inR j then some (rngD i (j - i).toNat) else none := rfl
@[simp] theorem piR1_j (j : Int) : piR1 [.int j] = if inR j then some (rngD 0 j.toNat) else none := rfl
@[simp] theorem piR2_j (i j : Int) : piR2 [.int i, .int j] = if inR i ∧ inR j then some (rngD i (j - i).toNat) else none := rfl
theorem sizeLine_ge : 1000 ≤ sizeLine := by decide
/-- a comprehension over data that it only reads -/
theorem pcL_eq {α : Type} {gm : GM} {c : PT'} {f : PM} {ρ : VL.Env} (x : α → D) (b : α → Bool) (y : α → D) : ∀ (ds : List α) (acc : List D), (∀ d ∈ ds, ∃ ρ1, gm (x d) ρ = some ρ1 ∧ c ρ1 = some (b d) ∧ (b d = true → f ρ1 = some (y d))) → acc.length + ds.length ≤ sizeLine → pcL gm c f (ds.map x) acc ρ = some (acc ++ (ds.filter b).map y)
  | [], acc, _, _ => by simp [pcL]
  | d :: ds, acc, h, hl => by
    obtain ⟨ρ1, e1, e2, e3⟩ := h d List.mem_cons_self
    have hl' : acc.length + (ds.length + 1) ≤ sizeLine := hl
    rw [List.map_cons, pcL, e1, Option.bind_some, e2, Option.bind_some]
    cases hb : b d with
    | true =>
      rw [if_pos rfl, e3 hb, Option.bind_some, if_pos (by omega), pcL_eq x b y ds (acc ++ [y d]) (fun d' m => h d' (List.mem_cons_of_mem _ m)) (by simp; omega)]
      simp [hb]
    | false =>
      rw [if_neg (by simp), pcL_eq x b y ds acc (fun d' m => h d' (List.mem_cons_of_mem _ m)) (by omega)]
      simp [hb]
theorem lcN_eq {α : Type} {it : D → Option (List D)} {src : PM} {vs : List Nat} {gm : GM} {c : PT'} {f : PM} {ρ : VL.Env} (x : α → D) (b : α → Bool) (y : α → D) (ds : List α) {d : D} (hs : src ρ = some d) (hi : it d = some (ds.map x))
    (h : ∀ d ∈ ds, ∃ ρ1, gm (x d) (wipeE vs ρ) = some ρ1 ∧ c ρ1 = some (b d) ∧ (b d = true → f ρ1 = some (y d))) (hl : ds.length ≤ 1000) : lcN it src vs gm c f ρ = some (.lst true ((ds.filter b).map y)) := by
  unfold lcN
  rw [hs, Option.bind_some, hi, Option.bind_some, pcL_eq x b y ds [] h (by have := sizeLine_ge; simp; omega)]
  simp
theorem lcNA_eq {α : Type} {it : List D → Option (List D)} {src : PA'} {vs : List Nat} {gm : GM} {c : PT'} {f : PM} {ρ : VL.Env} (x : α → D) (b : α → Bool) (y : α → D) (ds : List α) {d : List D} (hs : src ρ = some d) (hi : it d = some (ds.map x))
    (h : ∀ d ∈ ds, ∃ ρ1, gm (x d) (wipeE vs ρ) = some ρ1 ∧ c ρ1 = some (b d) ∧ (b d = true → f ρ1 = some (y d))) (hl : ds.length ≤ 1000) : lcNA it src vs gm c f ρ = some (.lst true ((ds.filter b).map y)) := by
  unfold lcNA
  rw [hs, Option.bind_some, hi, Option.bind_some, pcL_eq x b y ds [] h (by have := sizeLine_ge; simp; omega)]
  simp
/-- … without a condition -/
theorem lcN_all {α : Type} {it : D → Option (List D)} {src : PM} {vs : List Nat} {gm : GM} {f : PM} {ρ : VL.Env} (x : α → D) (y : α → D) (ds : List α) {d : D} (hs : src ρ = some d) (hi : it d = some (ds.map x))
    (h : ∀ d ∈ ds, ∃ ρ1, gm (x d) (wipeE vs ρ) = some ρ1 ∧ f ρ1 = some (y d)) (hl : ds.length ≤ 1000) : lcN it src vs gm yesP f ρ = some (.lst true (ds.map y)) := by
  rw [lcN_eq x (fun _ => true) y ds hs hi (fun d m => by obtain ⟨ρ1, e1, e2⟩ := h d m; exact ⟨ρ1, e1, rfl, fun _ => e2⟩) hl]
  rw [List.filter_eq_self.mpr fun _ _ => rfl]
theorem lcNA_all {α : Type} {it : List D → Option (List D)} {src : PA'} {vs : List Nat} {gm : GM} {f : PM} {ρ : VL.Env} (x : α → D) (y : α → D) (ds : List α) {d : List D} (hs : src ρ = some d) (hi : it d = some (ds.map x))
    (h : ∀ d ∈ ds, ∃ ρ1, gm (x d) (wipeE vs ρ) = some ρ1 ∧ f ρ1 = some (y d)) (hl : ds.length ≤ 1000) : lcNA it src vs gm yesP f ρ = some (.lst true (ds.map y)) := by
  rw [lcNA_eq x (fun _ => true) y ds hs hi (fun d m => by obtain ⟨ρ1, e1, e2⟩ := h d m; exact ⟨ρ1, e1, rfl, fun _ => e2⟩) hl]
  rw [List.filter_eq_self.mpr fun _ _ => rfl]
theorem ints_eq (o : Bool) (l : List Int) (h : l.length ≤ 1000) : ∃ os, m__law_ints [.lst o (l.map .int)] = .rt (.bl true) os := by
  have e := lcN_eq (it := piL) (src := nP 0) (vs := [1]) (gm := nmG 1) (c := notT (valT (callN m__law_int (consP (nP 1) nilP)))) (f := froP (nP 1)) (ρ := [some (D.lst o (l.map .int)), none]) D.int (fun _ => false) D.int l rfl rfl (fun i m => ⟨_, rfl, by simp -implicitDefEqProofs [wipeE, int_eq], by simp⟩) h
  simp -implicitDefEqProofs [m__law_ints, b__law_ints, e]
theorem ints4 (o : Bool) (a b c d : Int) : ∃ os, m__law_ints [.lst o [.int a, .int b, .int c, .int d]] = .rt (.bl true) os := ints_eq o [a, b, c, d] (by simp)
theorem ints2 (o : Bool) (a b : Int) : ∃ os, m__law_ints [.lst o [.int a, .int b]] = .rt (.bl true) os := ints_eq o [a, b] (by simp)
end K31
end
end
section
set_option Elab.async false
set_option linter.all false
set_option maxRecDepth 100000
noncomputable section
namespace K31
open PySem L2 VL
theorem cmul_of {i j : Int} (h : -(2 ^ 64) < i ∧ i < 2 ^ 64) : CMul i j := .inl h
theorem mulD_of {i j : Int} (h : -(2 ^ 64) < i ∧ i < 2 ^ 64) : mulD (.int i) (.int j) = some (.int (i * j)) := by
  show (if CMul i j then _ else _) = _
  rw [if_pos (cmul_of h)]
theorem mulD_ofR {i j : Int} (h : -(2 ^ 64) < j ∧ j < 2 ^ 64) : mulD (.int i) (.int j) = some (.int (i * j)) := by
  show (if CMul i j then _ else _) = _
  rw [if_pos (.inr h)]
def Sm (S : Bool → Int) : Prop := ∀ a, 1 ≤ S a ∧ S a < 2 ^ 40
theorem if_min (a b : Int) : (if b < a then b else a) = min a b := by split <;> omega
theorem if_max (a b : Int) : (if a < b then b else a) = max a b := by split <;> omega
theorem law_union_eq {S : Bool → Int} (hS : Sm S) {r s : Rm} (hr : r.ok S) (hs : s.ok S) : m__law_union [rmD r, rmD s] = .rt (optD (unionL r s)) [some (rmD r), some (rmD s)] := by
  have a0 := hr false; have a1 := hr true; have b0 := hs false; have b1 := hs true
  have s0 := hS false; have s1 := hS true
  have m1 : CMul (r.hi false - r.lo false) (r.hi true - r.lo true) := cmul_of (by omega)
  have m2 : CMul (s.hi false - s.lo false) (s.hi true - s.lo true) := cmul_of (by omega)
  have m3 : CMul (max (r.hi false) (s.hi false) - min (r.lo false) (s.lo false)) (max (r.hi true) (s.hi true) - min (r.lo true) (s.lo true)) := cmul_of (by omega)
  simp only [unionL, apply_ite optD, optD_some, optD_none]
  simp -implicitDefEqProofs [m__law_union, b__law_union, m1, m2, m3, if_min, if_max]
  simp only [Rm.area, boxOf]
  split <;> rename_i h <;> simp only [h, if_true, if_false] <;> rfl
theorem check_rooms_eq (n : Int) (h : 1 ≤ n ∧ n ≤ 20) : m_check_rooms [.int n] = .rt .non [some (.int n)] := by
  simp -implicitDefEqProofs [m_check_rooms, b_check_rooms, h]
theorem check_rooms_bad (n : Int) (h : ¬ (1 ≤ n ∧ n ≤ 20)) : m_check_rooms [.int n] = .exc ⟨"BadCount", ["number"], [.int n]⟩ [some (.int n)] := by
  simp -implicitDefEqProofs [m_check_rooms, b_check_rooms]
  omega
theorem inR_nat {n : Nat} (h : n ≤ 1000) : inR (n : Int) := by
  constructor
  · have : (0 : Int) ≤ n := by omega
    have : -(2 : Int) ^ 62 ≤ 0 := by decide
    omega
  · have : (1000 : Int) < 2 ^ 62 := by decide
    omega
theorem rngD_get {lo : Int} {n j : Nat} {d : D} (h : (rngD lo n)[j]? = some d) : j < n ∧ d = .int (lo + (j : Nat)) := by
  unfold rngD at h
  rw [List.getElem?_map] at h
  by_cases q : j < n
  · rw [List.getElem?_range q] at h
    exact ⟨q, (Option.some.inj h).symm⟩
  · rw [List.getElem?_eq_none (by simp; omega)] at h
    exact nomatch h
theorem rngD_len (lo : Int) (n : Nat) : (rngD lo n).length = n := by simp [rngD]
theorem room_fault_eq {S : Bool → Int} {rs : List Rm} {k : Nat} {r : Rm} (hk : rs[k]? = some r) (ok : ∀ r ∈ rs, r.ok S) (ap : rs.Pairwise apart) (hn : rs.length ≤ 1000) :
    FRo (m_room_fault [.int (S false), .int (S true), .lst false (rs.map rmD), .int k]) fun d _ => d = .non := by
  have o := ok r (List.mem_of_getElem? hk)
  have a0 := o false; have a1 := o true
  have hl := (List.getElem?_eq_some_iff.mp hk).1
  have e0 : atI (rs.map rmD) (k : Int) = some (rmD r) := atI_map hk
  have hi : inR (k : Int) := inR_nat (by omega)
  simp -implicitDefEqProofs [m_room_fault, b_room_fault, e0]
  refine ⟨by omega, by omega, ?_⟩
  simp only [hi, if_true]
  refine loop_fr (fun _ ρ => ∃ x, ρ = [some (.int (S false)), some (.int (S true)), some (.lst false (rs.map rmD)), some (.int k), some (.int (r.lo false)), some (.int (r.lo true)), some (.int (r.hi false)), some (.int (r.hi true)), x]) ⟨none, rfl⟩ (fun j d ρ1 hd hp => ?_) (fun ρ' hp => ?_)
  · obtain ⟨hj, rfl⟩ := rngD_get hd
    obtain ⟨x, rfl⟩ := hp
    have hj' : j < rs.length := by omega
    have ej := List.getElem?_eq_getElem hj'
    have e1 : atI (rs.map rmD) (j : Int) = some (rmD rs[j]) := atI_map ej
    have q := List.pairwise_iff_getElem.mp ap j k hj' hl hj
    rw [(List.getElem?_eq_some_iff.mp hk).2] at q
    have n : ¬ (ovr false rs[j] r ∧ ovr true rs[j] r) := fun ⟨z0, z1⟩ => by
      rw [apart, exB] at q
      simp only [ovr] at z0 z1
      omega
    have v0 := overlap_eq rs[j] r false
    have v1 := overlap_eq rs[j] r true
    simp -implicitDefEqProofs [axI] at v0 v1
    simp -implicitDefEqProofs [e0, e1, v0, v1]
    omega
  · obtain ⟨x, rfl⟩ := hp
    simp
theorem enumD_get' {f : Rm → D} : ∀ {rs : List Rm} {i j : Nat} {d : D}, (enumD i (rs.map f))[j]? = some d → ∃ r, rs[j]? = some r ∧ d = .tup [.int ((i + j : Nat) : Int), f r]
  | [], _, _, _, h => by simp [enumD] at h
  | r :: rs, i, 0, d, h => by
    simp only [List.map_cons, enumD, List.getElem?_cons_zero] at h
    exact ⟨r, rfl, (Option.some.inj h).symm⟩
  | r :: rs, i, j + 1, d, h => by
    simp only [List.map_cons, enumD, List.getElem?_cons_succ] at h
    obtain ⟨r', h1, h2⟩ := enumD_get' h
    exact ⟨r', by simpa using h1, by rw [h2, Nat.add_right_comm, Nat.add_assoc]⟩
theorem enumD_get {f : Rm → D} {rs : List Rm} {j : Nat} {d : D} (h : (enumD 0 (rs.map f))[j]? = some d) : ∃ r, rs[j]? = some r ∧ d = .tup [.int (j : Int), f r] := by
  obtain ⟨r, h1, h2⟩ := enumD_get' h
  exact ⟨r, h1, by rw [h2, Nat.zero_add]⟩
theorem enumD_len : ∀ (ds : List D) (i : Nat), (enumD i ds).length = ds.length
  | [], _ => rfl
  | d :: ds, i => by simp [enumD, enumD_len ds]
theorem floor_fault_eq {S : Bool → Int} {rs : List Rm} (F : Fl S rs) :
    FRo (m_floor_fault [.int (S false), .int (S true), .lst false (rs.map rmD)]) fun d _ => d = .non := by
  have s0 := F.s false; have s1 := F.s true; have hn := F.n
  have m0 : CMul (S false) (S true) := cmul_of (by omega)
  simp -implicitDefEqProofs [m_floor_fault, b_floor_fault, m0]
  refine ⟨by omega, by omega, ?_⟩
  refine loop_fr (fun i ρ => ∃ x1 x2 x3 x4 x5 x6, ρ = [some (.int (S false)), some (.int (S true)), some (.lst false (rs.map rmD)), some (.int (S false * S true - ((rs.map Rm.area).take i).sum)), x1, x2, x3, x4, x5, x6]) ⟨none, none, none, none, none, none, by simp⟩ (fun j d ρ1 hd hp => ?_) (fun ρ' hp => ?_)
  · obtain ⟨r, hj, rfl⟩ := enumD_get hd
    obtain ⟨x1, x2, x3, x4, x5, x6, rfl⟩ := hp
    obtain ⟨d, os, e, rfl⟩ := room_fault_eq hj F.ok F.ap (by omega)
    have o := F.okI hj
    have a0 := o false; have a1 := o true
    have m1 : CMul (r.hi false - r.lo false) (r.hi true - r.lo true) := cmul_of (by omega)
    have hs : ((rs.map Rm.area).take (j + 1)).sum = ((rs.map Rm.area).take j).sum + (r.hi false - r.lo false) * (r.hi true - r.lo true) := by
      rw [List.take_succ, List.getElem?_map, hj]
      simp [Rm.area]
    simp -implicitDefEqProofs [e, augM, m1]
    rw [hs]
    omega
  · obtain ⟨x1, x2, x3, x4, x5, x6, rfl⟩ := hp
    rw [enumD_len, List.length_map, ← List.length_map (f := Rm.area), List.take_length, F.ar]
    simp -implicitDefEqProofs []
def flD (o : Bool) (S : Bool → Int) (rs : List Rm) : D := .obj o "Floor" ["width", "height", "_rooms"] [.int (S false), .int (S true), .lst o (rs.map rmD)]
@[simp] theorem frz_flD (o : Bool) (S : Bool → Int) (rs : List Rm) : (flD o S rs).frz = flD false S rs := by simp [flD]
@[simp] theorem own_flD (S : Bool → Int) (rs : List Rm) : (flD true S rs).own = true := by simp [flD]
@[simp] theorem fro_flDF (S : Bool → Int) (rs : List Rm) : (flD false S rs).fro = true := by simp [flD]
@[simp] theorem fro_flDT (S : Bool → Int) (rs : List Rm) : (flD true S rs).fro = false := by simp [flD]
@[simp] theorem isi_fl (o : Bool) (S : Bool → Int) (rs : List Rm) : isiD tabI [flD o S rs, .cls "Floor"] = some (.bl true) := (rfl)
def fldO (cs : List Str) (f : Str) (d : D) : Option D := match d with
  | .obj _ c ns ds => if c ∈ cs ∧ f ∈ ns then ds[ns.idxOf f]? else none
  | _ => none
@[simp] theorem fldP_eq (cs : List Str) (f : Str) (p : PM) (ρ : VL.Env) : fldP cs f p ρ = (p ρ).bind (fldO cs f) := rfl
@[simp] theorem fld_w (o : Bool) (S : Bool → Int) (rs : List Rm) : fldO ["Floor"] "width" (flD o S rs) = some (.int (S false)) := by simp [fldO, flD]
@[simp] theorem fld_h (o : Bool) (S : Bool → Int) (rs : List Rm) : fldO ["Floor"] "height" (flD o S rs) = some (.int (S true)) := by simp [fldO, flD]; rfl
@[simp] theorem fld_r (o : Bool) (S : Bool → Int) (rs : List Rm) : fldO ["Floor"] "_rooms" (flD o S rs) = some (.lst o (rs.map rmD)) := by simp [fldO, flD]; rfl
theorem init_eq {S : Bool → Int} {rs : List Rm} {o : Bool} (F : Fl S rs) :
    FRo (m_Floor___init__ [.obj true "Floor" [] [], .int (S false), .int (S true), .lst o (rs.map rmD)]) fun d os => d = .non ∧ ∃ os', os = some (flD true S rs) :: os' := by
  obtain ⟨d, os, e, rfl⟩ := floor_fault_eq F
  have n1 : ¬ (Str.ofString "height" = Str.ofString "width") := by decide
  have n2 : ¬ (Str.ofString "_rooms" = Str.ofString "width") := by decide
  have n3 : ¬ (Str.ofString "_rooms" = Str.ofString "height") := by decide
  have k := fun ρ hs => lcN_all (it := piL) (src := nP 3) (vs := [5, 6, 7, 8]) (gm := tupG 4 (consG (nmG 5) (consG (nmG 6) (consG (nmG 7) (consG (nmG 8) nilG))))) (f := froP (tupP (consP (nP 5) (consP (nP 6) (consP (nP 7) (consP (nP 8) nilP)))))) (ρ := ρ) rmD rmD rs (d := .lst o (rs.map rmD)) hs rfl
  have hn := F.n
  simp -implicitDefEqProofs [m_Floor___init__, b_Floor___init__, e, stfM, n1, n2, n3]
  rw [k _ rfl (fun r m => by simp -implicitDefEqProofs [wipeE, rmD]) (by omega)]
  simp -implicitDefEqProofs [n1, n2, n3, flD]
theorem mkR_fl {S : Bool → Int} {rs : List Rm} (F : Fl S rs) (ρ1 : VL.Env) : mkR "Floor" m_Floor___init__ (.ok [.val (.int (S false)), .val (.int (S true)), .val (.lst true (rs.map rmD))] ρ1) = .ok (flD true S rs) ρ1 := by
  obtain ⟨d, os, e, rfl, os', rfl⟩ := init_eq (o := true) F
  unfold mkR
  simp -implicitDefEqProofs [e]
  cases os' with
  | nil => rfl
  | cons a r => cases r with
    | nil => rfl
    | cons b t => cases t <;> rfl
end K31
end
end
section
set_option Elab.async false
set_option linter.all false
set_option maxRecDepth 100000
noncomputable section
namespace K31
open PySem L2 VL
@[simp] theorem len_fl (o : Bool) (S : Bool → Int) (rs : List Rm) : m_Floor___len__ [flD o S rs] = .rt (.int rs.length) [some (flD o S rs)] := by
  simp -implicitDefEqProofs [m_Floor___len__, b_Floor___len__]
@[simp] theorem room_fl (o : Bool) (S : Bool → Int) (rs : List Rm) {k : Nat} {r : Rm} (h : rs[k]? = some r) : m_Floor_room [flD false S rs, .int k] = .rt (rmD r) [some (flD false S rs), some (.int k)] := by
  have e : atI (rs.map rmD) (k : Int) = some (rmD r) := atI_map h
  simp -implicitDefEqProofs [m_Floor_room, b_Floor_room, e]
theorem lenO_fl (o : Bool) (S : Bool → Int) (rs : List Rm) (h : rs.length ≤ 1000) : lenOD "Floor" m_Floor___len__ [flD o S rs] = some (.int rs.length) := by
  have e := len_fl false S rs
  have hb : (1000 : Int) < 2 ^ 63 := by decide
  unfold flD at e ⊢
  simp -implicitDefEqProofs [lenOD, e]
  omega
theorem listO_fl (o : Bool) (S : Bool → Int) (rs : List Rm) (h : rs.length ≤ 1000) : listOD "Floor" "_rooms" m_Floor___len__ [flD o S rs] = some (.lst true (rs.map rmD)) := by
  have e := len_fl false S rs
  have n1 : ¬ (Str.ofString "_rooms" = Str.ofString "width") := by decide
  have n2 : ¬ (Str.ofString "_rooms" = Str.ofString "height") := by decide
  have i : List.idxOf (Str.ofString "_rooms") [Str.ofString "width", Str.ofString "height", Str.ofString "_rooms"] = 2 := by decide
  unfold flD at e ⊢
  simp -implicitDefEqProofs [listOD, e, i]
  omega
theorem mth_room {o : Bool} {S : Bool → Int} {rs : List Rm} {k : Nat} {r : Rm} (h : rs[k]? = some r) : mthO "Floor" "room" m_Floor_room (flD o S rs) (some [.int k]) = some (rmD r) := by
  have e := room_fl false S rs h
  have n1 : ¬ (Str.ofString "room" = Str.ofString "width") := by decide
  have n2 : ¬ (Str.ofString "room" = Str.ofString "height") := by decide
  have n3 : ¬ (Str.ofString "room" = Str.ofString "_rooms") := by decide
  unfold mthO
  unfold flD at e ⊢
  simp -implicitDefEqProofs [e, n1, n2, n3]
end K31
end
end
section
set_option Elab.async false
set_option linter.all false
set_option maxRecDepth 100000
noncomputable section
namespace K31
open PySem L2 VL
def jn (rs : List Rm) (a b : Nat) : Bool := match rs[a]?, rs[b]? with
  | some r, some s => (unionL r s).isSome
  | _, _ => false
def rowJ (rs : List Rm) (a j : Nat) : List (Nat × Nat) := ((List.range j).filter fun i => jn rs a (a + 1 + i)).map fun i => (a, a + 1 + i)
def joinsTo (rs : List Rm) (m : Nat) : List (Nat × Nat) := (List.range m).flatMap fun a => rowJ rs a (rs.length - (a + 1))
def prD (p : Nat × Nat) : D := .tup [.int p.1, .int p.2]
@[simp] theorem fro_prD (p : Nat × Nat) : (prD p).fro = true := (rfl)
@[simp] theorem own_prD (p : Nat × Nat) : (prD p).own = true := (rfl)
@[simp] theorem frz_prD (p : Nat × Nat) : (prD p).frz = prD p := (rfl)
@[simp] theorem fz_prs (l : List (Nat × Nat)) : frzL (l.map prD) = l.map prD := mapfz _ frz_prD l
@[simp] theorem fro_prs (l : List (Nat × Nat)) : froL (l.map prD) = true := mapfro _ fro_prD l
@[simp] theorem own_prs (l : List (Nat × Nat)) : ownL (l.map prD) = true := mapown _ own_prD l
theorem rowJ_len (rs : List Rm) (a j : Nat) : (rowJ rs a j).length ≤ j := by
  unfold rowJ
  rw [List.length_map]
  exact Nat.le_trans (List.length_filter_le _ _) (by simp)
theorem joinsTo_succ (rs : List Rm) (m : Nat) : joinsTo rs (m + 1) = joinsTo rs m ++ rowJ rs m (rs.length - (m + 1)) := by
  unfold joinsTo
  rw [List.range_succ, List.flatMap_append]
  simp
theorem rowJ_succ (rs : List Rm) (a j : Nat) : rowJ rs a (j + 1) = rowJ rs a j ++ (if jn rs a (a + 1 + j) = true then [(a, a + 1 + j)] else []) := by
  unfold rowJ
  rw [List.range_succ, List.filter_append, List.map_append]
  congr 1
  by_cases h : jn rs a (a + 1 + j) = true <;> simp [h]
theorem joinsTo_len (rs : List Rm) : ∀ m : Nat, (joinsTo rs m).length ≤ m * rs.length
  | 0 => by simp [joinsTo]
  | m + 1 => by
    rw [joinsTo_succ, List.length_append, Nat.add_mul]
    have := joinsTo_len rs m
    have := rowJ_len rs m (rs.length - (m + 1))
    omega
@[simp] theorem isNon_opt (o : Option Rm) : (optD o).isNon = !o.isSome := by cases o <;> rfl
@[simp] theorem own_opt (o : Option Rm) : (optD o).own = true := by cases o <;> rfl
@[simp] theorem fro_opt (o : Option Rm) : (optD o).fro = true := by cases o <;> rfl
theorem unions_eq {S : Bool → Int} {rs : List Rm} (hS : Sm S) (ok : ∀ r ∈ rs, r.ok S) (hn : rs.length ≤ 20) : FRo (m__law_unions [.lst false (rs.map rmD)]) fun d _ => d = .lst true ((joinsTo rs rs.length).map prD) := by
  have hi : inR (rs.length : Int) := inR_nat (by omega)
  simp -implicitDefEqProofs [m__law_unions, b__law_unions, hi]
  refine loop_fr (fun i ρ => ∃ x y, ρ = [some (.lst false (rs.map rmD)), some (.lst true ((joinsTo rs i).map prD)), x, y]) ⟨_, _, rfl⟩ (fun a d ρ1 hd hp => ?_) (fun ρ' hp => ?_)
  · obtain ⟨ha, rfl⟩ := rngD_get hd
    obtain ⟨x, y, rfl⟩ := hp
    have ha' : a < rs.length := by omega
    have ea := List.getElem?_eq_getElem ha'
    have e1 : atI (rs.map rmD) (a : Int) = some (rmD rs[a]) := atI_map ea
    have ok1 := ok _ (List.getElem_mem ha')
    have k := fun ρ hs => lcNA_eq (it := piR2) (src := (consP (opP addX (nP 2) (cP (.int 1))) (consP (callP lenD (consP (nP 0) nilP)) nilP))) (vs := [3]) (gm := nmG 3) (c := valT (opP notNonD (callN m__law_union (consP (opP ixD (nP 0) (nP 2)) (consP (opP ixD (nP 0) (nP 3)) nilP))) (cP .non))) (f := froP (tupP (consP (nP 2) (consP (nP 3) nilP)))) (ρ := ρ)
      (fun i : Nat => D.int ((a : Int) + 1 + (i : Nat))) (fun i => jn rs a (a + 1 + i)) (fun i => prD (a, a + 1 + i)) (List.range (rs.length - (a + 1))) (d := [.int ((a : Int) + 1), .int rs.length]) hs
      (by rw [piR2_j, if_pos ⟨inR_nat (n := a + 1) (by omega), hi⟩]
          have : ((rs.length : Int) - ((a : Int) + 1)).toNat = rs.length - (a + 1) := by omega
          rw [this]; rfl)
    have jl := joinsTo_len rs a
    have rl := rowJ_len rs a (rs.length - (a + 1))
    have ml : a * rs.length ≤ 20 * 20 := Nat.mul_le_mul (by omega) hn
    simp -implicitDefEqProofs []
    rw [k _ (by simp -implicitDefEqProofs []) (fun i m => ?_) (by simp; omega)]
    · have z : (((List.range (rs.length - (a + 1))).filter fun i => jn rs a (a + 1 + i)).map fun i => prD (a, a + 1 + i)) = (rowJ rs a (rs.length - (a + 1))).map prD := by
        unfold rowJ; rw [List.map_map]; rfl
      rw [z]
      have hl : (joinsTo rs a).length + (rowJ rs a (rs.length - (a + 1))).length ≤ 1000 := by omega
      simp -implicitDefEqProofs [joinsTo_succ, hl]
    · have hi' : a + 1 + i < rs.length := by simp at m; omega
      have ei := List.getElem?_eq_getElem hi'
      have e2 : atI (rs.map rmD) ((a : Int) + 1 + i) = some (rmD rs[a + 1 + i]) := by have := atI_map (f := rmD) ei; simpa using this
      have v := law_union_eq hS ok1 (ok _ (List.getElem_mem hi'))
      refine ⟨_, rfl, ?_, fun _ => ?_⟩
      · simp -implicitDefEqProofs [wipeE, e1, e2, v, jn, ea, ei]
      · simp -implicitDefEqProofs [wipeE, prD]
  · obtain ⟨x, y, rfl⟩ := hp
    simp -implicitDefEqProofs [rngD_len]
theorem joinable_eq {S : Bool → Int} {rs : List Rm} (F : Fl S rs) : FRo (m_joinable [flD false S rs]) fun d _ => d = .lst true ((joinsTo rs rs.length).map prD) := by
  have hn := F.n
  have hi : inR (rs.length : Int) := inR_nat (by omega)
  have sz := sizeLine_ge
  have lo := listO_fl false S rs (by omega)
  have bnd : ∀ a, a < rs.length → (joinsTo rs a).length ≤ 400 := fun a h => by
    have := joinsTo_len rs a
    have ml : a * rs.length ≤ 20 * 20 := Nat.mul_le_mul (by omega) hn.2
    omega
  simp -implicitDefEqProofs [m_joinable, b_joinable, lo, hi]
  refine loop_fr (fun i ρ => ∃ x y, ρ = [some (flD false S rs), some (.lst true (rs.map rmD)), some (.lst true ((joinsTo rs i).map prD)), x, y]) ⟨_, _, rfl⟩ (fun a d ρ1 hd hp => ?_) (fun ρ' hp => ?_)
  · obtain ⟨ha, rfl⟩ := rngD_get hd
    obtain ⟨x, y, rfl⟩ := hp
    have ha' : a < rs.length := by omega
    have ea := List.getElem?_eq_getElem ha'
    have e1 : atI (rs.map rmD) (a : Int) = some (rmD rs[a]) := atI_map ea
    have hi2 : inR ((a : Int) + 1) := inR_nat (n := a + 1) (by omega)
    have e3 : ((rs.length : Int) - ((a : Int) + 1)).toNat = rs.length - (a + 1) := by omega
    have b1 := bnd a ha'
    simp -implicitDefEqProofs [hi, hi2, e3]
    refine loop_nx0 (fun j ρ => ∃ y, ρ = [some (flD false S rs), some (.lst true (rs.map rmD)), some (.lst true ((joinsTo rs a ++ rowJ rs a j).map prD)), some (.int a), y]) ⟨y, by simp [rowJ]⟩ (fun j d ρ1 hd hp => ?_) (fun ρ' hp => ?_)
    · obtain ⟨hj, rfl⟩ := rngD_get hd
      obtain ⟨y, rfl⟩ := hp
      have hb' : a + 1 + j < rs.length := by omega
      have eb := List.getElem?_eq_getElem hb'
      have e2 : atI (rs.map rmD) ((a : Int) + 1 + j) = some (rmD rs[a + 1 + j]) := by have := atI_map (f := rmD) eb; simpa using this
      have v := union_of_eq rs[a] rs[a + 1 + j]
      have ap := F.apI ea eb (by omega)
      rw [union_eq (F.ok _ (List.getElem_mem ha')) (F.ok _ (List.getElem_mem hb')) ap] at v
      have b2 := rowJ_len rs a j
      have hl : (joinsTo rs a).length + (rowJ rs a j).length < sizeLine := by omega
      have ej : jn rs a (a + 1 + j) = (unionL rs[a] rs[a + 1 + j]).isSome := by unfold jn; rw [ea, eb]
      simp -implicitDefEqProofs [e1, e2, v, hl, rowJ_succ, ej]
      cases h : unionL rs[a] rs[a + 1 + j] <;> simp [prD]
    · obtain ⟨y, rfl⟩ := hp
      rw [rngD_len]
      exact ⟨_, y, by rw [joinsTo_succ]⟩
  · obtain ⟨x, y, rfl⟩ := hp
    simp -implicitDefEqProofs [rngD_len]
end K31
end
end
section
set_option Elab.async false
set_option linter.all false
set_option maxRecDepth 100000
noncomputable section
namespace K31
open PySem L2 VL
/-! ### equality of data -/
structure PdOk (d : D) (p : PyData) : Prop where
  e : d.pd = some p
  c : p.canLay0 = true
  dp : p.depth ≤ 4
theorem pd_map {α : Type} (f : α → D) (p : α → PyData) (h : ∀ a, PdOk (f a) (p a)) : ∀ l : List α, pdL (l.map f) = some (l.map p) ∧ PyData.canLayAll0 (l.map p) = true ∧ PyData.depthAll (l.map p) ≤ 4
  | [] => ⟨rfl, rfl, Nat.zero_le _⟩
  | a :: l => by
    obtain ⟨h1, h2, h3⟩ := pd_map f p h l
    obtain ⟨e, c, dp⟩ := h a
    refine ⟨by simp [pdL, e, h1], by simp [PyData.canLayAll0, c, h2], ?_⟩
    simp only [List.map_cons, PyData.depthAll]; omega
theorem eqD_pd {d d' : D} {x y : PyData} (h : d.pd = some x) (h' : d'.pd = some y) (hd : ∀ i, d ≠ .int i) (hs : ∀ i, d ≠ .str i) (hb : ∀ i, d ≠ .bl i) (hx : SeqAt.shaped x = true) (hy : SeqAt.shaped y = true) : eqD d d' = some (.bl (PyData.eqv x y)) := by
  unfold eqD eqB
  split
  · exact absurd rfl (hd _)
  · exact absurd rfl (hs _)
  · exact absurd rfl (hb _)
  · rw [h, h']
    simp [hx, hy]
theorem shaped_lst {xs : List PyData} (c : PyData.canLayAll0 xs = true) (d : PyData.depthAll xs ≤ 4) : SeqAt.shaped (.list xs) = true := by
  unfold SeqAt.shaped
  simp [PyData.canLay0, PyData.depth, c]
  omega
theorem shaped_tup {xs : List PyData} (c : PyData.canLayAll0 xs = true) (d : PyData.depthAll xs ≤ 4) : SeqAt.shaped (.tuple xs) = true := by
  unfold SeqAt.shaped
  simp [PyData.canLay0, PyData.depth, c]
  omega
theorem eqD_lst {α : Type} (f : α → D) (p : α → PyData) (h : ∀ a, PdOk (f a) (p a)) (o o' : Bool) (l l' : List α) : eqD (.lst o (l.map f)) (.lst o' (l'.map f)) = some (.bl (PyData.eqvAll (l.map p) (l'.map p))) := by
  obtain ⟨a1, a2, a3⟩ := pd_map f p h l
  obtain ⟨b1, b2, b3⟩ := pd_map f p h l'
  rw [eqD_pd (x := .list (l.map p)) (y := .list (l'.map p)) (by simp [D.pd, a1]) (by simp [D.pd, b1]) (by intro i z; cases z) (by intro i z; cases z) (by intro i z; cases z) (shaped_lst a2 a3) (shaped_lst b2 b3)]
  simp [PyData.eqv]
theorem eqD_tup {α : Type} (f : α → D) (p : α → PyData) (h : ∀ a, PdOk (f a) (p a)) (l l' : List α) : eqD (.tup (l.map f)) (.tup (l'.map f)) = some (.bl (PyData.eqvAll (l.map p) (l'.map p))) := by
  obtain ⟨a1, a2, a3⟩ := pd_map f p h l
  obtain ⟨b1, b2, b3⟩ := pd_map f p h l'
  rw [eqD_pd (x := .tuple (l.map p)) (y := .tuple (l'.map p)) (by simp [D.pd, a1]) (by simp [D.pd, b1]) (by intro i z; cases z) (by intro i z; cases z) (by intro i z; cases z) (shaped_tup a2 a3) (shaped_tup b2 b3)]
  simp [PyData.eqv]
theorem eqv_self {α : Type} (p : α → PyData) (h : ∀ a, PyData.eqv (p a) (p a) = true) : ∀ l : List α, PyData.eqvAll (l.map p) (l.map p) = true
  | [] => rfl
  | a :: l => by simp [PyData.eqvAll, h a, eqv_self p h l]
theorem eqv_len : ∀ (xs ys : List PyData), xs.length ≠ ys.length → PyData.eqvAll xs ys = false
  | [], [], h => absurd rfl h
  | [], _ :: _, _ => rfl
  | _ :: _, [], _ => rfl
  | x :: xs, y :: ys, h => by simp [PyData.eqvAll, eqv_len xs ys (by simpa using h)]
def rmP (r : Rm) : PyData := .tuple [.int (r.lo false), .int (r.lo true), .int (r.hi false), .int (r.hi true)]
def prP (p : Nat × Nat) : PyData := .tuple [.int p.1, .int p.2]
theorem rm_pd (r : Rm) : PdOk (rmD r) (rmP r) := ⟨rfl, rfl, by simp [rmP, PyData.depth, PyData.depthAll]⟩
theorem pr_pd (r : Nat × Nat) : PdOk (prD r) (prP r) := ⟨rfl, rfl, by simp [prP, PyData.depth, PyData.depthAll]⟩
theorem int_pd (i : Int) : PdOk (.int i) (.int i) := ⟨rfl, rfl, by simp [PyData.depth]⟩
theorem rm_self (r : Rm) : PyData.eqv (rmP r) (rmP r) = true := by simp [rmP, PyData.eqv, PyData.eqvAll]
theorem pr_self (r : Nat × Nat) : PyData.eqv (prP r) (prP r) = true := by simp [prP, PyData.eqv, PyData.eqvAll]
theorem int_self (r : Int) : PyData.eqv (.int r) (.int r) = true := by simp [PyData.eqv]
@[simp] theorem eqD_rms (o o' : Bool) (l : List Rm) : eqD (.lst o (l.map rmD)) (.lst o' (l.map rmD)) = some (.bl true) := by
  rw [eqD_lst rmD rmP rm_pd, eqv_self rmP rm_self]
theorem eqD_rms_ne (o o' : Bool) (l l' : List Rm) (h : l.length ≠ l'.length) : eqD (.lst o (l.map rmD)) (.lst o' (l'.map rmD)) = some (.bl false) := by
  rw [eqD_lst rmD rmP rm_pd, eqv_len _ _ (by simpa using h)]
theorem eqD_prs (o o' : Bool) (l : List (Nat × Nat)) : eqD (.lst o (l.map prD)) (.lst o' (l.map prD)) = some (.bl true) := by
  rw [eqD_lst prD prP pr_pd, eqv_self prP pr_self]
@[simp] theorem neD_prs (o o' : Bool) (l : List (Nat × Nat)) : neD (.lst o (l.map prD)) (.lst o' (l.map prD)) = some (.bl false) := by
  have := eqD_prs o o' l
  unfold eqD at this
  unfold neD
  cases h : eqB (.lst o (l.map prD)) (.lst o' (l.map prD)) with
  | none => rw [h] at this; exact nomatch this
  | some k =>
    rw [h] at this
    have e : k = true := by simpa using this
    rw [e]; rfl
@[simp] theorem eqD_int2 (o o' : Bool) (a b : Int) : eqD (.lst o [.int a, .int b]) (.lst o' [.int a, .int b]) = some (.bl true) := by
  have := eqD_lst D.int PyData.int int_pd o o' [a, b] [a, b]
  rw [eqv_self PyData.int int_self] at this
  exact this
@[simp] theorem eqD_tup2 (a b : Int) : eqD (.tup [.int a, .int b]) (.tup [.int a, .int b]) = some (.bl true) := by
  have := eqD_tup D.int PyData.int int_pd [a, b] [a, b]
  rw [eqv_self PyData.int int_self] at this
  exact this
end K31
end
end
section
set_option Elab.async false
set_option linter.all false
set_option maxRecDepth 100000
noncomputable section
namespace K31
open PySem L2 VL
theorem Fl.sm {S : Bool → Int} {rs : List Rm} (F : Fl S rs) : Sm S := F.s
def optL (o : Option (List Rm)) : D := match o with
  | some l => .lst true (l.map rmD)
  | none => .non
theorem together_eq {S : Bool → Int} {rs : List Rm} {a b : Nat} {r s : Rm} (hS : Sm S) (ok : ∀ r ∈ rs, r.ok S) (hn : rs.length ≤ 20) (ha : rs[a]? = some r) (hb : rs[b]? = some s) (hab : a ≠ b) :
    FRo (m__law_together [.lst false (rs.map rmD), .int a, .int b]) fun d _ => d = optL ((unionL r s).map fun u => joined rs a b u) := by
  have hi : inR (rs.length : Int) := inR_nat (by omega)
  have e1 : atI (rs.map rmD) (a : Int) = some (rmD r) := atI_map ha
  have e2 : atI (rs.map rmD) (b : Int) = some (rmD s) := atI_map hb
  have v := law_union_eq hS (ok _ (List.mem_of_getElem? ha)) (ok _ (List.mem_of_getElem? hb))
  have sz := sizeLine_ge
  cases hu : unionL r s with
  | none =>
    rw [hu] at v
    simp only [optD_none] at v
    simp -implicitDefEqProofs [m__law_together, b__law_together, hi, e1, e2, v]
    rfl
  | some u =>
    rw [hu] at v
    simp only [optD_some] at v
    simp -implicitDefEqProofs [m__law_together, b__law_together, hi, e1, e2, v]
    refine loop_fr (fun i ρ => ∃ x y, (i ≤ a → y = some (rmD u)) ∧ ρ = [some (.lst false (rs.map rmD)), some (.int a), some (.int b), y, some (.lst true ((((rs.set a u).take i).eraseIdx b).map rmD)), x]) ⟨none, some (rmD u), fun _ => rfl, by simp⟩ (fun k d ρ1 hd hp => ?_) (fun ρ' hp => ?_)
    · obtain ⟨hk, rfl⟩ := rngD_get hd
      obtain ⟨x, y, hy, rfl⟩ := hp
      have hk' : k < rs.length := by omega
      have ek := List.getElem?_eq_getElem hk'
      have e3 : atI (rs.map rmD) (k : Int) = some (rmD rs[k]) := atI_map ek
      have el : (((rs.set a u).take k).eraseIdx b).length < sizeLine := by
        have : (((rs.set a u).take k).eraseIdx b).length ≤ ((rs.set a u).take k).length := List.length_eraseIdx_le _ _
        simp at this
        omega
      have hlen : ((rs.set a u).take k).length = k := by simp; omega
      have tk : (rs.set a u).take (k + 1) = (rs.set a u).take k ++ [if k = a then u else rs[k]] := by
        rw [List.take_succ]
        congr 1
        by_cases h : k = a
        · subst h; rw [if_pos rfl]; simp [hk']
        · rw [if_neg h, List.getElem?_set_ne (by omega), ek]; rfl
      by_cases hka : k = a
      · have hkb : k ≠ b := by omega
        rw [if_pos hka] at tk
        have st : ((rs.set a u).take (k + 1)).eraseIdx b = ((rs.set a u).take k).eraseIdx b ++ [u] := by
          rw [tk]
          by_cases q : b < k
          · rw [List.eraseIdx_append_of_lt_length (by omega)]
          · rw [List.eraseIdx_of_length_le (by simp; omega), List.eraseIdx_of_length_le (by simp; omega)]
        subst hka
        have hy' := hy (Nat.le_refl _)
        subst hy'
        simp -implicitDefEqProofs [st, el]
        exact ⟨_, none, fun h => by omega, rfl, rfl⟩
      · rw [if_neg hka] at tk
        by_cases hkb : k = b
        · have st : ((rs.set a u).take (k + 1)).eraseIdx b = ((rs.set a u).take k).eraseIdx b := by
            subst hkb
            rw [tk, List.eraseIdx_append_of_length_le (by omega), hlen, Nat.sub_self]
            rw [show (List.take k (rs.set a u)).eraseIdx k = List.take k (rs.set a u) from List.eraseIdx_of_length_le (by omega)]
            simp
          subst hkb
          have i1 : ¬ (k : Int) = (a : Int) := by omega
          simp -implicitDefEqProofs [st, i1]
          exact ⟨_, y, fun h => hy (by omega), rfl, rfl⟩
        · have st : ((rs.set a u).take (k + 1)).eraseIdx b = ((rs.set a u).take k).eraseIdx b ++ [rs[k]] := by
            rw [tk]
            by_cases q : b < k
            · rw [List.eraseIdx_append_of_lt_length (by omega)]
            · rw [List.eraseIdx_of_length_le (by simp; omega), List.eraseIdx_of_length_le (by simp; omega)]
          have i1 : ¬ (k : Int) = (a : Int) := by omega
          have i2 : ¬ (k : Int) = (b : Int) := by omega
          simp -implicitDefEqProofs [st, i1, i2, e3, el]
          exact ⟨_, y, fun h => hy (by omega), rfl, rfl⟩
    · obtain ⟨x, y, hy, rfl⟩ := hp
      rw [rngD_len, List.take_of_length_le (by simp)]
      simp -implicitDefEqProofs [optL, joined]
end K31
end
end
section
set_option Elab.async false
set_option linter.all false
set_option maxRecDepth 100000
noncomputable section
namespace K31
open PySem L2 VL
theorem parts_eq {rs : List Rm} {k : Nat} {r : Rm} (hk : rs[k]? = some r) (hn : rs.length ≤ 20) (ax : Bool) (p : Int) :
    FRo (m__law_parts [.lst false (rs.map rmD), .int k, .int (axI ax), .int p]) fun d _ => d = .lst true ((cutAt rs k r ax p).map rmD) := by
  have e1 : atI (rs.map rmD) (k : Int) = some (rmD r) := atI_map hk
  have hl := (List.getElem?_eq_some_iff.mp hk).1
  have e2 := ixN_nat hl
  have sz := sizeLine_ge
  have hs : rs.length < sizeLine := by omega
  cases ax
  · simp -implicitDefEqProofs [m__law_parts, b__law_parts, axI, e1, e2, hs, cutAt]
    exact ⟨rfl, rfl⟩
  · simp -implicitDefEqProofs [m__law_parts, b__law_parts, axI, e1, e2, hs, cutAt]
    exact ⟨rfl, rfl⟩
theorem cut_map {rs : List Rm} (k : Nat) (r : Rm) (ax : Bool) (p : Int) : (cutAt rs k r ax p).map rmD = (rs.map rmD).set k (rmD (r.setHi ax p)) ++ [rmD (r.setLo ax p)] := by simp [cutAt]
theorem split_ok {S : Bool → Int} {rs : List Rm} (F : Fl S rs) {k : Nat} {r : Rm} (hk : rs[k]? = some r) (ax : Bool) (p : Int) (hp : r.lo ax < p ∧ p < r.hi ax) (hn : rs.length < 20) :
    FRo (m_split_room [flD false S rs, .int k, .int (axI ax), .int p]) fun d _ => d = flD true S (cutAt rs k r ax p) := by
  have hl := (List.getElem?_eq_some_iff.mp hk).1
  have e2 := ixN_nat hl
  have sz := sizeLine_ge
  have hs : rs.length < sizeLine := by omega
  have lo := listO_fl false S rs (by omega)
  have ln := lenO_fl false S rs (by omega)
  have rm := mth_room (o := false) (S := S) hk
  have ck := check_rooms_eq ((rs.length : Int) + 1) (by omega)
  have mk := mkR_fl (F.cutI hk hp hn)
  rw [cut_map] at mk
  have p1 := hp.1
  have p2 := hp.2
  cases ax
  · have a1 : rmD (r.setHi false p) = .tup [.int (r.lo false), .int (r.lo true), .int p, .int (r.hi true)] := rfl
    have a2 : rmD (r.setLo false p) = .tup [.int p, .int (r.lo true), .int (r.hi false), .int (r.hi true)] := rfl
    rw [a1, a2] at mk
    simp -implicitDefEqProofs [m_split_room, b_split_room, axI, e2, hs, lo, ln, ck, rm, p1, p2, mk]
  · have a1 : rmD (r.setHi true p) = .tup [.int (r.lo false), .int (r.lo true), .int (r.hi false), .int p] := rfl
    have a2 : rmD (r.setLo true p) = .tup [.int (r.lo false), .int p, .int (r.hi false), .int (r.hi true)] := rfl
    rw [a1, a2] at mk
    simp -implicitDefEqProofs [m_split_room, b_split_room, axI, e2, hs, lo, ln, ck, rm, p1, p2, mk]
/-- a call that raises -/
def FRx (r : FR) (e : Ex) : Prop := ∃ os, r = .exc e os
theorem split_place {S : Bool → Int} {rs : List Rm} (hn : rs.length ≤ 20) {k : Nat} {r : Rm} (hk : rs[k]? = some r) (ax : Bool) (p : Int) (hp : ¬ (r.lo ax < p ∧ p < r.hi ax)) :
    FRx (m_split_room [flD false S rs, .int k, .int (axI ax), .int p]) ⟨"BadPlace", ["place"], [.int p]⟩ := by
  have rm := mth_room (o := false) (S := S) hk
  cases ax
  · have q : p ≤ r.lo false ∨ r.hi false ≤ p := by omega
    simp -implicitDefEqProofs [m_split_room, b_split_room, axI, rm, q, FRx]
  · have q : p ≤ r.lo true ∨ r.hi true ≤ p := by omega
    simp -implicitDefEqProofs [m_split_room, b_split_room, axI, rm, q, FRx]
theorem split_count {S : Bool → Int} {rs : List Rm} (hn : rs.length = 20) {k : Nat} {r : Rm} (hk : rs[k]? = some r) (ax : Bool) (p : Int) (hp : r.lo ax < p ∧ p < r.hi ax) :
    FRx (m_split_room [flD false S rs, .int k, .int (axI ax), .int p]) ⟨"BadCount", ["number"], [.int 21]⟩ := by
  have rm := mth_room (o := false) (S := S) hk
  have ln := lenO_fl false S rs (by omega)
  have ck := check_rooms_bad 21 (by omega)
  rw [hn] at ln
  have p1 := hp.1
  have p2 := hp.2
  cases ax
  · simp -implicitDefEqProofs [m_split_room, b_split_room, axI, rm, p1, p2, ln, ck, FRx]
    trace_state
  · simp -implicitDefEqProofs [m_split_room, b_split_room, axI, rm, p1, p2, ln, ck, FRx]
theorem map_eraseIdx' {α β : Type} (f : α → β) : ∀ (l : List α) (b : Nat), (l.eraseIdx b).map f = (l.map f).eraseIdx b
  | [], _ => rfl
  | _ :: _, 0 => rfl
  | x :: l, b + 1 => by simp [map_eraseIdx' f l b]
theorem join_ok {S : Bool → Int} {rs : List Rm} (F : Fl S rs) {a b : Nat} {r s u : Rm} (ha : rs[a]? = some r) (hb : rs[b]? = some s) (hab : a ≠ b) (hu : unionL r s = some u) :
    FRo (m_join_rooms [flD false S rs, .int a, .int b]) fun d _ => d = flD true S (joined rs a b u) := by
  have la := (List.getElem?_eq_some_iff.mp ha).1
  have lb := (List.getElem?_eq_some_iff.mp hb).1
  have hn := F.n
  have i1 := ixN_nat la
  have i2 := ixN_nat lb
  have ib : inR (b : Int) := inR_nat (by omega)
  have lo := listO_fl false S rs (by omega)
  have r1 := mth_room (o := false) (S := S) ha
  have r2 := mth_room (o := false) (S := S) hb
  have v := union_of_eq r s
  rw [union_eq (F.okI ha) (F.okI hb) (F.apI ha hb hab), hu] at v
  have mk := mkR_fl (F.joinI ha hb hab hu)
  have jm : (joined rs a b u).map rmD = ((rs.map rmD).set a (rmD u)).eraseIdx b := by
    unfold joined
    rw [map_eraseIdx']
    simp
  rw [jm] at mk
  have g : ((rs.map rmD).set a (rmD u))[b]? = some (rmD s) := by
    rw [List.getElem?_set_ne hab, List.getElem?_map, hb]; rfl
  simp only [optD_some] at v
  simp -implicitDefEqProofs [m_join_rooms, b_join_rooms, r1, r2, v, lo, i1, i2, ib, g, moPopAt, mk]
theorem join_no {S : Bool → Int} {rs : List Rm} (F : Fl S rs) {a b : Nat} {r s : Rm} (ha : rs[a]? = some r) (hb : rs[b]? = some s) (hab : a ≠ b) (hu : unionL r s = none) :
    FRx (m_join_rooms [flD false S rs, .int a, .int b]) ⟨"NotJoined", ["pair"], [.tup [.int a, .int b]]⟩ := by
  have r1 := mth_room (o := false) (S := S) ha
  have r2 := mth_room (o := false) (S := S) hb
  have v := union_of_eq r s
  rw [union_eq (F.okI ha) (F.okI hb) (F.apI ha hb hab), hu] at v
  simp only [optD_none] at v
  simp -implicitDefEqProofs [m_join_rooms, b_join_rooms, r1, r2, v, FRx]
end K31
end
end
section
set_option Elab.async false
set_option linter.all false
set_option maxRecDepth 100000
noncomputable section
namespace K31
open PySem L2 VL
def szD (o : Bool) (S : Bool → Int) : D := .lst o [.int (S false), .int (S true)]
theorem is_eq {S : Bool → Int} {rs : List Rm} (hn : rs.length ≤ 20) : FRo (m__law_is [flD false S rs, szD false S, .lst false (rs.map rmD)]) fun d _ => d = .bl true := by
  have lo := listO_fl false S rs (by omega)
  have ln := lenO_fl false S rs (by omega)
  have i0 := int_eq (S false)
  have i1 := int_eq (S true)
  have hi : inR (rs.length : Int) := inR_nat (by omega)
  have k := fun ρ hs => lcNA_all (it := piR1) (src := consP (callP lenD (consP (nP 2) nilP)) nilP) (vs := [5]) (gm := nmG 5) (f := methN "Floor" "room" (nP 0) m_Floor_room (consP (nP 5) nilP)) (ρ := ρ) (fun i : Nat => D.int (i : Nat)) (fun i => rmD (rs[i]?.getD ⟨fun _ => 0, fun _ => 0⟩)) (List.range rs.length) (d := [.int rs.length]) hs
    (by rw [piR1_j, if_pos hi]; simp [rngD])
  have km : (List.range rs.length).map (fun i => rmD (rs[i]?.getD ⟨fun _ => 0, fun _ => 0⟩)) = rs.map rmD := by
    apply List.ext_getElem
    · simp
    · intro i h1 h2
      simp at h1 h2
      simp [h2]
  unfold szD
  simp -implicitDefEqProofs [m__law_is, b__law_is, i0, i1, ln]
  rw [k _ (by simp -implicitDefEqProofs []) (fun i m => ?_) (by simp; omega), km]
  · simp -implicitDefEqProofs []
    refine loop_fr (fun i ρ => ∃ x y, ρ = [some (flD false S rs), some (.lst false [.int (S false), .int (S true)]), some (.lst false (rs.map rmD)), some (.lst false (rs.map rmD)), x, y]) ⟨none, none, rfl⟩ (fun j d ρ1 hd hp => ?_) (fun ρ' hp => ?_)
    · obtain ⟨x, y, rfl⟩ := hp
      rw [List.getElem?_map] at hd
      cases hr : rs[j]? with
      | none => rw [hr] at hd; exact nomatch hd
      | some r =>
        rw [hr] at hd
        obtain rfl := Option.some.inj hd
        obtain ⟨os, e4⟩ := ints4 false (r.lo false) (r.lo true) (r.hi false) (r.hi true)
        simp -implicitDefEqProofs [e4]
    · obtain ⟨x, y, rfl⟩ := hp
      simp -implicitDefEqProofs [lo]
  · have hm : i < rs.length := by simpa using m
    have e := List.getElem?_eq_getElem hm
    have rm := mth_room (o := false) (S := S) e
    simp -implicitDefEqProofs [wipeE, rm, e]
end K31
end
end
section
set_option Elab.async false
set_option linter.all false
set_option maxRecDepth 100000
noncomputable section
namespace K31
open PySem L2 VL
@[simp] theorem isi_pr (p : Nat × Nat) : isiD tabI [prD p, .ty "tuple"] = some (.bl true) := (rfl)
@[simp] theorem seqOf_pr (p : Nat × Nat) : seqOf (prD p) = some [.int p.1, .int p.2] := (rfl)
theorem inR2 : inR 2 := ⟨by decide, by decide⟩
theorem listed_eq {S : Bool → Int} {rs : List Rm} (F : Fl S rs) : FRo (m__law_listed [flD false S rs, .lst false (rs.map rmD)]) fun d _ => d = .bl true := by
  have hn := F.n
  obtain ⟨d1, o1, u1, rfl⟩ := unions_eq F.s F.ok hn.2
  obtain ⟨d2, o2, u2, rfl⟩ := joinable_eq F
  have bl : (joinsTo rs rs.length).length < sizeLine := by
    have := joinsTo_len rs rs.length
    have ml : rs.length * rs.length ≤ 20 * 20 := Nat.mul_le_mul hn.2 hn.2
    have := sizeLine_ge
    omega
  have ix : ixN ((joinsTo rs rs.length).length + 1) 0 = some 0 := ixN_nat (k := 0) (by simp)
  generalize joinsTo rs rs.length = js at *
  simp -implicitDefEqProofs [m__law_listed, b__law_listed, u1, inR2]
  refine loop_fr (fun i ρ => ∃ x y z, ρ = [some (flD false S rs), some (.lst false (rs.map rmD)), some (.lst true (js.map prD)), x, y, z]) ⟨none, none, none, rfl⟩ (fun j d ρ1 hd hp => ?_) (fun ρ' hp => ?_)
  · obtain ⟨x, y, z, rfl⟩ := hp
    simp -implicitDefEqProofs [u2]
    refine loop_nxp (fun i r => ∃ x, r = [some (flD false S rs), some (.lst false (rs.map rmD)), some (.lst true (js.map prD)), some d, none, x]) ⟨_, rfl⟩ (fun j d ρ1 hd hp => ?_) (fun ρ' hp => ?_)
    · obtain ⟨x, rfl⟩ := hp
      obtain ⟨p, _, rfl⟩ := List.mem_map.mp (List.mem_of_getElem? hd)
      obtain ⟨os, e⟩ := ints2 false p.1 p.2
      simp -implicitDefEqProofs [e]
    · obtain ⟨x, rfl⟩ := hp
      simp -implicitDefEqProofs [bl, ix]
  · obtain ⟨x, y, z, rfl⟩ := hp
    simp -implicitDefEqProofs []
end K31
end
end
section
set_option Elab.async false
set_option linter.all false
set_option maxRecDepth 100000
noncomputable section
namespace K31
open PySem L2 VL
@[simp] theorem nox_flD (o : Bool) (S : Bool → Int) (rs : List Rm) : (flD o S rs).nox = true := by simp [flD]
@[simp] theorem tE0 : tabGet tabE (.inr "NotJoined") (.inr "NotJoined") = some true := (rfl)
@[simp] theorem tE1 : tabGet tabE (.inr "BadPlace") (.inr "BadPlace") = some true := (rfl)
@[simp] theorem tE2 : tabGet tabE (.inr "BadCount") (.inr "BadPlace") = some false := (rfl)
@[simp] theorem tE3 : tabGet tabE (.inr "BadCount") (.inr "BadCount") = some true := (rfl)
@[simp] theorem ix_NJ (ns : List Str) (l : List D) : isxD EXS tabX [.exn "NotJoined" ns l, .tup [.cls "BadCount", .cls "BadFloor", .cls "BadPlace"]] = some (.bl false) := (rfl)
@[simp] theorem ix_NJ2 (ns : List Str) (l : List D) : isxD EXS tabX [.exn "NotJoined" ns l, .cls "FitError"] = some (.bl true) := (rfl)
@[simp] theorem ix_BP (ns : List Str) (l : List D) : isxD EXS tabX [.exn "BadPlace" ns l, .tup [.cls "BadCount", .cls "BadFloor", .cls "NotJoined"]] = some (.bl false) := (rfl)
@[simp] theorem ix_BP2 (ns : List Str) (l : List D) : isxD EXS tabX [.exn "BadPlace" ns l, .ty "ValueError"] = some (.bl true) := (rfl)
@[simp] theorem ix_BC (ns : List Str) (l : List D) : isxD EXS tabX [.exn "BadCount" ns l, .tup [.cls "BadFloor", .cls "NotJoined"]] = some (.bl false) := (rfl)
@[simp] theorem ix_BC2 (ns : List Str) (l : List D) : isxD EXS tabX [.exn "BadCount" ns l, .cls "FitError"] = some (.bl true) := (rfl)
@[simp] theorem xf_p (d : D) : xfO EXS_pair "pair" (.exn "NotJoined" ["pair"] [d]) = some d := (rfl)
@[simp] theorem xf_l (d : D) : xfO EXS_place "place" (.exn "BadPlace" ["place"] [d]) = some d := (rfl)
@[simp] theorem xf_n (d : D) : xfO EXS_number "number" (.exn "BadCount" ["number"] [d]) = some d := (rfl)
theorem join_law {S : Bool → Int} {rs : List Rm} (F : Fl S rs) {a b : Nat} {r s : Rm} (ha : rs[a]? = some r) (hb : rs[b]? = some s) (hab : a ≠ b) :
    FRo (m__law_join [flD false S rs, szD false S, .lst false (rs.map rmD), .int a, .int b]) fun d _ => d = .bl true := by
  have hn := F.n
  obtain ⟨d1, o1, u1, rfl⟩ := together_eq F.s F.ok hn.2 ha hb hab
  cases hu : unionL r s with
  | none =>
    rw [hu] at u1
    obtain ⟨o2, u2⟩ := join_no F ha hb hab hu
    obtain ⟨o3, u3⟩ := ints2 true a b
    have u3' := ints2 false a b
    obtain ⟨o3, u3⟩ := u3'
    simp only [Option.map_none, optL] at u1
    unfold szD
    simp -implicitDefEqProofs [m__law_join, b__law_join, u1, u2, u3]
  | some u =>
    rw [hu] at u1
    obtain ⟨d2, o2, u2, rfl⟩ := join_ok F ha hb hab hu
    obtain ⟨d3, o3, u3, rfl⟩ := is_eq (S := S) (rs := joined rs a b u) (F.joinI ha hb hab hu).n.2
    simp only [Option.map_some, optL] at u1
    unfold szD at u3 ⊢
    simp -implicitDefEqProofs [m__law_join, b__law_join, u1, u2, u3]
theorem split_law {S : Bool → Int} {rs : List Rm} (F : Fl S rs) {k : Nat} {r : Rm} (hk : rs[k]? = some r) (ax : Bool) (p : Int) :
    FRo (m__law_split [flD false S rs, szD false S, .lst false (rs.map rmD), .int k, .int (axI ax), .int p]) fun d _ => d = .bl true := by
  have hn := F.n
  have e1 : atI (rs.map rmD) (k : Int) = some (rmD r) := atI_map hk
  have i1 := int_eq p
  have i2 := int_eq 21
  have g0 : ixD (rmD r) (.int (axI ax)) = some (.int (r.lo ax)) := by cases ax <;> simp [axI]
  have g1 : ixD (rmD r) (.int (axI ax + 2)) = some (.int (r.hi ax)) := by cases ax <;> simp [axI]
  unfold szD
  by_cases hp : r.lo ax < p ∧ p < r.hi ax
  · have h1 := hp.1
    have h2 := hp.2
    by_cases h20 : rs.length = 20
    · obtain ⟨o2, u2⟩ := split_count (S := S) h20 hk ax p hp
      simp -implicitDefEqProofs [m__law_split, b__law_split, u2, e1, i2, g0, g1, h1, h2, h20]
    · obtain ⟨d2, o2, u2, rfl⟩ := split_ok F hk ax p hp (by omega)
      obtain ⟨d4, o4, u4, rfl⟩ := parts_eq hk (by omega) ax p
      obtain ⟨d3, o3, u3, rfl⟩ := is_eq (S := S) (rs := cutAt rs k r ax p) (F.cutI hk hp (by omega)).n.2
      unfold szD at u3
      have h20' : ¬ (rs.length : Int) = 20 := by omega
      simp -implicitDefEqProofs [m__law_split, b__law_split, u2, e1, u4, u3, g0, g1, h1, h2, h20']
  · obtain ⟨o2, u2⟩ := split_place (S := S) hn.2 hk ax p hp
    have q : ¬ (r.lo ax < p) ∨ ¬ (p < r.hi ax) := by omega
    by_cases h1 : r.lo ax < p
    · have h2 : ¬ p < r.hi ax := fun z => hp ⟨h1, z⟩
      simp -implicitDefEqProofs [m__law_split, b__law_split, u2, e1, i1, g0, g1, h1, h2]
    · simp -implicitDefEqProofs [m__law_split, b__law_split, u2, e1, i1, g0, g1, h1]
theorem eqO_fl (o o' : Bool) (S : Bool → Int) (rs rs' : List Rm) (b : Bool) (h : ∀ o o', eqD (.lst o (rs.map rmD)) (.lst o' (rs'.map rmD)) = some (.bl b)) : eqOD "Floor" m_Floor___eq__ (flD o S rs) (flD o' S rs') = some (.bl b) := by
  have e : m_Floor___eq__ [flD false S rs, flD false S rs'] = .rt (.bl b) [some (flD false S rs), some (flD false S rs')] := by
    simp -implicitDefEqProofs [m_Floor___eq__, b_Floor___eq__, h]
  unfold flD at e ⊢
  simp -implicitDefEqProofs [eqOD, e]
theorem back_law {S : Bool → Int} {rs : List Rm} (F : Fl S rs) {k : Nat} {r : Rm} (hk : rs[k]? = some r) (ax : Bool) (p : Int) (hp : r.lo ax < p ∧ p < r.hi ax) (h20 : rs.length < 20) :
    FRo (m__law_back [flD false S rs, szD false S, .lst false (rs.map rmD), .int k, .int (axI ax), .int p]) fun d _ => d = .bl true := by
  have hn := F.n
  have hl := (List.getElem?_eq_some_iff.mp hk).1
  have G := F.cutI hk hp h20
  have e1 : (cutAt rs k r ax p)[k]? = some (r.setHi ax p) := by
    unfold cutAt
    rw [List.getElem?_append_left (by rw [List.length_set]; exact hl), List.getElem?_set_self hl]
  have e2 : (cutAt rs k r ax p)[rs.length]? = some (r.setLo ax p) := by
    unfold cutAt
    rw [List.getElem?_append_right (by rw [List.length_set]; exact Nat.le_refl _), List.length_set, Nat.sub_self]
    rfl
  have hu := parts_union (F.okI hk) hp
  have bk := back_list hk ax p
  obtain ⟨d1, o1, u1, rfl⟩ := parts_eq hk (by omega) ax p
  obtain ⟨d2, o2, u2, rfl⟩ := split_ok F hk ax p hp h20
  obtain ⟨d3, o3, u3, h3⟩ := join_ok G e1 e2 (by omega) hu
  rw [bk] at h3
  subst h3
  obtain ⟨d4, o4, u4, rfl⟩ := is_eq (S := S) (rs := rs) hn.2
  obtain ⟨d5, o5, u5, rfl⟩ := join_law G e2 e1 (by omega)
  obtain ⟨d6, o6, u6, rfl⟩ := listed_eq G
  obtain ⟨d7, o7, u7, rfl⟩ := is_eq (S := S) (rs := cutAt rs k r ax p) G.n.2
  have q1 := fun o o' => eqO_fl o o' S rs rs true fun o o' => eqD_rms o o' rs
  have q2 := fun o o' => eqO_fl o o' S (cutAt rs k r ax p) rs false fun o o' => eqD_rms_ne o o' _ _ (by simp [cutAt])
  unfold szD at *
  simp -implicitDefEqProofs [m__law_back, b__law_back, u1, u2, u3, u4, u5, u6, u7, q1, q2]
theorem mem_joins {rs : List Rm} {a b : Nat} (h : (a, b) ∈ joinsTo rs rs.length) : a < b ∧ b < rs.length ∧ jn rs a b = true := by
  unfold joinsTo at h
  obtain ⟨a', h1, h2⟩ := List.mem_flatMap.mp h
  unfold rowJ at h2
  obtain ⟨i, h3, h4⟩ := List.mem_map.mp h2
  obtain ⟨h5, h6⟩ := List.mem_filter.mp h3
  simp at h1 h5 h4
  obtain ⟨rfl, rfl⟩ := h4
  exact ⟨by omega, by omega, h6⟩
end K31
end
end
section
set_option Elab.async false
set_option linter.all false
set_option maxRecDepth 100000
noncomputable section
namespace K31
open PySem L2 VL
def stD (a c t : Int) : D := .lst true [.int a, .int c, .int t]
theorem next_eq (a c t n : Int) (hn : 0 < n) (h40 : n < 2 ^ 40) : ∃ (v : Nat) (a' c' : Int), (v : Int) < n ∧ m__law_next [stD a c t, .int n] = .rt (.int v) [some (stD a' c' t), some (.int n)] := by
  have cd : CDivW a n := ⟨hn, by
    have e : n.natAbs < 2 ^ 40 := by omega
    have : n.natAbs.log2 < 40 := (Nat.log2_lt (by omega)).mpr e
    omega⟩
  have cd9 : ∀ x, CDivW x 9 := fun x => ⟨by omega, by decide⟩
  have m31 : ∀ x : Int, CMul 31 x := fun x => cmul_of (by omega)
  have m79 : ∀ x : Int, CMul 7919 x := fun x => cmul_of (by omega)
  have mm1 : ∀ x y : Int, CMul (x % 2147483647) y := fun x y => cmul_of (by omega)
  have mm2 : ∀ x y : Int, CMul (x % 2147483629) y := fun x y => cmul_of (by omega)
  have pos : ∀ x : Int, 0 ≤ x % n ∧ x % n < n := fun x => ⟨Int.emod_nonneg _ (by omega), Int.emod_lt_of_pos _ hn⟩
  by_cases h : t = 1 ∧ 0 < a
  · obtain ⟨rfl, h2⟩ := h
    have q := pos a
    refine ⟨(a % n).toNat, a / n, c + 1, by omega, ?_⟩
    have e : ((a % n).toNat : Int) = a % n := by omega
    rw [e]
    unfold stD
    simp -implicitDefEqProofs [m__law_next, b__law_next, h2, hn, cd]
  · have h' : ¬ (t = 1 ∧ 0 < a) := h
    unfold stD
    have key : ∃ x : Int, m__law_next [.lst true [.int a, .int c, .int t], .int n] = .rt (.int (x % n)) [some (.lst true [.int a, .int (c + 1), .int t]), some (.int n)] := by
      refine ⟨?x, ?_⟩
      rotate_left
      · by_cases h1 : t = 1
        · have h2 : ¬ 0 < a := fun z => h ⟨h1, z⟩
          simp -implicitDefEqProofs [m__law_next, b__law_next, h1, h2, hn, cd9, m31, m79, mm1, mm2]
          rfl
        · simp -implicitDefEqProofs [m__law_next, b__law_next, h1, hn, cd9, m31, m79, mm1, mm2]
    obtain ⟨x, e⟩ := key
    have q := pos x
    refine ⟨(x % n).toNat, a, c + 1, by omega, ?_⟩
    have e2 : ((x % n).toNat : Int) = x % n := by omega
    rw [e2]
    exact e
@[simp] theorem frz_stD (a c t : Int) : (stD a c t).frz = .lst false [.int a, .int c, .int t] := (rfl)
/-- the state behind a draw -/
def StO (t : Int) (o : Option D) : Prop := ∃ a c, o = some (stD a c t)
theorem ixp0 (x y : Nat) : ixD (prD (x, y)) (.int 0) = some (.int x) := by simp [prD]
theorem ixp1 (x y : Nat) : ixD (prD (x, y)) (.int 1) = some (.int y) := by simp [prD]
theorem apart_law {S : Bool → Int} {rs : List Rm} (F : Fl S rs) (a c t : Int) :
    FRo (m__law_apart [stD a c t, flD false S rs, szD false S, .lst false (rs.map rmD)]) fun d os => d = .bl true ∧ ∃ o r, os = o :: r ∧ StO t o := by
  have hn := F.n
  obtain ⟨d1, o1, u1, rfl⟩ := unions_eq F.s F.ok hn.2
  by_cases hj : joinsTo rs rs.length = []
  · rw [hj] at u1
    have e0 : eqD (.lst true (List.map prD [])) (.lst true []) = some (.bl true) := eqD_prs true true []
    simp only [List.map_nil] at u1 e0
    unfold szD
    simp -implicitDefEqProofs [m__law_apart, b__law_apart, u1, e0, StO]
    exact ⟨_, _, rfl⟩
  · have jl : 0 < (joinsTo rs rs.length).length := List.length_pos_iff.mpr hj
    have jb : (joinsTo rs rs.length).length ≤ 400 := by
      have := joinsTo_len rs rs.length
      have ml : rs.length * rs.length ≤ 20 * 20 := Nat.mul_le_mul hn.2 hn.2
      omega
    have e0 : eqD (.lst true ((joinsTo rs rs.length).map prD)) (.lst true []) = some (.bl false) := by
      have := eqD_lst prD prP pr_pd true true (joinsTo rs rs.length) []
      rw [eqv_len _ _ (by simp; omega)] at this
      exact this
    obtain ⟨v, a1, c1, hv, w1⟩ := next_eq a c t (joinsTo rs rs.length).length (by omega) (by omega)
    obtain ⟨v2, a2, c2, hv2, w2⟩ := next_eq a1 c1 t 2 (by omega) (by omega)
    have gv : (joinsTo rs rs.length)[v]? = some (joinsTo rs rs.length)[v] := List.getElem?_eq_getElem (by omega)
    have gm := atI_map (f := prD) gv
    have mem : (joinsTo rs rs.length)[v] ∈ joinsTo rs rs.length := List.getElem_mem _
    generalize hp : (joinsTo rs rs.length)[v] = pr at *
    obtain ⟨x, y⟩ := pr
    obtain ⟨m1, m2, m3⟩ := mem_joins mem
    have ex := List.getElem?_eq_getElem (show x < rs.length by omega)
    have ey := List.getElem?_eq_getElem (show y < rs.length by omega)
    have ax := atI_map (f := rmD) ex
    have ay := atI_map (f := rmD) ey
    have ju : (unionL rs[x] rs[y]).isSome = true := by
      unfold jn at m3
      rw [ex, ey] at m3
      exact m3
    obtain ⟨u, hu⟩ := Option.isSome_iff_exists.mp ju
    have hu' : unionL rs[y] rs[x] = some u := by rw [unionL_comm]; exact hu
    have p0 : atI [D.int (x : Int), D.int (y : Int)] 0 = some (.int x) := by simp
    have z1 : ¬ ((y : Int) < (x : Int)) := by omega
    have z2 : (x : Int) < (y : Int) := by omega
    have q1 : (x : Int) + y - x = y := by omega
    have q2 : (x : Int) + y - y = x := by omega
    rcases (show v2 = 0 ∨ v2 = 1 by omega) with rfl | rfl
    · obtain ⟨d3, o3, u3, rfl⟩ := together_eq F.s F.ok hn.2 ex ey (by omega)
      rw [hu] at u3
      simp only [Option.map_some, optL] at u3
      have G := F.joinI ex ey (by omega) hu
      obtain ⟨d4, o4, u4, rfl⟩ := join_ok F ex ey (by omega) hu
      obtain ⟨d5, o5, u5, rfl⟩ := is_eq (S := S) (rs := joined rs x y u) G.n.2
      obtain ⟨d6, o6, u6, rfl⟩ := listed_eq G
      have jlen : (joined rs x y u).length = rs.length - 1 := by
        unfold joined
        rw [List.length_eraseIdx_of_lt (by rw [List.length_set]; omega), List.length_set]
      have ek := List.getElem?_eq_getElem (show x < (joined rs x y u).length by omega)
      unfold szD at *
      by_cases hP : rs[x].lo false = rs[y].lo false ∧ rs[x].hi false = rs[y].hi false
      · obtain ⟨d7, o7, u7, rfl⟩ := split_law G ek true (if rs[x].lo true < rs[y].lo true then rs[y].lo true else rs[x].lo true)
        simp only [axI, if_true, szD] at u7
        simp -implicitDefEqProofs [m__law_apart, b__law_apart, u1, e0, w1, w2, gm, ax, ay, hP, u3, u4, u5, u6, z1, u7, StO, ixp0, ixp1, q1, q2]
        exact ⟨_, _, rfl⟩
      · obtain ⟨d7, o7, u7, rfl⟩ := split_law G ek false (if rs[x].lo false < rs[y].lo false then rs[y].lo false else rs[x].lo false)
        simp [axI, szD] at u7
        simp -implicitDefEqProofs [m__law_apart, b__law_apart, u1, e0, w1, w2, gm, ax, ay, hP, u3, u4, u5, u6, z1, u7, StO, ixp0, ixp1, q1, q2]
        exact ⟨_, _, rfl⟩
    · obtain ⟨d3, o3, u3, rfl⟩ := together_eq F.s F.ok hn.2 ey ex (by omega)
      rw [hu'] at u3
      simp only [Option.map_some, optL] at u3
      have G := F.joinI ey ex (by omega) hu'
      obtain ⟨d4, o4, u4, rfl⟩ := join_ok F ey ex (by omega) hu'
      obtain ⟨d5, o5, u5, rfl⟩ := is_eq (S := S) (rs := joined rs y x u) G.n.2
      obtain ⟨d6, o6, u6, rfl⟩ := listed_eq G
      have jlen : (joined rs y x u).length = rs.length - 1 := by
        unfold joined
        rw [List.length_eraseIdx_of_lt (by rw [List.length_set]; omega), List.length_set]
      have ek := List.getElem?_eq_getElem (show y - 1 < (joined rs y x u).length by omega)
      have yk : ((y - 1 : Nat) : Int) = (y : Int) - 1 := by omega
      unfold szD at *
      by_cases hP : rs[y].lo false = rs[x].lo false ∧ rs[y].hi false = rs[x].hi false
      · obtain ⟨d7, o7, u7, rfl⟩ := split_law G ek true (if rs[y].lo true < rs[x].lo true then rs[x].lo true else rs[y].lo true)
        simp only [axI, if_true, szD] at u7
        rw [yk] at u7
        simp -implicitDefEqProofs [m__law_apart, b__law_apart, u1, e0, w1, w2, gm, ax, ay, hP, u3, u4, u5, u6, z2, u7, StO, ixp0, ixp1, q1, q2]
        exact ⟨_, _, rfl⟩
      · obtain ⟨d7, o7, u7, rfl⟩ := split_law G ek false (if rs[y].lo false < rs[x].lo false then rs[x].lo false else rs[y].lo false)
        simp [axI, szD] at u7
        rw [yk] at u7
        simp -implicitDefEqProofs [m__law_apart, b__law_apart, u1, e0, w1, w2, gm, ax, ay, hP, u3, u4, u5, u6, z2, u7, StO, ixp0, ixp1, q1, q2]
        exact ⟨_, _, rfl⟩
end K31
end
end
section
set_option Elab.async false
set_option linter.all false
set_option maxRecDepth 100000
noncomputable section
namespace K31
open PySem L2 VL
def d0 : Rm := ⟨fun _ => 0, fun _ => 0⟩
theorem pairsD_map : ∀ ps : List (Int × Int), pairsD (ps.map pairD) = some ps
  | [] => rfl
  | p :: ps => by
    show (pairsD (ps.map pairD)).map ((p.1, p.2) :: ·) = _
    rw [pairsD_map ps]; rfl
theorem sorted_pairs (o : Bool) (ps : List (Int × Int)) : sortedPD [.lst o (ps.map pairD)] = some (.lst true ((sortP ps).map pairD)) := by
  show (pairsD (ps.map pairD)).map _ = _
  rw [pairsD_map]; rfl
theorem sortP_perm (ps : List (Int × Int)) : (sortP ps).Perm ps := List.mergeSort_perm ps lexLe
theorem sortP_le (ps : List (Int × Int)) : (sortP ps).Pairwise fun a b => lexLe a b = true := by
  refine List.pairwise_mergeSort (fun a b c h1 h2 => ?_) (fun a b => ?_) ps
  · unfold lexLe at *
    simp only [decide_eq_true_eq] at *; omega
  · unfold lexLe
    simp only [Bool.or_eq_true, decide_eq_true_eq]
    omega
@[simp] theorem fro_pairD (p : Int × Int) : (pairD p).fro = true := (rfl)
@[simp] theorem own_pairD (p : Int × Int) : (pairD p).own = true := (rfl)
@[simp] theorem frz_pairD (p : Int × Int) : (pairD p).frz = pairD p := (rfl)
@[simp] theorem fz_pairs (l : List (Int × Int)) : frzL (l.map pairD) = l.map pairD := mapfz _ frz_pairD l
@[simp] theorem fro_pairs (l : List (Int × Int)) : froL (l.map pairD) = true := mapfro _ fro_pairD l
@[simp] theorem own_pairs (l : List (Int × Int)) : ownL (l.map pairD) = true := mapown _ own_pairD l
@[simp] theorem ixpr0 (p : Int × Int) : ixD (pairD p) (.int 0) = some (.int p.1) := by simp [pairD]
@[simp] theorem ixpr1 (p : Int × Int) : ixD (pairD p) (.int 1) = some (.int p.2) := by simp [pairD]
theorem enumD_eq {f : Rm → D} (rs : List Rm) : enumD 0 (rs.map f) = (List.range rs.length).map fun i : Nat => .tup [.int i, f (rs[i]?.getD d0)] := by
  apply List.ext_getElem?
  intro j
  by_cases h : j < rs.length
  · have h' : j < (enumD 0 (rs.map f)).length := by rw [enumD_len, List.length_map]; exact h
    rw [List.getElem?_eq_getElem h']
    obtain ⟨r, e1, e2⟩ := enumD_get (List.getElem?_eq_getElem h')
    rw [e2, List.getElem?_map, List.getElem?_range h]
    simp [e1]
  · rw [List.getElem?_eq_none (by rw [enumD_len, List.length_map]; omega), List.getElem?_eq_none (by simp; omega)]
/-- the rooms at the end, by place from behind -/
def endsL (S : Bool → Int) (ax : Bool) (rs : List Rm) : List (Int × Int) := ((List.range rs.length).filter fun i => decide ((rs[i]?.getD d0).hi ax = S ax)).map fun i : Nat => (0 - (rs[i]?.getD d0).lo (!ax), (i : Int))
theorem mem_endsL {S : Bool → Int} {ax : Bool} {rs : List Rm} {e : Int × Int} : e ∈ endsL S ax rs ↔ ∃ (k : Nat) (r : Rm), rs[k]? = some r ∧ r.hi ax = S ax ∧ e = (0 - r.lo (!ax), (k : Int)) := by
  unfold endsL
  constructor
  · intro h
    obtain ⟨k, h1, h2⟩ := List.mem_map.mp h
    obtain ⟨h3, h4⟩ := List.mem_filter.mp h1
    have hk : k < rs.length := by simpa using h3
    rw [List.getElem?_eq_getElem hk] at h4 h2
    exact ⟨k, rs[k], List.getElem?_eq_getElem hk, by simpa using h4, by rw [← h2]; rfl⟩
  · rintro ⟨k, r, h1, h2, rfl⟩
    refine List.mem_map.mpr ⟨k, List.mem_filter.mpr ⟨?_, ?_⟩, ?_⟩
    · simpa using (List.getElem?_eq_some_iff.mp h1).1
    · rw [h1]; simpa using h2
    · rw [h1]; rfl
theorem nodup_endsL (S : Bool → Int) (ax : Bool) (rs : List Rm) : (endsL S ax rs).Nodup := by
  unfold endsL
  refine List.pairwise_map.mpr ?_
  refine List.Pairwise.imp ?_ (List.Pairwise.filter _ (List.nodup_range (n := rs.length)))
  intro a b h z
  apply h
  have := (Prod.mk.inj z).2
  omega
/-- what the sorted ends tell of the cut between the rooms that stay and those that grow -/
theorem ends_split {S : Bool → Int} {ax : Bool} {rs : List Rm} {m : Nat} (hm : 1 ≤ m ∧ m ≤ (sortP (endsL S ax rs)).length) :
    ∃ (k0 : Nat) (r0 : Rm), rs[k0]? = some r0 ∧ r0.hi ax = S ax ∧ (sortP (endsL S ax rs))[m - 1]? = some (0 - r0.lo (!ax), (k0 : Int)) ∧
      (∀ (k : Nat) (r : Rm), rs[k]? = some r → r.hi ax = S ax → (∃ e ∈ (sortP (endsL S ax rs)).drop m, e.2 = (k : Int)) ∨ r0.lo (!ax) ≤ r.lo (!ax)) ∧
      (∀ k : Nat, (∃ e ∈ (sortP (endsL S ax rs)).drop m, e.2 = (k : Int)) → k ≠ k0 ∧ ∃ r, rs[k]? = some r ∧ r.hi ax = S ax ∧ r.lo (!ax) ≤ r0.lo (!ax)) := by
  have hmem : ∀ e, e ∈ sortP (endsL S ax rs) ↔ ∃ (k : Nat) (r : Rm), rs[k]? = some r ∧ r.hi ax = S ax ∧ e = (0 - r.lo (!ax), (k : Int)) := fun e => by
    rw [(sortP_perm _).mem_iff]; exact mem_endsL
  have hnd : (sortP (endsL S ax rs)).Nodup := (sortP_perm _).nodup_iff.mpr (nodup_endsL S ax rs)
  have hle := sortP_le (endsL S ax rs)
  generalize sortP (endsL S ax rs) = es at *
  have h1 : m - 1 < es.length := by omega
  have e1 := List.getElem?_eq_getElem h1
  obtain ⟨k0, r0, a1, a2, a3⟩ := (hmem es[m - 1]).mp (List.getElem_mem h1)
  rw [a3] at e1
  refine ⟨k0, r0, a1, a2, e1, fun k r hk hr => ?_, fun k hk => ?_⟩
  · obtain ⟨i, hi, ei⟩ := List.getElem_of_mem ((hmem (0 - r.lo (!ax), (k : Int))).mpr ⟨k, r, hk, hr, rfl⟩)
    by_cases q : m ≤ i
    · left
      refine ⟨(0 - r.lo (!ax), (k : Int)), ?_, rfl⟩
      rw [← ei]
      exact List.mem_of_getElem? (l := es.drop m) (i := i - m) (by rw [List.getElem?_drop, show m + (i - m) = i by omega]; exact List.getElem?_eq_getElem hi)
    · right
      by_cases z : i = m - 1
      · subst z
        rw [a3] at ei
        have := (Prod.mk.inj ei).1
        omega
      · have := List.pairwise_iff_getElem.mp hle i (m - 1) hi h1 (by omega)
        rw [ei, a3] at this
        unfold lexLe at this
        simp only [decide_eq_true_eq] at this
        omega
  · obtain ⟨e, he, hek⟩ := hk
    obtain ⟨i, hi, ei⟩ := List.getElem_of_mem he
    rw [List.getElem_drop] at ei
    have hi' : m + i < es.length := by simp at hi; omega
    obtain ⟨k', r, b1, b2, b3⟩ := (hmem e).mp (by rw [← ei]; exact List.getElem_mem hi')
    have kk : k' = k := by rw [b3] at hek; simp at hek; omega
    subst kk
    have lt : m - 1 < m + i := by omega
    have q := List.pairwise_iff_getElem.mp hle (m - 1) (m + i) h1 hi' lt
    have nd := List.pairwise_iff_getElem.mp hnd (m - 1) (m + i) h1 hi' lt
    rw [ei, b3, a3] at q nd
    refine ⟨fun z => nd ?_, r, b1, b2, ?_⟩
    · subst z
      rw [a1] at b1
      cases b1
      rfl
    · unfold lexLe at q
      simp only [decide_eq_true_eq] at q
      omega
theorem ends_pos {S : Bool → Int} {rs : List Rm} (C : Cov S rs) (ax : Bool) (hS : ∀ a, 1 ≤ S a) : 1 ≤ (sortP (endsL S ax rs)).length := by
  have nx : (!ax) ≠ ax := by cases ax <;> decide
  obtain ⟨k, r, e, c⟩ := C.cvI (p := fun b => if b = ax then S ax - 1 else 0) ((allX ax).mpr (by have := hS ax; have := hS (!ax); simp only [if_true, if_neg nx]; omega))
  have c := (con_ax ax).mp c
  simp only [if_true, if_neg nx] at c
  have o := C.okI e ax
  have : (0 - r.lo (!ax), (k : Int)) ∈ sortP (endsL S ax rs) := by
    rw [(sortP_perm _).mem_iff]; exact mem_endsL.mpr ⟨k, r, e, by omega, rfl⟩
  exact List.length_pos_of_mem this
end K31
end
end
section
set_option Elab.async false
set_option linter.all false
set_option maxRecDepth 100000
noncomputable section
namespace K31
open PySem L2 VL
@[simp] theorem stK_rmL (r : Rm) (i : Nat) (p : List Nat) (k : Int) (d : D) (ρ1 : VL.Env) : stK (some (rmL true r)) i p k d ρ1 = stL (ixN 4 k) i p [.int (r.lo false), .int (r.lo true), .int (r.hi false), .int (r.hi true)] d ρ1 := rfl
@[simp] theorem fro_rmLF (r : Rm) : (rmL false r).fro = true := (rfl)
@[simp] theorem own_rmL (r : Rm) : (rmL true r).own = true := (rfl)
@[simp] theorem froL_rmLF : ∀ l : List Rm, froL (l.map (rmL false)) = true := mapfro _ fro_rmLF
def ixO (i : Nat) (p : List Nat) (o : Option Nat) : Option (Nat × List Nat) := match o with
  | some j => some (i, p ++ [j])
  | none => none
def ixS (i : Nat) (p : List Nat) (k : Int) (n : Option D) : Option (Nat × List Nat) := match n with
  | some (.lst true ds) => ixO i p (ixN ds.length k)
  | _ => none
def ixB (i : Nat) (p : List Nat) (b : Option D) (n : Option D) : Option (Nat × List Nat) := match b with
  | some (.int k) => ixS i p k n
  | _ => none
@[simp] theorem ixL_nm (i : Nat) (pb : PM) (ρ : VL.Env) : ixL (nmL i) pb ρ = ixB i [] (pb ρ) (ρ.at i) := by
  show ((some (i, ([] : List Nat))).bind fun x => (pb ρ).bind fun b => ((ρ.at x.1).bind fun d => d.sub x.2).bind fun n => _) = _
  rw [Option.bind_some]
  generalize pb ρ = b
  simp only []
  generalize ρ.at i = n
  cases b with
  | none => rfl
  | some b =>
    cases n with
    | none => cases b <;> rfl
    | some n =>
      show (match b, n with
        | .int k, .lst true ds => (ixN ds.length k).map fun j => (i, ([] : List Nat) ++ [j])
        | _, _ => none) = _
      cases b <;> try rfl
      cases n <;> try rfl
      rename_i k o ds
      cases o <;> try rfl
      show (ixN ds.length k).map _ = ixO i [] (ixN ds.length k)
      cases ixN ds.length k <;> rfl
@[simp] theorem ixB_i (i : Nat) (p : List Nat) (k : Int) (n : Option D) : ixB i p (some (.int k)) n = ixS i p k n := rfl
@[simp] theorem ixS_l (i : Nat) (p : List Nat) (k : Int) (ds : List D) : ixS i p k (some (.lst true ds)) = ixO i p (ixN ds.length k) := rfl
@[simp] theorem ixO_s (i : Nat) (p : List Nat) (j : Nat) : ixO i p (some j) = some (i, p ++ [j]) := rfl
def slR (d : Option D) (lo hi : Option (Option Int)) : Option D := match d, lo, hi with
  | some d, some lo, some hi => match piL d with
    | some ds => if froL ds = true then some (.lst true (cutD ds lo hi)) else none
    | none => none
  | _, _, _ => none
@[simp] theorem sliceN_eq (pa : PM) (pl ph : OM) (ρ : VL.Env) : sliceN pa pl ph ρ = slR (pa ρ) (pl ρ) (ph ρ) := by
  unfold sliceN slR; rfl
@[simp] theorem slR_l (o : Bool) (l : List D) (lo hi : Option Int) : slR (some (.lst o l)) (some lo) (some hi) = if froL l = true then some (.lst true (cutD l lo hi)) else none := rfl
@[simp] theorem slR_e (l : List D) (lo hi : Option Int) : slR (some (.ext l)) (some lo) (some hi) = if froL l = true then some (.lst true (cutD l lo hi)) else none := rfl
theorem cutD_drop (l : List D) (m : Nat) : cutD l (some (m : Int)) none = l.drop m := by
  unfold cutD
  rw [HT.sIx_nat, HT.sIx_none, List.take_of_length_le (by simp)]
  by_cases h : m ≤ l.length
  · rw [Nat.min_eq_left h]
  · rw [Nat.min_eq_right (by omega), List.drop_of_length_le (by omega), List.drop_of_length_le (by omega)]
def Grown (rs rs' : List Rm) (ax : Bool) (v : Int) (L : List (Int × Int)) (j : Nat) : Prop := rs'.length = rs.length ∧ ∀ (k : Nat) (r : Rm), rs[k]? = some r → ((∃ e ∈ L.take j, e.2 = (k : Int)) → rs'[k]? = some (r.setHi ax v)) ∧ ((¬ ∃ e ∈ L.take j, e.2 = (k : Int)) → rs'[k]? = some r)
theorem push_eq {S : Bool → Int} {rs : List Rm} (C : Cov S rs) (hS : ∀ a, 1 ≤ S a) (hn : rs.length ≤ 20) (a c t : Int) :
    FRo (m__law_push [stD a c t, szD true S, .lst true (rs.map (rmL true))]) fun d os => d = .non ∧ ∃ o S' rs', os = [o, some (szD true S'), some (.lst true (rs'.map (rmL true)))] ∧ StO t o ∧ Cov S' rs' ∧ rs'.length = rs.length + 1 ∧ ∀ a, S a ≤ S' a ∧ S' a ≤ S a + 3 := by
  obtain ⟨v, a1, c1, hv, w1⟩ := next_eq a c t 2 (by omega) (by omega)
  obtain ⟨ax, hax⟩ : ∃ ax : Bool, (v : Int) = axI ax := by
    rcases (show v = 0 ∨ v = 1 by omega) with rfl | rfl
    · exact ⟨false, rfl⟩
    · exact ⟨true, rfl⟩
  rw [hax] at w1
  have el := ends_pos C ax hS
  have ell : (endsL S ax rs).length ≤ 20 := by
    unfold endsL
    rw [List.length_map]
    exact Nat.le_trans (List.length_filter_le _ _) (by simp; omega)
  have spl : (sortP (endsL S ax rs)).length = (endsL S ax rs).length := (sortP_perm _).length_eq
  obtain ⟨v2, a2, c2, hv2, w2⟩ := next_eq a1 c1 t (sortP (endsL S ax rs)).length (by omega) (by omega)
  obtain ⟨v3, a3, c3, hv3, w3⟩ := next_eq a2 c2 t 3 (by omega) (by omega)
  obtain ⟨k0, r0, x1, x2, x3, x4, x5⟩ := ends_split (S := S) (ax := ax) (rs := rs) (m := v2 + 1) (by omega)
  have i0 : atI (rs.map (rmL true)) (k0 : Int) = some (rmL true r0) := atI_map x1
  have i3 : atI ((sortP (endsL S ax rs)).map pairD) (1 + (v2 : Int) - 1) = some (pairD (0 - r0.lo (!ax), (k0 : Int))) := by
    have := atI_map (f := pairD) x3
    rw [show 1 + (v2 : Int) - 1 = ((v2 + 1 - 1 : Nat) : Int) by omega]
    exact this
  have hnd : ∀ e ∈ (sortP (endsL S ax rs)), ∃ (k : Nat) (r : Rm), rs[k]? = some r ∧ e = (0 - r.lo (!ax), (k : Int)) := fun e he => by
    obtain ⟨k, r, h1, _, h2⟩ := mem_endsL.mp ((sortP_perm _).mem_iff.mp he)
    exact ⟨k, r, h1, h2⟩
  have sz := sizeLine_ge
  cases ax
  · have w1' : m__law_next [stD a c t, .int 2] = .rt (.int 0) [some (stD a1 c1 t), some (.int 2)] := w1
    have k := fun ρ hs => lcN_eq (it := piE) (src := nP 2) (vs := [9, 10]) (gm := tupG 2 (consG (nmG 9) (consG (nmG 10) nilG))) (c := valT (opP eqD (opP ixD (nP 10) (opP addX (nP 3) (cP (.int 2)))) (opP ixD (nP 1) (nP 3)))) (f := froP (tupP (consP (opP subD (cP (.int 0)) (opP ixD (nP 10) (opP subD (cP (.int 1)) (nP 3)))) (consP (nP 9) nilP)))) (ρ := ρ)
      (fun i : Nat => .tup [.int i, rmL true (rs[i]?.getD d0)]) (fun i => decide ((rs[i]?.getD d0).hi false = S false)) (fun i => pairD (0 - (rs[i]?.getD d0).lo (!false), (i : Int))) (List.range rs.length) (d := .lst true (rs.map (rmL true))) hs (by rw [piE_lst, enumD_eq])
    have km : (((List.range rs.length).filter fun i => decide ((rs[i]?.getD d0).hi false = S false)).map fun i : Nat => pairD (0 - (rs[i]?.getD d0).lo (!false), (i : Int))) = (endsL S false rs).map pairD := by
      unfold endsL
      rw [List.map_map]
      rfl
    unfold szD
    simp -implicitDefEqProofs [m__law_push, b__law_push, w1']
    rw [k _ (by simp -implicitDefEqProofs []) (fun i m => ?_) (by simp; omega), km]
    · simp -implicitDefEqProofs [sorted_pairs, w2, w3, i3, i0]
      rw [show 1 + (v2 : Int) = ((v2 + 1 : Nat) : Int) by omega, cutD_drop, ← List.map_drop, if_pos (fro_pairs _), fmO_some]
      have hL : ∀ e ∈ (sortP (endsL S false rs)).drop (v2 + 1), ∃ (k : Nat) (r : Rm), rs[k]? = some r ∧ e = (0 - r.lo (!false), (k : Int)) := fun e he => hnd e (List.mem_of_mem_drop he)
      generalize hLe : (sortP (endsL S false rs)).drop (v2 + 1) = L at *
      refine loop_fr (fun j ρ => ∃ (rs' : List Rm) (x y : Option D), ρ = [some (stD a3 c3 t), some (.lst true [.int (S false), .int (S true)]), some (.lst true (rs'.map (rmL true))), some (.int 0), some (.lst true ((sortP (endsL S false rs)).map pairD)), some (.int ((v2 + 1 : Nat) : Int)), some (.int (1 + (v3 : Int))), some (.lst true [.int (S false), .int (r0.lo true), .int (S false + (1 + (v3 : Int))), .int (S true)]), x, y, none] ∧ Grown rs rs' false (S false + (1 + (v3 : Int))) L j) ⟨rs, none, none, rfl, rfl, fun k r hk => ⟨fun ⟨e, he, _⟩ => by simp at he, fun _ => hk⟩⟩ (fun j d ρ1 hd hp => ?_) (fun ρ' hp => ?_)
      · obtain ⟨rs', x, y, rfl, hl', hk'⟩ := hp
        rw [List.getElem?_map] at hd
        cases hj : L[j]? with
        | none => rw [hj] at hd; exact nomatch hd
        | some e =>
          rw [hj] at hd
          obtain rfl := Option.some.inj hd
          obtain ⟨kk, rr, hr, he⟩ := hL e (List.mem_of_getElem? hj)
          have tk : L.take (j + 1) = L.take j ++ [e] := by rw [List.take_succ, hj]; rfl
          have hkl : kk < rs'.length := by rw [hl']; exact (List.getElem?_eq_some_iff.mp hr).1
          have ik := ixN_nat hkl
          have gk := List.getElem?_eq_getElem hkl
          have fin : ∀ r2 : Rm, rs'[kk]? = some r2 → r2.setHi false (S false + (1 + (v3 : Int))) = rr.setHi false (S false + (1 + (v3 : Int))) := fun r2 h2 => by
            by_cases q : ∃ e ∈ L.take j, e.2 = (kk : Int)
            · rw [(hk' kk rr hr).1 q] at h2
              obtain rfl := Option.some.inj h2
              exact Rm.ext' (fun _ => rfl) (fun b => by simp only [Rm.setHi]; split <;> rfl)
            · rw [(hk' kk rr hr).2 q] at h2
              obtain rfl := Option.some.inj h2
              rfl
          subst he
          have upd : ∀ (k : Nat) (r : Rm), rs[k]? = some r → ((∃ e ∈ L.take (j + 1), e.2 = (k : Int)) → (rs'.set kk (rs'[kk].setHi false (S false + (1 + (v3 : Int)))))[k]? = some (r.setHi false (S false + (1 + (v3 : Int))))) ∧ ((¬ ∃ e ∈ L.take (j + 1), e.2 = (k : Int)) → (rs'.set kk (rs'[kk].setHi false (S false + (1 + (v3 : Int)))))[k]? = some r) := fun k r hk => by
            by_cases q : k = kk
            · subst q
              rw [hr] at hk
              obtain rfl := Option.some.inj hk; refine ⟨fun _ => by rw [List.getElem?_set_self hkl, fin _ gk], fun z => absurd ⟨_, by rw [tk]; exact List.mem_append_right _ (List.mem_singleton.mpr rfl), rfl⟩ z⟩
            · rw [List.getElem?_set_ne (by omega)]
              have iff : (∃ e ∈ L.take (j + 1), e.2 = (k : Int)) ↔ ∃ e ∈ L.take j, e.2 = (k : Int) := by
                rw [tk]
                constructor
                · rintro ⟨e, he, h2⟩
                  rcases List.mem_append.mp he with he1 | he2
                  · exact ⟨e, he1, h2⟩
                  · rw [List.mem_singleton.mp he2] at h2; simp at h2; omega
                · rintro ⟨e, he, h2⟩
                  exact ⟨e, List.mem_append_left _ he, h2⟩
              rw [iff]
              exact hk' k r hk
          simp -implicitDefEqProofs [pairD, ik, gk]
          refine ⟨rs'.set kk (rs'[kk].setHi false (S false + (1 + (v3 : Int)))), ?_, by simp [hl'], upd⟩
          rw [List.map_set]
          rfl
      · obtain ⟨rs', x, y, rfl, hl', hk'⟩ := hp
        rw [List.length_map, List.take_length] at hk'
        have hs : rs'.length < sizeLine := by omega
        simp -implicitDefEqProofs [hs]
        refine ⟨_, fun b => if b = false then S false + (1 + (v3 : Int)) else S b, rs' ++ [⟨fun b => if b = false then S false else r0.lo true, fun b => if b = false then S false + (1 + (v3 : Int)) else S true⟩], ⟨rfl, ⟨rfl, rfl⟩, by rw [List.map_append]; rfl⟩, ⟨a3, c3, rfl⟩, ?_, by simp [hl'], ?_⟩
        · have := push_cov (rs' := rs') (ks := fun k => ∃ e ∈ L, e.2 = (k : Int)) (d := 1 + (v3 : Int)) (fr := ⟨fun b => if b = false then S false else r0.lo true, fun b => if b = false then S false + (1 + (v3 : Int)) else S true⟩) C (by have := hS false; omega) (by omega) x1 x2 x4 x5 hl' hk' ⟨rfl, rfl, rfl, rfl⟩
          have e : (fun a => if a = false then S a + (1 + (v3 : Int)) else S a) = (fun b => if b = false then S false + (1 + (v3 : Int)) else S b) := funext fun b => by cases b <;> rfl
          rw [← e]
          exact this
        · simp; omega
    · simp -implicitDefEqProofs [wipeE, pairD]
  · have w1' : m__law_next [stD a c t, .int 2] = .rt (.int 1) [some (stD a1 c1 t), some (.int 2)] := w1
    have k := fun ρ hs => lcN_eq (it := piE) (src := nP 2) (vs := [9, 10]) (gm := tupG 2 (consG (nmG 9) (consG (nmG 10) nilG))) (c := valT (opP eqD (opP ixD (nP 10) (opP addX (nP 3) (cP (.int 2)))) (opP ixD (nP 1) (nP 3)))) (f := froP (tupP (consP (opP subD (cP (.int 0)) (opP ixD (nP 10) (opP subD (cP (.int 1)) (nP 3)))) (consP (nP 9) nilP)))) (ρ := ρ)
      (fun i : Nat => .tup [.int i, rmL true (rs[i]?.getD d0)]) (fun i => decide ((rs[i]?.getD d0).hi true = S true)) (fun i => pairD (0 - (rs[i]?.getD d0).lo (!true), (i : Int))) (List.range rs.length) (d := .lst true (rs.map (rmL true))) hs (by rw [piE_lst, enumD_eq])
    have km : (((List.range rs.length).filter fun i => decide ((rs[i]?.getD d0).hi true = S true)).map fun i : Nat => pairD (0 - (rs[i]?.getD d0).lo (!true), (i : Int))) = (endsL S true rs).map pairD := by
      unfold endsL
      rw [List.map_map]
      rfl
    unfold szD
    simp -implicitDefEqProofs [m__law_push, b__law_push, w1']
    rw [k _ (by simp -implicitDefEqProofs []) (fun i m => ?_) (by simp; omega), km]
    · simp -implicitDefEqProofs [sorted_pairs, w2, w3, i3, i0]
      rw [show 1 + (v2 : Int) = ((v2 + 1 : Nat) : Int) by omega, cutD_drop, ← List.map_drop, if_pos (fro_pairs _), fmO_some]
      have hL : ∀ e ∈ (sortP (endsL S true rs)).drop (v2 + 1), ∃ (k : Nat) (r : Rm), rs[k]? = some r ∧ e = (0 - r.lo (!true), (k : Int)) := fun e he => hnd e (List.mem_of_mem_drop he)
      generalize hLe : (sortP (endsL S true rs)).drop (v2 + 1) = L at *
      refine loop_fr (fun j ρ => ∃ (rs' : List Rm) (x y : Option D), ρ = [some (stD a3 c3 t), some (.lst true [.int (S false), .int (S true)]), some (.lst true (rs'.map (rmL true))), some (.int 1), some (.lst true ((sortP (endsL S true rs)).map pairD)), some (.int ((v2 + 1 : Nat) : Int)), some (.int (1 + (v3 : Int))), some (.lst true [.int (r0.lo false), .int (S true), .int (S false), .int (S true + (1 + (v3 : Int)))]), x, y, none] ∧ Grown rs rs' true (S true + (1 + (v3 : Int))) L j) ⟨rs, none, none, rfl, rfl, fun k r hk => ⟨fun ⟨e, he, _⟩ => by simp at he, fun _ => hk⟩⟩ (fun j d ρ1 hd hp => ?_) (fun ρ' hp => ?_)
      · obtain ⟨rs', x, y, rfl, hl', hk'⟩ := hp
        rw [List.getElem?_map] at hd
        cases hj : L[j]? with
        | none => rw [hj] at hd; exact nomatch hd
        | some e =>
          rw [hj] at hd
          obtain rfl := Option.some.inj hd
          obtain ⟨kk, rr, hr, he⟩ := hL e (List.mem_of_getElem? hj)
          have tk : L.take (j + 1) = L.take j ++ [e] := by rw [List.take_succ, hj]; rfl
          have hkl : kk < rs'.length := by rw [hl']; exact (List.getElem?_eq_some_iff.mp hr).1
          have ik := ixN_nat hkl
          have gk := List.getElem?_eq_getElem hkl
          have fin : ∀ r2 : Rm, rs'[kk]? = some r2 → r2.setHi true (S true + (1 + (v3 : Int))) = rr.setHi true (S true + (1 + (v3 : Int))) := fun r2 h2 => by
            by_cases q : ∃ e ∈ L.take j, e.2 = (kk : Int)
            · rw [(hk' kk rr hr).1 q] at h2
              obtain rfl := Option.some.inj h2
              exact Rm.ext' (fun _ => rfl) (fun b => by simp only [Rm.setHi]; split <;> rfl)
            · rw [(hk' kk rr hr).2 q] at h2
              obtain rfl := Option.some.inj h2
              rfl
          subst he
          have upd : ∀ (k : Nat) (r : Rm), rs[k]? = some r → ((∃ e ∈ L.take (j + 1), e.2 = (k : Int)) → (rs'.set kk (rs'[kk].setHi true (S true + (1 + (v3 : Int)))))[k]? = some (r.setHi true (S true + (1 + (v3 : Int))))) ∧ ((¬ ∃ e ∈ L.take (j + 1), e.2 = (k : Int)) → (rs'.set kk (rs'[kk].setHi true (S true + (1 + (v3 : Int)))))[k]? = some r) := fun k r hk => by
            by_cases q : k = kk
            · subst q
              rw [hr] at hk
              obtain rfl := Option.some.inj hk; refine ⟨fun _ => by rw [List.getElem?_set_self hkl, fin _ gk], fun z => absurd ⟨_, by rw [tk]; exact List.mem_append_right _ (List.mem_singleton.mpr rfl), rfl⟩ z⟩
            · rw [List.getElem?_set_ne (by omega)]
              have iff : (∃ e ∈ L.take (j + 1), e.2 = (k : Int)) ↔ ∃ e ∈ L.take j, e.2 = (k : Int) := by
                rw [tk]
                constructor
                · rintro ⟨e, he, h2⟩
                  rcases List.mem_append.mp he with he1 | he2
                  · exact ⟨e, he1, h2⟩
                  · rw [List.mem_singleton.mp he2] at h2; simp at h2; omega
                · rintro ⟨e, he, h2⟩
                  exact ⟨e, List.mem_append_left _ he, h2⟩
              rw [iff]
              exact hk' k r hk
          simp -implicitDefEqProofs [pairD, ik, gk]
          refine ⟨rs'.set kk (rs'[kk].setHi true (S true + (1 + (v3 : Int)))), ?_, by simp [hl'], upd⟩
          rw [List.map_set]
          rfl
      · obtain ⟨rs', x, y, rfl, hl', hk'⟩ := hp
        rw [List.length_map, List.take_length] at hk'
        have hs : rs'.length < sizeLine := by omega
        simp -implicitDefEqProofs [hs]
        refine ⟨_, fun b => if b = true then S true + (1 + (v3 : Int)) else S b, rs' ++ [⟨fun b => if b = true then S true else r0.lo false, fun b => if b = true then S true + (1 + (v3 : Int)) else S false⟩], ⟨rfl, ⟨rfl, rfl⟩, by rw [List.map_append]; rfl⟩, ⟨a3, c3, rfl⟩, ?_, by simp [hl'], ?_⟩
        · have := push_cov (rs' := rs') (ks := fun k => ∃ e ∈ L, e.2 = (k : Int)) (d := 1 + (v3 : Int)) (fr := ⟨fun b => if b = true then S true else r0.lo false, fun b => if b = true then S true + (1 + (v3 : Int)) else S false⟩) C (by have := hS true; omega) (by omega) x1 x2 x4 x5 hl' hk' ⟨rfl, rfl, rfl, rfl⟩
          have e : (fun a => if a = true then S a + (1 + (v3 : Int)) else S a) = (fun b => if b = true then S true + (1 + (v3 : Int)) else S b) := funext fun b => by cases b <;> rfl
          rw [← e]
          exact this
        · simp; omega
    · simp -implicitDefEqProofs [wipeE, pairD]
end K31
end
end
section
set_option Elab.async false
set_option linter.all false
set_option maxRecDepth 100000
noncomputable section
namespace K31
open PySem L2 VL
def bI1 : SM := (ifM (liftT (andT (valT (opP eqD (opP ixD (opP ixD (nP 0) (nP 8)) (nP 1)) (nP 5))) (valT (opP (inD true) (nP 8) (nP 4))))) (ifM (liftT (valT (opP gtD (callP lenD (consP (lcN piL (nP 3) [9] (nmG 9) (valT (callN m__law_over (consP (opP ixD (nP 0) (nP 9)) (consP (opP ixD (nP 0) (nP 8)) (consP (opP subD (cP (.int 1)) (nP 1)) nilP))))) (froP (nP 9))) nilP)) (cP (.int 0))))) (exprM (mtdN moAppend 4 (consE (liftA [8] (nP 8)) nilE))) nxM) nxM)
def bI2 : SM := (ifM (liftT (andT (valT (opP eqD (opP ixD (opP ixD (nP 0) (nP 8)) (opP addX (nP 1) (cP (.int 2)))) (nP 5))) (valT (opP (inD true) (nP 8) (nP 3))))) (ifM (liftT (valT (opP gtD (callP lenD (consP (lcN piL (nP 4) [9] (nmG 9) (valT (callN m__law_over (consP (opP ixD (nP 0) (nP 9)) (consP (opP ixD (nP 0) (nP 8)) (consP (opP subD (cP (.int 1)) (nP 1)) nilP))))) (froP (nP 9))) nilP)) (cP (.int 0))))) (exprM (mtdN moAppend 3 (consE (liftA [8] (nP 8)) nilE))) nxM) nxM)
def bBI : SM := (seqM (ifM (liftT (andT (valT (opP eqD (opP ixD (opP ixD (nP 0) (nP 8)) (nP 1)) (nP 5))) (valT (opP (inD true) (nP 8) (nP 4))))) (ifM (liftT (valT (opP gtD (callP lenD (consP (lcN piL (nP 3) [9] (nmG 9) (valT (callN m__law_over (consP (opP ixD (nP 0) (nP 9)) (consP (opP ixD (nP 0) (nP 8)) (consP (opP subD (cP (.int 1)) (nP 1)) nilP))))) (froP (nP 9))) nilP)) (cP (.int 0))))) (exprM (mtdN moAppend 4 (consE (liftA [8] (nP 8)) nilE))) nxM) nxM) (ifM (liftT (andT (valT (opP eqD (opP ixD (opP ixD (nP 0) (nP 8)) (opP addX (nP 1) (cP (.int 2)))) (nP 5))) (valT (opP (inD true) (nP 8) (nP 3))))) (ifM (liftT (valT (opP gtD (callP lenD (consP (lcN piL (nP 4) [9] (nmG 9) (valT (callN m__law_over (consP (opP ixD (nP 0) (nP 9)) (consP (opP ixD (nP 0) (nP 8)) (consP (opP subD (cP (.int 1)) (nP 1)) nilP))))) (froP (nP 9))) nilP)) (cP (.int 0))))) (exprM (mtdN moAppend 3 (consE (liftA [8] (nP 8)) nilE))) nxM) nxM))
def bBO : SM := (seqM (setM 7 (liftN (opP addX (callP lenD (consP (nP 3) nilP)) (callP lenD (consP (nP 4) nilP))))) (seqM (forR itR1 (consE (liftN (callP lenD (consP (nP 0) nilP))) nilE) (nmG 8) (seqM (ifM (liftT (andT (valT (opP eqD (opP ixD (opP ixD (nP 0) (nP 8)) (nP 1)) (nP 5))) (valT (opP (inD true) (nP 8) (nP 4))))) (ifM (liftT (valT (opP gtD (callP lenD (consP (lcN piL (nP 3) [9] (nmG 9) (valT (callN m__law_over (consP (opP ixD (nP 0) (nP 9)) (consP (opP ixD (nP 0) (nP 8)) (consP (opP subD (cP (.int 1)) (nP 1)) nilP))))) (froP (nP 9))) nilP)) (cP (.int 0))))) (exprM (mtdN moAppend 4 (consE (liftA [8] (nP 8)) nilE))) nxM) nxM) (ifM (liftT (andT (valT (opP eqD (opP ixD (opP ixD (nP 0) (nP 8)) (opP addX (nP 1) (cP (.int 2)))) (nP 5))) (valT (opP (inD true) (nP 8) (nP 3))))) (ifM (liftT (valT (opP gtD (callP lenD (consP (lcN piL (nP 4) [9] (nmG 9) (valT (callN m__law_over (consP (opP ixD (nP 0) (nP 9)) (consP (opP ixD (nP 0) (nP 8)) (consP (opP subD (cP (.int 1)) (nP 1)) nilP))))) (froP (nP 9))) nilP)) (cP (.int 0))))) (exprM (mtdN moAppend 3 (consE (liftA [8] (nP 8)) nilE))) nxM) nxM))) (ifM (liftT (valT (opP eqD (opP addX (callP lenD (consP (nP 3) nilP)) (callP lenD (consP (nP 4) nilP))) (nP 7)))) bkM nxM)))
theorem bBI_eq : bBI = seqM bI1 bI2 := rfl
def nD (k : Nat) : D := .int k
theorem nD_eq (k : Nat) : nD k = .int k := rfl
@[simp] theorem fro_nD (p : Nat) : (nD p).fro = true := (rfl)
@[simp] theorem own_nD (p : Nat) : (nD p).own = true := (rfl)
@[simp] theorem frz_nD (p : Nat) : (nD p).frz = nD p := (rfl)
@[simp] theorem fz_nDs (l : List Nat) : frzL (l.map nD) = l.map nD := mapfz _ frz_nD l
@[simp] theorem fro_nDs (l : List Nat) : froL (l.map nD) = true := mapfro _ fro_nD l
@[simp] theorem own_nDs (l : List Nat) : ownL (l.map nD) = true := mapown _ own_nD l
theorem inD_nats (o : Bool) (k : Nat) (l : List Nat) : inD true (.int (k : Int)) (.lst o (l.map nD)) = some (.bl (decide (k ∉ l))) := by
  unfold inD
  have hf : (l.map nD).all D.flat = true := by
    rw [List.all_map]
    exact List.all_eq_true.mpr fun _ _ => (rfl : _ = _)
  simp only [seqOf_lst]
  rw [if_pos (by rw [hf]; rfl)]
  simp only [if_true]
  congr 2
  have : inV (D.int (k : Int)).toV ((l.map nD).map D.toV) = decide (k ∈ l) := by
    unfold inV
    rw [List.map_map]
    induction l with
    | nil => rfl
    | cons a l ih =>
      simp only [List.map_cons, List.any_cons, List.mem_cons]
      rw [ih (by rw [List.all_map]; exact List.all_eq_true.mpr fun _ _ => rfl)]
      have e : eqV ((D.toV ∘ nD) a) (D.int (k : Int)).toV = decide (k = a) := by
        show ((a : Int) == (k : Int)) = _
        by_cases h : k = a
        · subst h; simp
        · have : ¬ (a : Int) = (k : Int) := by omega
          simp [h, this]
      rw [e]
      by_cases h : k = a <;> simp [h]
  rw [this]
  by_cases h : k ∈ l <;> simp [h]
def gR (rs : List Rm) (k : Nat) : Rm := rs[k]?.getD d0
def ovB (rs : List Rm) (ax : Bool) (k j : Nat) : Bool := decide (ovr (!ax) (gR rs j) (gR rs k) ∧ (gR rs j).lo (!ax) < (gR rs j).hi (!ax) ∧ (gR rs k).lo (!ax) < (gR rs k).hi (!ax))
structure BInv (rs : List Rm) (ax : Bool) (c : Int) (L H : List Nat) : Prop where
  lo : ∀ k ∈ L, k < rs.length ∧ (gR rs k).hi ax = c
  hi : ∀ k ∈ H, k < rs.length ∧ (gR rs k).lo ax = c
  nL : L.Nodup
  nH : H.Nodup
def bEnv (rs : List Rm) (ax : Bool) (first : Nat) (c : Int) (L H : List Nat) (x y z w : Option D) : VL.Env := [some (.lst false (rs.map (rmL false))), some (.int (axI ax)), some (.int first), some (.lst true (L.map nD)), some (.lst true (H.map nD)), some (.int c), x, y, z, w]
theorem gR_at {rs : List Rm} {k : Nat} (h : k < rs.length) : atI (rs.map (rmL false)) (k : Int) = some (rmL false (gR rs k)) := by
  have e := List.getElem?_eq_getElem h
  rw [atI_map e]
  unfold gR
  rw [e]; rfl
theorem ovL {rs : List Rm} {ax : Bool} {k : Nat} {src : PM} {ρ : VL.Env} (L : List Nat) (hs : src ρ = some (.lst true (L.map nD))) (hk : k < rs.length) (hL : ∀ j ∈ L, j < rs.length) (hl : L.length ≤ 1000)
    (e0 : (wipeE [9] ρ).at 0 = some (.lst false (rs.map (rmL false)))) (e1 : (wipeE [9] ρ).at 1 = some (.int (axI ax))) (e8 : (wipeE [9] ρ).at 8 = some (.int k)) (e9 : 9 < (wipeE [9] ρ).length) :
    lcN piL src [9] (nmG 9) (valT (callN m__law_over (consP (opP ixD (nP 0) (nP 9)) (consP (opP ixD (nP 0) (nP 8)) (consP (opP subD (cP (.int 1)) (nP 1)) nilP))))) (froP (nP 9)) ρ = some (.lst true ((L.filter (ovB rs ax k)).map nD)) := by
  refine lcN_eq nD (ovB rs ax k) nD L hs rfl (fun j hj => ?_) hl
  have ej := gR_at (hL j hj)
  have ek := gR_at hk
  have v := over_eq false false (gR rs j) (gR rs k) (!ax)
  have e3 : (1 : Int) - axI ax = axI (!ax) := by cases ax <;> rfl
  generalize hρ : wipeE [9] ρ = ρ1 at *
  have s0 : (ρ1.set 9 (some (.int (j : Int))))[0]? = ρ1[0]? := List.getElem?_set_ne (by omega)
  have s1 : (ρ1.set 9 (some (.int (j : Int))))[1]? = ρ1[1]? := List.getElem?_set_ne (by omega)
  have s8 : (ρ1.set 9 (some (.int (j : Int))))[8]? = ρ1[8]? := List.getElem?_set_ne (by omega)
  have s9 : (ρ1.set 9 (some (.int (j : Int))))[9]? = some (some (.int (j : Int))) := List.getElem?_set_self e9
  unfold VL.Env.at at e0 e1 e8
  refine ⟨_, rfl, ?_, fun _ => ?_⟩
  · simp -implicitDefEqProofs [s0, s1, s8, s9, e0, e1, e8, nD_eq, ej, ek, e3, v]
    unfold ovB
    simp
  · simp -implicitDefEqProofs [s9, nD_eq]
theorem bI1_eq {rs : List Rm} {ax : Bool} {first k : Nat} {c : Int} {L H : List Nat} (B : BInv rs ax c L H) (hn : rs.length ≤ 20) (hk : k < rs.length) (lL : L.length ≤ 20) (lH : H.length ≤ 20) (x y w : Option D) :
    ∃ h, (h = [] ∨ h = [k] ∧ k ∉ H ∧ (gR rs k).lo ax = c) ∧ (h = [] → (gR rs k).lo ax = c → (∃ j ∈ L, ovB rs ax k j = true) → k ∈ H) ∧ bI1 (bEnv rs ax first c L H x y (some (.int k)) w) = .nx (bEnv rs ax first c L (H ++ h) x y (some (.int k)) w) := by
  have ek := gR_at hk
  have sz := sizeLine_ge
  have g0 : ixD (rmL false (gR rs k)) (.int (axI ax)) = some (.int ((gR rs k).lo ax)) := by cases ax <;> simp [axI]
  have io := inD_nats true k H
  have ol := ovL (ax := ax) (k := k) (src := nP 3) (ρ := bEnv rs ax first c L H x y (some (.int k)) w) L rfl hk (fun j hj => (B.lo j hj).1) (by omega) rfl rfl rfl (by simp [wipeE, bEnv])
  have sH : H.length < sizeLine := by omega
  have sF : ((L.filter (ovB rs ax k)).length = 0) ↔ ¬ ∃ j ∈ L, ovB rs ax k j = true := by
    rw [List.length_eq_zero_iff, List.filter_eq_nil_iff]
    constructor
    · rintro h ⟨j, h1, h2⟩; exact h j h1 h2
    · intro h j h1 h2; exact h ⟨j, h1, h2⟩
  unfold bEnv at ol ⊢
  by_cases h1 : (gR rs k).lo ax = c
  · by_cases h2 : k ∈ H
    · refine ⟨[], .inl rfl, fun _ _ _ => h2, ?_⟩
      simp -implicitDefEqProofs [bI1, ek, g0, h1, io, h2]
    · by_cases h3 : (L.filter (ovB rs ax k)).length = 0
      · refine ⟨[], .inl rfl, fun _ _ z => absurd z (sF.mp h3), ?_⟩
        simp -implicitDefEqProofs [bI1, ek, g0, h1, io, h2, ol, h3]
      · refine ⟨[k], .inr ⟨rfl, h2, h1⟩, (fun z => nomatch z), ?_⟩
        have h3' : 0 < (L.filter (ovB rs ax k)).length := by omega
        simp -implicitDefEqProofs [bI1, ek, g0, h1, io, h2, ol, h3', sH, nD_eq]
  · refine ⟨[], .inl rfl, fun _ z => absurd z h1, ?_⟩
    simp -implicitDefEqProofs [bI1, ek, g0, h1]
theorem bI2_eq {rs : List Rm} {ax : Bool} {first k : Nat} {c : Int} {L H : List Nat} (B : BInv rs ax c L H) (hn : rs.length ≤ 20) (hk : k < rs.length) (lL : L.length ≤ 20) (lH : H.length ≤ 20) (x y w : Option D) :
    ∃ h, (h = [] ∨ h = [k] ∧ k ∉ L ∧ (gR rs k).hi ax = c) ∧ (h = [] → (gR rs k).hi ax = c → (∃ j ∈ H, ovB rs ax k j = true) → k ∈ L) ∧ bI2 (bEnv rs ax first c L H x y (some (.int k)) w) = .nx (bEnv rs ax first c (L ++ h) H x y (some (.int k)) w) := by
  have ek := gR_at hk
  have sz := sizeLine_ge
  have g0 : ixD (rmL false (gR rs k)) (.int (axI ax + 2)) = some (.int ((gR rs k).hi ax)) := by cases ax <;> simp [axI]
  have io := inD_nats true k L
  have ol := ovL (ax := ax) (k := k) (src := nP 4) (ρ := bEnv rs ax first c L H x y (some (.int k)) w) H rfl hk (fun j hj => (B.hi j hj).1) (by omega) rfl rfl rfl (by simp [wipeE, bEnv])
  have sH : L.length < sizeLine := by omega
  have sF : ((H.filter (ovB rs ax k)).length = 0) ↔ ¬ ∃ j ∈ H, ovB rs ax k j = true := by
    rw [List.length_eq_zero_iff, List.filter_eq_nil_iff]
    constructor
    · rintro h ⟨j, h1, h2⟩; exact h j h1 h2
    · intro h j h1 h2; exact h ⟨j, h1, h2⟩
  unfold bEnv at ol ⊢
  by_cases h1 : (gR rs k).hi ax = c
  · by_cases h2 : k ∈ L
    · refine ⟨[], .inl rfl, fun _ _ _ => h2, ?_⟩
      simp -implicitDefEqProofs [bI2, ek, g0, h1, io, h2]
    · by_cases h3 : (H.filter (ovB rs ax k)).length = 0
      · refine ⟨[], .inl rfl, fun _ _ z => absurd z (sF.mp h3), ?_⟩
        simp -implicitDefEqProofs [bI2, ek, g0, h1, io, h2, ol, h3]
      · refine ⟨[k], .inr ⟨rfl, h2, h1⟩, (fun z => nomatch z), ?_⟩
        have h3' : 0 < (H.filter (ovB rs ax k)).length := by omega
        simp -implicitDefEqProofs [bI2, ek, g0, h1, io, h2, ol, h3', sH, nD_eq]
  · refine ⟨[], .inl rfl, fun _ z => absurd z h1, ?_⟩
    simp -implicitDefEqProofs [bI2, ek, g0, h1]
theorem BInv.addH {rs : List Rm} {ax : Bool} {c : Int} {L H : List Nat} (B : BInv rs ax c L H) {k : Nat} (hk : k < rs.length) (h1 : k ∉ H) (h2 : (gR rs k).lo ax = c) : BInv rs ax c L (H ++ [k]) where
  lo := B.lo
  hi := fun j hj => by
    rcases List.mem_append.mp hj with hj | hj
    · exact B.hi j hj
    · rw [List.mem_singleton.mp hj]; exact ⟨hk, h2⟩
  nL := B.nL
  nH := by
    refine List.nodup_append.mpr ⟨B.nH, by simp, fun a ha b hb z => ?_⟩
    rw [List.mem_singleton.mp hb] at z
    exact h1 (z ▸ ha)
theorem BInv.addL {rs : List Rm} {ax : Bool} {c : Int} {L H : List Nat} (B : BInv rs ax c L H) {k : Nat} (hk : k < rs.length) (h1 : k ∉ L) (h2 : (gR rs k).hi ax = c) : BInv rs ax c (L ++ [k]) H where
  hi := B.hi
  lo := fun j hj => by
    rcases List.mem_append.mp hj with hj | hj
    · exact B.lo j hj
    · rw [List.mem_singleton.mp hj]; exact ⟨hk, h2⟩
  nH := B.nH
  nL := by
    refine List.nodup_append.mpr ⟨B.nL, by simp, fun a ha b hb z => ?_⟩
    rw [List.mem_singleton.mp hb] at z
    exact h1 (z ▸ ha)
theorem nodup_bound : ∀ (n : Nat) (l : List Nat), l.Nodup → (∀ k ∈ l, k < n) → l.length ≤ n
  | 0, [], _, _ => Nat.le_refl _
  | 0, a :: l, _, h => absurd (h a List.mem_cons_self) (Nat.not_lt_zero _)
  | n + 1, l, nd, h => by
    have e : (l.erase n).length ≤ n := nodup_bound n (l.erase n) (nd.erase n) fun k hk => by
      have h1 := h k (List.mem_of_mem_erase hk)
      have h2 : k ≠ n := fun z => by
        subst z
        exact ((List.Nodup.mem_erase_iff nd).mp hk).1 rfl
      omega
    have := List.length_erase_of_mem (a := n) (l := l)
    by_cases hm : n ∈ l
    · have := List.length_erase_of_mem hm
      omega
    · rw [List.erase_of_not_mem hm] at e
      omega
theorem BInv.bound {rs : List Rm} {ax : Bool} {c : Int} {L H : List Nat} (B : BInv rs ax c L H) (ne : ∀ r ∈ rs, r.lo ax < r.hi ax) : L.length + H.length ≤ rs.length := by
  rw [← List.length_append]
  refine nodup_bound _ _ (List.nodup_append.mpr ⟨B.nL, B.nH, fun a ha b hb z => ?_⟩) fun k hk => ?_
  · subst z
    have h1 := B.lo a ha
    have h2 := B.hi a hb
    have h3 := ne (gR rs a) (by
      have e := List.getElem?_eq_getElem h1.1
      unfold gR
      rw [e]
      exact List.getElem_mem h1.1)
    omega
  · rcases List.mem_append.mp hk with hk | hk
    · exact (B.lo k hk).1
    · exact (B.hi k hk).1
structure Pass (rs : List Rm) (ax : Bool) (c : Int) (L H L' H' : List Nat) (m : Nat) : Prop where
  inv : BInv rs ax c L' H'
  pL : ∃ l, L' = L ++ l
  pH : ∃ l, H' = H ++ l
  cl : L'.length + H'.length = L.length + H.length → ∀ k < m, ((gR rs k).lo ax = c → (∃ j ∈ L, ovB rs ax k j = true) → k ∈ H) ∧ ((gR rs k).hi ax = c → (∃ j ∈ H, ovB rs ax k j = true) → k ∈ L)
theorem pass_step {rs : List Rm} {ax : Bool} {first k : Nat} {c : Int} {L H L1 H1 : List Nat} (ne : ∀ r ∈ rs, r.lo ax < r.hi ax) (hn : rs.length ≤ 20) (hk : k < rs.length) (Q : Pass rs ax c L H L1 H1 k) (x y w : Option D) :
    ∃ L2 H2, bBI (bEnv rs ax first c L1 H1 x y (some (.int k)) w) = .nx (bEnv rs ax first c L2 H2 x y (some (.int k)) w) ∧ Pass rs ax c L H L2 H2 (k + 1) := by
  have b1 := Q.inv.bound ne
  obtain ⟨h, a1, a2, a3⟩ := bI1_eq (first := first) Q.inv hn hk (by omega) (by omega) x y w
  have I1 : BInv rs ax c L1 (H1 ++ h) := by
    rcases a1 with rfl | ⟨rfl, z1, z2⟩
    · rw [List.append_nil]; exact Q.inv
    · exact Q.inv.addH hk z1 z2
  have b2 := I1.bound ne
  obtain ⟨l, d1, d2, d3⟩ := bI2_eq (first := first) I1 hn hk (by omega) (by omega) x y w
  have I2 : BInv rs ax c (L1 ++ l) (H1 ++ h) := by
    rcases d1 with rfl | ⟨rfl, z1, z2⟩
    · rw [List.append_nil]; exact I1
    · exact I1.addL hk z1 z2
  refine ⟨L1 ++ l, H1 ++ h, ?_, I2, ?_, ?_, fun e j hj => ?_⟩
  · rw [bBI_eq]
    unfold seqM
    rw [a3, st_nx, d3]
  · obtain ⟨l0, e⟩ := Q.pL
    exact ⟨l0 ++ l, by rw [e, List.append_assoc]⟩
  · obtain ⟨l0, e⟩ := Q.pH
    exact ⟨l0 ++ h, by rw [e, List.append_assoc]⟩
  · obtain ⟨l0, e1⟩ := Q.pL
    obtain ⟨h0, e2⟩ := Q.pH
    simp only [List.length_append, e1, e2] at e
    have l0e : l0 = [] := List.length_eq_zero_iff.mp (by omega)
    have h0e : h0 = [] := List.length_eq_zero_iff.mp (by omega)
    have le : l = [] := List.length_eq_zero_iff.mp (by omega)
    have he : h = [] := List.length_eq_zero_iff.mp (by omega)
    subst l0e; subst h0e
    rw [List.append_nil] at e1 e2
    subst e1; subst e2
    by_cases q : j = k
    · subst q
      refine ⟨a2 he, fun z1 z2 => ?_⟩
      rw [he, List.append_nil] at d2
      exact d2 le z1 z2
    · exact Q.cl rfl j (by omega)
end K31
end
end
section
set_option Elab.async false
set_option linter.all false
set_option maxRecDepth 100000
noncomputable section
namespace K31
open PySem L2 VL
def Closed (rs : List Rm) (ax : Bool) (c : Int) (L H : List Nat) : Prop := ∀ k < rs.length, ((gR rs k).lo ax = c → (∃ j ∈ L, ovB rs ax k j = true) → k ∈ H) ∧ ((gR rs k).hi ax = c → (∃ j ∈ H, ovB rs ax k j = true) → k ∈ L)
theorem pass_all {rs : List Rm} {ax : Bool} {first : Nat} {c : Int} {L H : List Nat} (ne : ∀ r ∈ rs, r.lo ax < r.hi ax) (hn : rs.length ≤ 20) (B : BInv rs ax c L H) (x y z w : Option D) :
    ∃ L' H' z', forL (nmG 8) bBI (rngD 0 rs.length) (bEnv rs ax first c L H x y z w) = .nx (bEnv rs ax first c L' H' x y z' w) ∧ Pass rs ax c L H L' H' rs.length := by
  have := loop_ex (gm := nmG 8) (m := bBI) (ds := rngD 0 rs.length) (ρ := bEnv rs ax first c L H x y z w) (fun i ρ => ∃ L1 H1 z1, ρ = bEnv rs ax first c L1 H1 x y z1 w ∧ Pass rs ax c L H L1 H1 i)
    ⟨L, H, z, rfl, B, ⟨[], by simp⟩, ⟨[], by simp⟩, fun _ k hk => absurd hk (Nat.not_lt_zero _)⟩ (fun j d ρ1 hd hp => by
      obtain ⟨hj, rfl⟩ := rngD_get hd
      obtain ⟨L1, H1, z1, rfl, Q⟩ := hp
      obtain ⟨L2, H2, e, Q2⟩ := pass_step (first := first) ne hn hj Q x y w
      refine ⟨_, rfl, _, ?_, L2, H2, some (.int j), rfl, Q2⟩
      rw [Int.zero_add]
      exact e)
  obtain ⟨ρ', e, L', H', z', rfl, Q⟩ := this
  rw [rngD_len] at Q
  exact ⟨L', H', z', e, Q⟩
theorem border_loop {rs : List Rm} {ax : Bool} {first : Nat} {c : Int} (ne : ∀ r ∈ rs, r.lo ax < r.hi ax) (hn : rs.length ≤ 20) : ∀ (ds : List D) (L H : List Nat) (x y z w : Option D), BInv rs ax c L H → first ∈ L → rs.length < L.length + H.length + ds.length →
    ∃ L' H' x' y' z' w', forL (nmG 6) bBO ds (bEnv rs ax first c L H x y z w) = .nx (bEnv rs ax first c L' H' x' y' z' w') ∧ BInv rs ax c L' H' ∧ first ∈ L' ∧ Closed rs ax c L' H'
  | [], L, H, x, y, z, w, B, hf, hl => by
    have := B.bound ne
    simp at hl
    omega
  | d :: ds, L, H, x, y, z, w, B, hf, hl => by
    have hi : inR (rs.length : Int) := inR_nat (by omega)
    obtain ⟨L1, H1, z1, e, Q⟩ := pass_all (first := first) ne hn B (some d) (some (.int ((L.length : Int) + H.length))) z w
    have hf1 : first ∈ L1 := by
      obtain ⟨l, rfl⟩ := Q.pL
      exact List.mem_append_left _ hf
    have step : bBO (bEnv rs ax first c L H (some d) y z w) = if (L1.length : Int) + H1.length = (L.length : Int) + H.length then .bk (bEnv rs ax first c L1 H1 (some d) (some (.int ((L.length : Int) + H.length))) z1 w) else .nx (bEnv rs ax first c L1 H1 (some d) (some (.int ((L.length : Int) + H.length))) z1 w) := by
      have e' : forL (nmG 8) bBI (rngD 0 rs.length) [some (.lst false (rs.map (rmL false))), some (.int (axI ax)), some (.int first), some (.lst true (L.map nD)), some (.lst true (H.map nD)), some (.int c), some d, some (.int ((L.length : Int) + H.length)), z, w] = .nx [some (.lst false (rs.map (rmL false))), some (.int (axI ax)), some (.int first), some (.lst true (L1.map nD)), some (.lst true (H1.map nD)), some (.int c), some d, some (.int ((L.length : Int) + H.length)), z1, w] := e
      unfold bBI at e'
      unfold bBO bEnv
      simp -implicitDefEqProofs [hi, e']
    have gs : nmG 6 d (bEnv rs ax first c L H x y z w) = some (bEnv rs ax first c L H (some d) y z w) := rfl
    rw [forL_cons, gs, flG_some, step]
    by_cases q : (L1.length : Int) + H1.length = (L.length : Int) + H.length
    · rw [if_pos q, flK_bk]
      have q' : L1.length + H1.length = L.length + H.length := by omega
      obtain ⟨l, e1⟩ := Q.pL
      obtain ⟨h, e2⟩ := Q.pH
      have le : l = [] := List.length_eq_zero_iff.mp (by rw [e1, e2] at q'; simp at q'; omega)
      have he : h = [] := List.length_eq_zero_iff.mp (by rw [e1, e2] at q'; simp at q'; omega)
      subst le; subst he
      rw [List.append_nil] at e1 e2
      have cl := Q.cl q'
      subst e1; subst e2
      exact ⟨_, _, _, _, _, _, rfl, Q.inv, hf1, cl⟩
    · rw [if_neg q, flK_nx]
      obtain ⟨l, e1⟩ := Q.pL
      obtain ⟨h, e2⟩ := Q.pH
      have : L.length + H.length < L1.length + H1.length := by
        have : L.length ≤ L1.length := by rw [e1]; simp
        have : H.length ≤ H1.length := by rw [e2]; simp
        omega
      exact border_loop ne hn ds L1 H1 _ _ _ _ Q.inv hf1 (by simp at hl; omega)
theorem border_eq {S : Bool → Int} {rs : List Rm} (C : Cov S rs) (hn : rs.length ≤ 20) (ax : Bool) {first : Nat} (hf : first < rs.length) :
    ∃ L H : List Nat, FRo (m__law_border [.lst false (rs.map (rmL false)), .int (axI ax), .int first]) (fun d _ => d = .lst true [.lst true (L.map nD), .lst true (H.map nD)]) ∧ BInv rs ax ((gR rs first).hi ax) L H ∧ first ∈ L ∧ Closed rs ax ((gR rs first).hi ax) L H := by
  have ne : ∀ r ∈ rs, r.lo ax < r.hi ax := fun r hr => (C.ok r hr ax).2.1
  have ef := gR_at hf
  have hi : inR (rs.length : Int) := inR_nat (by omega)
  have g0 : ixD (rmL false (gR rs first)) (.int (axI ax + 2)) = some (.int ((gR rs first).hi ax)) := by cases ax <;> simp [axI]
  obtain ⟨L, H, x, y, z, w, e, B, hF, cl⟩ := border_loop (first := first) (c := (gR rs first).hi ax) ne hn (rngD 0 rs.length) [first] [] none none none none ⟨(fun k hk => by rw [List.mem_singleton.mp hk]; exact ⟨hf, rfl⟩), (fun k hk => nomatch hk), by simp, by simp⟩ (List.mem_singleton.mpr rfl) (by rw [rngD_len]; simp)
  refine ⟨L, H, ?_, B, hF, cl⟩
  have eb : b__law_border = seqM (setM 3 (liftN (lstN (consP (nP 2) nilP)))) (seqM (setM 4 (liftN (lstN nilP))) (seqM (setM 5 (liftA [0] (opP ixD (opP ixD (nP 0) (nP 2)) (opP addX (nP 1) (cP (.int 2)))))) (seqM (forR itR1 (consE (liftN (callP lenD (consP (nP 0) nilP))) nilE) (nmG 6) bBO) (retM (lstE (consE (nM 3) (consE (nM 4) nilE))))))) := rfl
  have e' : forL (nmG 6) bBO (rngD 0 rs.length) [some (.lst false (rs.map (rmL false))), some (.int (axI ax)), some (.int first), some (.lst true [.int first]), some (.lst true []), some (.int ((gR rs first).hi ax)), none, none, none, none] = .nx (bEnv rs ax first ((gR rs first).hi ax) L H x y z w) := e
  have out : FRo (toF 3 [0, 1, 2] (b__law_border [some (.lst false (rs.map (rmL false))), some (.int (axI ax)), some (.int first), none, none, none, none, none, none, none])) (fun d _ => d = .lst true [.lst true (L.map nD), .lst true (H.map nD)]) := by
    rw [eb]
    simp -implicitDefEqProofs [ef, g0, hi, e', bEnv]
  simp -implicitDefEqProofs [m__law_border, out]
end K31
end
end
section
set_option Elab.async false
set_option linter.all false
set_option maxRecDepth 100000
noncomputable section
namespace K31
open PySem L2 VL
theorem intsD_map : ∀ ns : List Int, intsD (ns.map .int) = some ns
  | [] => rfl
  | n :: ns => by
    show (intsD (ns.map .int)).map (n :: ·) = _
    rw [intsD_map ns]; rfl
theorem foldl_max : ∀ (l : List Int) (a : Int), a ≤ l.foldl max a ∧ (∀ x ∈ l, x ≤ l.foldl max a) ∧ (l.foldl max a = a ∨ l.foldl max a ∈ l)
  | [], a => ⟨Int.le_refl _, (fun _ h => nomatch h), .inl rfl⟩
  | b :: l, a => by
    obtain ⟨h1, h2, h3⟩ := foldl_max l (max a b)
    refine ⟨by simp only [List.foldl_cons]; omega, fun x hx => ?_, ?_⟩
    · rcases List.mem_cons.mp hx with rfl | hx
      · simp only [List.foldl_cons]; omega
      · exact h2 x hx
    · simp only [List.foldl_cons]
      rcases h3 with h3 | h3
      · rw [h3]
        by_cases q : b ≤ a
        · left; omega
        · right; rw [show max a b = b by omega]; exact List.mem_cons_self
      · exact .inr (List.mem_cons_of_mem _ h3)
theorem foldl_min : ∀ (l : List Int) (a : Int), l.foldl min a ≤ a ∧ (∀ x ∈ l, l.foldl min a ≤ x) ∧ (l.foldl min a = a ∨ l.foldl min a ∈ l)
  | [], a => ⟨Int.le_refl _, (fun _ h => nomatch h), .inl rfl⟩
  | b :: l, a => by
    obtain ⟨h1, h2, h3⟩ := foldl_min l (min a b)
    refine ⟨by simp only [List.foldl_cons]; omega, fun x hx => ?_, ?_⟩
    · rcases List.mem_cons.mp hx with rfl | hx
      · simp only [List.foldl_cons]; omega
      · exact h2 x hx
    · simp only [List.foldl_cons]
      rcases h3 with h3 | h3
      · rw [h3]
        by_cases q : a ≤ b
        · left; omega
        · right; rw [show min a b = b by omega]; exact List.mem_cons_self
      · exact .inr (List.mem_cons_of_mem _ h3)
theorem maxLD_ints (o : Bool) (ns : List Int) (h : ns ≠ []) : ∃ v, maxLD [.lst o (ns.map .int)] = some (.int v) ∧ v ∈ ns ∧ ∀ x ∈ ns, x ≤ v := by
  have e : maxLD [.lst o (ns.map .int)] = ns.max?.map .int := by
    show (intsD (ns.map .int)).bind _ = _
    rw [intsD_map]; rfl
  rw [e]
  cases ns with
  | nil => exact absurd rfl h
  | cons a l =>
    obtain ⟨h1, h2, h3⟩ := foldl_max l a
    refine ⟨l.foldl max a, by rw [List.max?_cons']; rfl, ?_, fun x hx => ?_⟩
    · rcases h3 with h3 | h3
      · rw [h3]; exact List.mem_cons_self
      · exact List.mem_cons_of_mem _ h3
    · rcases List.mem_cons.mp hx with rfl | hx
      · exact h1
      · exact h2 x hx
theorem minLD_ints (o : Bool) (ns : List Int) (h : ns ≠ []) : ∃ v, minLD [.lst o (ns.map .int)] = some (.int v) ∧ v ∈ ns ∧ ∀ x ∈ ns, v ≤ x := by
  have e : minLD [.lst o (ns.map .int)] = ns.min?.map .int := by
    show (intsD (ns.map .int)).bind _ = _
    rw [intsD_map]; rfl
  rw [e]
  cases ns with
  | nil => exact absurd rfl h
  | cons a l =>
    obtain ⟨h1, h2, h3⟩ := foldl_min l a
    refine ⟨l.foldl min a, by rw [List.min?_cons']; rfl, ?_, fun x hx => ?_⟩
    · rcases h3 with h3 | h3
      · rw [h3]; exact List.mem_cons_self
      · exact List.mem_cons_of_mem _ h3
    · rcases List.mem_cons.mp hx with rfl | hx
      · exact h1
      · exact h2 x hx
theorem store_loop {m : SM} {E : List Rm → Option D → VL.Env} {f : Rm → Rm} (hf : ∀ r, f (f r) = f r) (hg : ∀ d rs' x, nmG 9 d (E rs' x) = some (E rs' (some d)))
    (hm : ∀ (rs' : List Rm) (k : Nat) (hk : k < rs'.length), m (E rs' (some (.int k))) = .nx (E (rs'.set k (f rs'[k])) (some (.int k)))) : ∀ (ks : List Nat) (rs : List Rm), (∀ k ∈ ks, k < rs.length) → ∀ x, ∃ rs' x', forL (nmG 9) m (ks.map nD) (E rs x) = .nx (E rs' x') ∧ rs'.length = rs.length ∧
      ∀ (k : Nat) (r : Rm), rs[k]? = some r → (k ∈ ks → rs'[k]? = some (f r)) ∧ (k ∉ ks → rs'[k]? = some r)
  | [], rs, _, x => ⟨rs, x, rfl, rfl, fun k r h => ⟨(fun z => nomatch z), fun _ => h⟩⟩
  | k0 :: ks, rs, h, x => by
    have h0 := h k0 List.mem_cons_self
    obtain ⟨rs', x', e, hl, hk⟩ := store_loop hf hg hm ks (rs.set k0 (f rs[k0])) (fun k hk => by rw [List.length_set]; exact h k (List.mem_cons_of_mem _ hk)) (some (.int k0))
    refine ⟨rs', x', ?_, by rw [hl, List.length_set], fun k r hr => ?_⟩
    · rw [List.map_cons, forL_cons, hg, flG_some, nD_eq, hm rs k0 h0, flK_nx, e]
    · by_cases q : k = k0
      · subst q
        have e1 : (rs.set k (f rs[k]))[k]? = some (f r) := by
          rw [List.getElem?_set_self h0]
          rw [List.getElem?_eq_getElem h0] at hr
          rw [Option.some.inj hr]
        have := hk k (f r) e1
        refine ⟨fun _ => ?_, fun z => absurd List.mem_cons_self z⟩
        by_cases q2 : k ∈ ks
        · rw [this.1 q2, hf]
        · exact this.2 q2
      · have e1 : (rs.set k0 (f rs[k0]))[k]? = some r := by rw [List.getElem?_set_ne (by omega)]; exact hr
        have := hk k r e1
        refine ⟨fun z => this.1 ((List.mem_cons.mp z).resolve_left q), fun z => this.2 fun z2 => z (List.mem_cons_of_mem _ z2)⟩
theorem gR_some {rs : List Rm} {k : Nat} {r : Rm} (h : rs[k]? = some r) : gR rs k = r := by
  unfold gR; rw [h]; rfl
theorem border_of {S : Bool → Int} {rs : List Rm} (C : Cov S rs) {ax : Bool} {c : Int} {L H : List Nat} (B : BInv rs ax c L H) (cl : Closed rs ax c L H) : Border rs ax c (· ∈ L) (· ∈ H) where
  lo := fun k hk => by
    have h := B.lo k hk
    have e := List.getElem?_eq_getElem h.1
    exact ⟨_, e, (congrArg (fun z : Rm => z.hi ax) (gR_some e)).symm.trans h.2⟩
  hi := fun k hk => by
    have h := B.hi k hk
    have e := List.getElem?_eq_getElem h.1
    exact ⟨_, e, (congrArg (fun z : Rm => z.lo ax) (gR_some e)).symm.trans h.2⟩
  cH := fun k r j s hk hr hj hs ov => by
    have hl := (List.getElem?_eq_some_iff.mp hk).1
    refine (cl k hl).1 (by rw [gR_some hk]; exact hr) ⟨j, hj, ?_⟩
    unfold ovB
    rw [gR_some hk, gR_some hs]
    exact decide_eq_true ⟨ov, (C.okI hs (!ax)).2.1, (C.okI hk (!ax)).2.1⟩
  cL := fun k r j s hk hr hj hs ov => by
    have hl := (List.getElem?_eq_some_iff.mp hk).1
    refine (cl k hl).2 (by rw [gR_some hk]; exact hr) ⟨j, hj, ?_⟩
    unfold ovB
    rw [gR_some hk, gR_some hs]
    exact decide_eq_true ⟨ov, (C.okI hs (!ax)).2.1, (C.okI hk (!ax)).2.1⟩
end K31
end
end
section
set_option Elab.async false
set_option linter.all false
set_option maxRecDepth 100000
noncomputable section
namespace K31
open PySem L2 VL
theorem gR_atL {rs : List Rm} {k : Nat} (h : k < rs.length) : atI (rs.map (rmL true)) (k : Int) = some (rmL true (gR rs k)) := by
  have e := List.getElem?_eq_getElem h
  rw [atI_map e]
  unfold gR
  rw [e]; rfl
theorem stHi (ax : Bool) (i : Nat) (p : List Nat) (r : Rm) (v : Int) (ρ : VL.Env) : stL (ixN 4 (axI ax + 2)) i p [.int (r.lo false), .int (r.lo true), .int (r.hi false), .int (r.hi true)] (.int v) ρ = .nx (ρ.putAt i p (rmL true (r.setHi ax v))) := by cases ax <;> rfl
theorem stLo (ax : Bool) (i : Nat) (p : List Nat) (r : Rm) (v : Int) (ρ : VL.Env) : stL (ixN 4 (axI ax)) i p [.int (r.lo false), .int (r.lo true), .int (r.hi false), .int (r.hi true)] (.int v) ρ = .nx (ρ.putAt i p (rmL true (r.setLo ax v))) := by cases ax <;> rfl
theorem setHi_idem (a : Bool) (v : Int) (r : Rm) : (r.setHi a v).setHi a v = r.setHi a v := Rm.ext' (fun _ => rfl) (fun b => by simp only [Rm.setHi]; split <;> rfl)
theorem setLo_idem (a : Bool) (v : Int) (r : Rm) : (r.setLo a v).setLo a v = r.setLo a v := Rm.ext' (fun b => by simp only [Rm.setLo]; split <;> rfl) (fun _ => rfl)
def sEnv (st : D) (S : Bool → Int) (ax : Bool) (first : Nat) (L H : List Nat) (low high fr : Int) (rs : List Rm) (x : Option D) : VL.Env := [some st, some (szD true S), some (.lst true (rs.map (rmL true))), some (.int (axI ax)), some (.int first), some (.lst false [.lst false (L.map nD), .lst false (H.map nD)]), some (.int low), some (.int high), some (.int fr), x]
theorem slide_eq {S : Bool → Int} {rs : List Rm} (C : Cov S rs) (hS : ∀ a, 1 ≤ S a ∧ S a < 2 ^ 30) (hn : rs.length ≤ 20) (h1 : 1 ≤ rs.length) (a c t : Int) :
    FRo (m__law_slide [stD a c t, szD true S, .lst true (rs.map (rmL true))]) fun d os => d = .non ∧ ∃ o rs', os = [o, some (szD true S), some (.lst true (rs'.map (rmL true)))] ∧ StO t o ∧ Cov S rs' ∧ rs'.length = rs.length := by
  obtain ⟨v, a1, c1, hv, w1⟩ := next_eq a c t 2 (by omega) (by omega)
  obtain ⟨first, a2, c2, hf, w2⟩ := next_eq a1 c1 t rs.length (by omega) (by omega)
  obtain ⟨ax, hax⟩ : ∃ ax : Bool, (v : Int) = axI ax := by
    rcases (show v = 0 ∨ v = 1 by omega) with rfl | rfl
    · exact ⟨false, rfl⟩
    · exact ⟨true, rfl⟩
  rw [hax] at w1
  have hf' : first < rs.length := by omega
  have ef := gR_atL hf'
  have gS : ixD (szD true S) (.int (axI ax)) = some (.int (S ax)) := by cases ax <;> simp [axI, szD]
  have gh : ∀ r, ixD (rmL true r) (.int (axI ax + 2)) = some (.int (r.hi ax)) := fun r => by cases ax <;> simp [axI]
  have gl : ∀ r, ixD (rmL true r) (.int (axI ax)) = some (.int (r.lo ax)) := fun r => by cases ax <;> simp [axI]
  by_cases hE : (gR rs first).hi ax = S ax
  · simp -implicitDefEqProofs [m__law_slide, b__law_slide, w1, w2, ef, gS, gh, hE, retN]
    exact ⟨_, rs, ⟨rfl, rfl⟩, ⟨_, _, rfl⟩, C, rfl⟩
  · obtain ⟨L, H, ⟨db, ob, ub, rfl⟩, B, hF, cl⟩ := border_eq C hn ax hf'
    have BB := border_of C B cl
    have ofi := C.okI (List.getElem?_eq_getElem hf') ax
    rw [← gR_some (List.getElem?_eq_getElem hf')] at ofi
    have hc : 0 < (gR rs first).hi ax ∧ (gR rs first).hi ax < S ax := by omega
    have Hne : H ≠ [] := by
      have ofi2 := C.okI (List.getElem?_eq_getElem hf') (!ax)
      obtain ⟨j, s, hj, _⟩ := (BB.over C hc (List.getElem?_eq_getElem hf') (v := rs[first].lo (!ax)) ⟨Int.le_refl _, ofi2.2.1⟩).1 hF
      exact List.ne_nil_of_mem hj
    have bnd := B.bound fun r hr => (C.ok r hr ax).2.1
    have kL := fun ρ hs => lcN_all (it := piL) (src := opP ixD (nP 5) (cP (.int 0))) (vs := [9]) (gm := nmG 9) (f := froP (opP ixD (opP ixD (nP 2) (nP 9)) (nP 3))) (ρ := ρ) nD (fun k => D.int ((gR rs k).lo ax)) L (d := .lst true (L.map nD)) hs rfl
    have kH := fun ρ hs => lcN_all (it := piL) (src := opP ixD (nP 5) (cP (.int 1))) (vs := [9]) (gm := nmG 9) (f := froP (opP ixD (opP ixD (nP 2) (nP 9)) (opP addX (nP 3) (cP (.int 2))))) (ρ := ρ) nD (fun k => D.int ((gR rs k).hi ax)) H (d := .lst true (H.map nD)) hs rfl
    have mL : L.map (fun k => D.int ((gR rs k).lo ax)) = (L.map fun k => (gR rs k).lo ax).map .int := by rw [List.map_map]; rfl
    have mH : H.map (fun k => D.int ((gR rs k).hi ax)) = (H.map fun k => (gR rs k).hi ax).map .int := by rw [List.map_map]; rfl
    obtain ⟨low, q1, q2, q3⟩ := maxLD_ints true (L.map fun k => (gR rs k).lo ax) (by simp; exact List.ne_nil_of_mem hF)
    obtain ⟨high, p1, p2, p3⟩ := minLD_ints true (H.map fun k => (gR rs k).hi ax) (by simp; exact Hne)
    rw [← mL] at q1
    rw [← mH] at p1
    have ln : 0 ≤ low := by
      obtain ⟨k, hk, rfl⟩ := List.mem_map.mp q2
      have e := List.getElem?_eq_getElem (B.lo k hk).1
      rw [gR_some e]
      exact (C.okI e ax).1
    have hh : high ≤ S ax := by
      obtain ⟨k, hk, rfl⟩ := List.mem_map.mp p2
      have e := List.getElem?_eq_getElem (B.hi k hk).1
      rw [gR_some e]
      exact (C.okI e ax).2.2
    have Sb := hS ax
    simp -implicitDefEqProofs [m__law_slide, b__law_slide, w1, w2, ef, gS, gh, hE, ub]
    rw [kL _ (by simp -implicitDefEqProofs []) (fun k hk => by simp -implicitDefEqProofs [wipeE, nD_eq, gR_atL (B.lo k hk).1, gl]) (by omega)]
    simp -implicitDefEqProofs [q1]
    rw [kH _ (by simp -implicitDefEqProofs []) (fun k hk => by simp -implicitDefEqProofs [wipeE, nD_eq, gR_atL (B.hi k hk).1, gh]) (by omega)]
    by_cases hw : 3 ≤ high - low
    · obtain ⟨v3, a3, c3, hv3, w3⟩ := next_eq a2 c2 t (high - low - 1) (by omega) (by omega)
      simp -implicitDefEqProofs [p1, hw, w3]
      obtain ⟨rs1, x1, l1, l2, l3⟩ := store_loop (m := stoM (ixL (nmL 2) (nP 9)) (opP addX (nP 3) (cP (.int 2))) (liftA [8] (nP 8))) (E := sEnv (stD a3 c3 t) S ax first L H low high (low + 1 + v3)) (f := Rm.setHi ax (low + 1 + v3)) (setHi_idem ax _) (fun _ _ _ => rfl) (fun rs' k hk => by
        have i1 := ixN_nat hk
        have i2 := List.getElem?_eq_getElem hk
        unfold sEnv
        simp -implicitDefEqProofs [i1, i2, stHi]) L rs (fun k hk => (B.lo k hk).1) none
      obtain ⟨rs2, x2, m1, m2, m3⟩ := store_loop (m := stoM (ixL (nmL 2) (nP 9)) (nP 3) (liftA [8] (nP 8))) (E := sEnv (stD a3 c3 t) S ax first L H low high (low + 1 + v3)) (f := Rm.setLo ax (low + 1 + v3)) (setLo_idem ax _) (fun _ _ _ => rfl) (fun rs' k hk => by
        have i1 := ixN_nat hk
        have i2 := List.getElem?_eq_getElem hk
        unfold sEnv
        simp -implicitDefEqProofs [i1, i2, stLo]) H rs1 (fun k hk => by rw [l2]; exact (B.hi k hk).1) x1
      unfold sEnv at l1 m1
      simp -implicitDefEqProofs [l1, m1]
      refine ⟨_, rs2, ⟨rfl, rfl⟩, ⟨_, _, rfl⟩, ?_, by rw [m2, l2]⟩
      refine slide_cov (rs' := rs2) (f := low + 1 + v3) C BB hc (fun k r hk hr => ?_) (fun k r hk hr => ?_) (by rw [m2, l2]) (fun k r hr => ?_)
      · have := q3 _ (List.mem_map.mpr ⟨k, hk, rfl⟩)
        rw [gR_some hr] at this
        omega
      · have := p3 _ (List.mem_map.mpr ⟨k, hk, rfl⟩)
        rw [gR_some hr] at this
        omega
      · have dj : k ∈ L → k ∉ H := fun z1 z2 => by
          have y1 := (B.lo k z1).2
          have y2 := (B.hi k z2).2
          rw [gR_some hr] at y1 y2
          have := C.okI hr ax
          omega
        refine ⟨fun hk => ?_, fun hk => ?_, fun z1 z2 => ?_⟩
        · exact (m3 k _ ((l3 k r hr).1 hk)).2 (dj hk)
        · exact (m3 k _ ((l3 k r hr).2 fun z => dj z hk)).1 hk
        · exact (m3 k _ ((l3 k r hr).2 z1)).2 z2
    · simp -implicitDefEqProofs [p1, hw]
      exact ⟨_, rs, ⟨rfl, rfl⟩, ⟨_, _, rfl⟩, C, rfl⟩
end K31
end
end
section
set_option Elab.async false
set_option linter.all false
set_option maxRecDepth 100000
noncomputable section
namespace K31
open PySem L2 VL
theorem listD_rmL (r : Rm) : listD [rmL true r] = some (rmL true r) := rfl
theorem seqOf_rmL (o : Bool) (r : Rm) : seqOf (rmL o r) = some [.int (r.lo false), .int (r.lo true), .int (r.hi false), .int (r.hi true)] := rfl
theorem floor_eq (a c t : Int) (m s : Nat) (hm : 1 ≤ m ∧ m ≤ 20) (hs : s ≤ 1000) :
    FRo (m__law_floor [stD a c t, .int m, .int s, .bl false]) fun d os => ∃ o r S rs, os = o :: r ∧ StO t o ∧ d = .lst true [szD true S, .lst true (rs.map rmD)] ∧ Cov S rs ∧ rs.length = m ∧ ∀ b, 1 ≤ S b ∧ S b ≤ 60 := by
  obtain ⟨v1, a1, c1, hv1, w1⟩ := next_eq a c t 3 (by omega) (by omega)
  obtain ⟨v2, a2, c2, hv2, w2⟩ := next_eq a1 c1 t 3 (by omega) (by omega)
  have hi1 : inR ((m : Int) - 1) := by rw [show (m : Int) - 1 = ((m - 1 : Nat) : Int) by omega]; exact inR_nat (by omega)
  have hi2 : inR (s : Int) := inR_nat hs
  have e1 : ((m : Int) - 1).toNat = m - 1 := by omega
  simp -implicitDefEqProofs [m__law_floor, b__law_floor, w1, w2, hi1, e1]
  refine loop_fr (fun i ρ => ∃ (a c : Int) (S : Bool → Int) (rs : List Rm) (x : Option D), ρ = [some (stD a c t), some (.int m), some (.int s), some (.bl false), some (szD true S), some (.lst true (rs.map (rmL true))), x, none, none] ∧ Cov S rs ∧ rs.length = i + 1 ∧ ∀ b, 1 ≤ S b ∧ S b ≤ 3 + 3 * i)
    ⟨a2, c2, fun b => if b then 1 + (v2 : Int) else 1 + (v1 : Int), [⟨fun _ => 0, fun b => if b then 1 + (v2 : Int) else 1 + (v1 : Int)⟩], none, rfl, ?_, rfl, ?_⟩ (fun j d ρ1 hd hp => ?_) (fun ρ' hp => ?_)
  · refine Cov.mk' (fun i r h => ?_) (fun i j r s p hi hj _ _ => ?_) (fun p hp => ⟨0, _, rfl, fun b => ?_⟩)
    · have hh : i = 0 := by
        by_cases q : i = 0
        · exact q
        · rw [List.getElem?_eq_none (by simp; omega)] at h; exact nomatch h
      subst hh
      obtain rfl := Option.some.inj h
      intro b
      refine ⟨Int.le_refl _, ?_, Int.le_refl _⟩
      show (0 : Int) < if b then 1 + (v2 : Int) else 1 + (v1 : Int)
      split <;> omega
    · have q : ∀ i (r : Rm), ([⟨fun _ => 0, fun b => if b then 1 + (v2 : Int) else 1 + (v1 : Int)⟩] : List Rm)[i]? = some r → i = 0 := fun i r h => by
        by_cases q : i = 0
        · exact q
        · rw [List.getElem?_eq_none (by simp; omega)] at h; exact nomatch h
      rw [q i r hi, q j s hj]
    · exact hp b
  · intro b
    simp only []
    split <;> omega
  · obtain ⟨hj, rfl⟩ := rngD_get hd
    obtain ⟨a, c, S, rs, x, rfl, C, hl, hS⟩ := hp
    obtain ⟨d2, o2, u2, rfl, o, S', rs', rfl, ⟨a', c', rfl⟩, C', hl', hS'⟩ := push_eq C (fun b => (hS b).1) (by omega) a c t
    simp -implicitDefEqProofs [u2]
    refine ⟨a', c', S', rs', ⟨rfl, rfl, rfl⟩, C', by omega, ?_⟩
    have := hS' false; have := hS' true; have := hS false; have := hS true
    omega
  · obtain ⟨a, c, S, rs, x, rfl, C, hl, hS⟩ := hp
    rw [rngD_len] at hl hS
    have hSb : ∀ b, 1 ≤ S b ∧ S b ≤ 60 := fun b => by have := hS b; omega
    have hSs : ∀ b, 1 ≤ S b ∧ S b < 2 ^ 30 := fun b => by have := hSb b; omega
    have hl2 : rs.length = m := by omega
    simp -implicitDefEqProofs [hi2]
    refine loop_fr (fun i ρ => ∃ (a c : Int) (rs : List Rm) (x y : Option D), ρ = [some (stD a c t), some (.int m), some (.int s), some (.bl false), some (szD true S), some (.lst true (rs.map (rmL true))), x, y, none] ∧ Cov S rs ∧ rs.length = m)
      ⟨a, c, rs, _, _, rfl, C, hl2⟩ (fun j d ρ1 hd hp => ?_) (fun ρ' hp => ?_)
    · obtain ⟨hj, rfl⟩ := rngD_get hd
      obtain ⟨a, c, rs, x, y, rfl, C, hl⟩ := hp
      obtain ⟨d2, o2, u2, rfl, o, rs', rfl, ⟨a', c', rfl⟩, C', hl'⟩ := slide_eq C hSs (by omega) (by omega) a c t
      have k := fun ρ hs => lcN_all (it := piL) (src := nP 5) (vs := [8]) (gm := nmG 8) (f := callP listD (consP (nP 8) nilP)) (ρ := ρ) (rmL true) (rmL true) rs (d := .lst true (rs.map (rmL true))) hs rfl
      simp -implicitDefEqProofs []
      rw [k _ rfl (fun r hr => by simp -implicitDefEqProofs [wipeE, seqOf_rmL]; rfl) (by omega)]
      simp -implicitDefEqProofs [u2]
      exact ⟨a', c', rs', ⟨rfl, rfl⟩, C', by omega⟩
    · obtain ⟨a, c, rs, x, y, rfl, C, hl⟩ := hp
      have k := fun ρ hs => lcN_all (it := piL) (src := nP 5) (vs := [8]) (gm := nmG 8) (f := froP (tupP (consP (opP ixD (nP 8) (cP (.int 0))) (consP (opP ixD (nP 8) (cP (.int 1))) (consP (opP ixD (nP 8) (cP (.int 2))) (consP (opP ixD (nP 8) (cP (.int 3))) nilP)))))) (ρ := ρ) (rmL true) rmD rs (d := .lst true (rs.map (rmL true))) hs rfl
      simp -implicitDefEqProofs []
      rw [k _ rfl (fun r hr => by simp -implicitDefEqProofs [wipeE, rmD]) (by omega)]
      simp -implicitDefEqProofs []
      exact ⟨⟨_, _, rfl⟩, S, rs, ⟨rfl, rfl⟩, C, hl, hSb false, hSb true⟩
end K31
end
end
section
set_option Elab.async false
set_option linter.all false
set_option maxRecDepth 100000
noncomputable section
namespace K31
open PySem L2 VL
theorem lcL_gen {vs : List Nat} {gm : GM} {f : EM} (P : Nat → List D → VL.Env → Prop) : ∀ (ds : List D) (i : Nat) (acc : List D) (ρ : VL.Env), P i acc ρ → (∀ j d acc ρ, ds[j]? = some d → P (i + j) acc ρ → ∃ ρ1 y ρ3, gm d ρ = some ρ1 ∧ f ρ1 = .ok y ρ3 ∧ acc.length < sizeLine ∧ P (i + j + 1) (acc ++ [y]) (wipeE vs ρ3)) → ∃ r, lcL vs gm yesM f ds acc ρ = some r ∧ P (i + ds.length) r.1 r.2
  | [], i, acc, ρ, h, _ => ⟨(acc, ρ), rfl, h⟩
  | d :: ds, i, acc, ρ, h, st => by
    obtain ⟨ρ1, y, ρ3, e1, e2, hl, h2⟩ := st 0 d acc ρ rfl h
    obtain ⟨r, e3, h3⟩ := lcL_gen P ds (i + 1) (acc ++ [y]) (wipeE vs ρ3) h2 fun j d' acc ρ1 hj hp => by
      have := st (j + 1) d' acc ρ1 hj (by rw [← Nat.add_assoc, Nat.add_right_comm]; exact hp)
      rw [← Nat.add_assoc, Nat.add_right_comm i j 1] at this
      exact this
    refine ⟨r, ?_, ?_⟩
    · rw [lcL, e1]
      simp only [yesM, if_true]
      rw [e2]
      simp only [hl, if_true]
      exact e3
    · rw [List.length_cons, ← Nat.add_assoc, Nat.add_right_comm]; exact h3
def lcS (ρ1 : VL.Env) (vs : List Nat) (o : Option (List D × VL.Env)) : R D := match o with
  | some x => .ok (.lst true x.1) (backE ρ1 vs x.2)
  | none => .bad
theorem lcR_some (vs : List Nat) (gm : GM) (c : TM) (f : EM) (ds : List D) (ρ1 : VL.Env) : lcR vs gm c f (some ds) ρ1 = lcS ρ1 vs (lcL vs gm c f ds [] (wipeE vs ρ1)) := by
  unfold lcS; rfl
@[simp] theorem lcS_some (ρ1 : VL.Env) (vs : List Nat) (x : List D × VL.Env) : lcS ρ1 vs (some x) = .ok (.lst true x.1) (backE ρ1 vs x.2) := rfl
theorem order_eq (a c t : Int) (n : Nat) (hn : n ≤ 20) : FRo (m__law_order [stD a c t, .int n]) fun d os => ∃ (o : Option D) (r : List (Option D)) (ks : List Nat), os = o :: r ∧ StO t o ∧ d = .lst true (ks.map nD) ∧ ks.Perm (List.range n) := by
  have hi : inR (n : Int) := inR_nat (by omega)
  have sz := sizeLine_ge
  obtain ⟨⟨ys, ρ'⟩, e, a', c', ps, rfl, hl, hps, rfl⟩ := lcL_gen (vs := [3]) (gm := nmG 3) (f := tupE (consE (callM m__law_next (consL 0 (consE (liftA [] (cP (.int 997))) nilE))) (consE (liftA [3] (nP 3)) nilE))) (fun i acc ρ => ∃ (a c : Int) (ps : List (Int × Int)), acc = ps.map pairD ∧ ps.length = i ∧ (ps.map Prod.snd = (List.range i).map fun k : Nat => (k : Int)) ∧ ρ = [some (stD a c t), some (.int n), none, none])
    (rngD 0 n) 0 [] [some (stD a c t), some (.int n), none, none] ⟨a, c, [], rfl, rfl, rfl, rfl⟩ (fun j d acc ρ hd hp => by
      obtain ⟨hj, rfl⟩ := rngD_get hd
      obtain ⟨a, c, ps, rfl, hl, hps, rfl⟩ := hp
      obtain ⟨v, a', c', hv, w⟩ := next_eq a c t 997 (by omega) (by omega)
      refine ⟨_, pairD ((v : Int), (j : Int)), [some (stD a' c' t), some (.int n), none, some (.int j)], rfl, ?_, by simp; omega, a', c', ps ++ [((v : Int), (j : Int))], by simp, by simp; omega, ?_, by rfl⟩
      · simp -implicitDefEqProofs [w, pairD]
      · rw [List.map_append, hps, show 0 + j + 1 = (0 + j) + 1 from rfl, List.range_succ, List.map_append]
        simp)
  rw [rngD_len, Nat.zero_add] at hl hps
  obtain ⟨⟨zs1, ρ2⟩, e2, rfl, rfl⟩ := lcL_gen (vs := [2]) (gm := nmG 2) (f := liftA [2] (opP ixD (nP 2) (cP (.int 1)))) (fun i acc ρ => acc = (((sortP ps).take i).map fun p => D.int p.2) ∧ ρ = [some (stD a' c' t), some (.int n), none, none])
    ((sortP ps).map pairD) 0 [] [some (stD a' c' t), some (.int n), none, none] ⟨rfl, rfl⟩ (fun j d acc ρ hd hp => by
      obtain ⟨rfl, rfl⟩ := hp
      rw [List.getElem?_map] at hd
      cases hj : (sortP ps)[j]? with
      | none => rw [hj] at hd; exact nomatch hd
      | some p =>
        rw [hj] at hd
        obtain rfl := Option.some.inj hd
        have hl2 : (sortP ps).length = n := by rw [(sortP_perm ps).length_eq, hl]
        refine ⟨_, .int p.2, [some (stD a' c' t), some (.int n), some (pairD p), none], rfl, ?_, by simp; omega, ?_, rfl⟩
        · simp -implicitDefEqProofs []
        · rw [List.take_succ, show 0 + j = j by omega, hj]; simp)
  rw [List.length_map, Nat.zero_add, List.take_length] at e2
  have hp2 : ((sortP ps).map Prod.snd).Perm ((List.range n).map fun k : Nat => (k : Int)) := by
    rw [← hps]
    exact (sortP_perm ps).map _
  have hks : ∃ ks : List Nat, (sortP ps).map Prod.snd = ks.map (fun k : Nat => (k : Int)) ∧ ks.Perm (List.range n) := by
    refine ⟨((sortP ps).map Prod.snd).map Int.toNat, ?_, ?_⟩
    · rw [List.map_map]
      have : ∀ x ∈ (sortP ps).map Prod.snd, ((x.toNat : Nat) : Int) = x := fun x hx => by
        obtain ⟨k, _, rfl⟩ := List.mem_map.mp (hp2.mem_iff.mp hx)
        simp
      conv => lhs; rw [← List.map_id ((sortP ps).map Prod.snd)]
      exact List.map_congr_left fun x hx => (this x hx).symm
    · have := hp2.map Int.toNat
      have e : ((List.range n).map fun k : Nat => (k : Int)).map Int.toNat = List.range n := by
        rw [List.map_map]
        conv => rhs; rw [← List.map_id (List.range n)]
        exact List.map_congr_left fun x _ => by simp
      rw [e] at this
      exact this
  obtain ⟨ks, k1, k2⟩ := hks
  have k3 : (sortP ps).map (fun p => D.int p.2) = ks.map nD := by
    have : (sortP ps).map (fun p => D.int p.2) = ((sortP ps).map Prod.snd).map .int := by rw [List.map_map]; rfl
    rw [this, k1, List.map_map]; rfl
  simp -implicitDefEqProofs [m__law_order, b__law_order, lcM, lcQ, hi, lcR_some, wipeE, e, sorted_pairs, e2, backE, k3]
  exact ⟨⟨_, _, rfl⟩, ks, rfl, k2⟩
end K31
end
end
section
set_option Elab.async false
set_option linter.all false
set_option maxRecDepth 100000
noncomputable section
namespace K31
open PySem L2 VL
def bTail : SM := (seqM (setM 6 (lcM itL (callM m__law_order (consL 0 (consE (liftN (callP lenD (consP (opP ixD (nP 3) (cP (.int 1))) nilP))) nilE))) [7] (nmG 7) yesM (liftA [3] (opP ixD (opP ixD (nP 3) (cP (.int 1))) (nP 7))))) (seqM (setM 9 (opE (ixE ixD) (liftN (lstN (consP (cP (.int 1)) (consP (cP (.int 2)) (consP (cP (.int 3)) (consP (opP powD (cP (.int 10)) (cP (.int 7))) nilP)))))) (callM m__law_next (consL 0 (consE (liftA [] (cP (.int 4))) nilE))))) (seqM (setM 10 (opE (ixE ixD) (liftN (lstN (consP (cP (.int 1)) (consP (cP (.int 2)) (consP (cP (.int 3)) (consP (opP powD (cP (.int 10)) (cP (.int 7))) nilP)))))) (callM m__law_next (consL 0 (consE (liftA [] (cP (.int 4))) nilE))))) (seqM (setM 6 (liftN (lcN piL (nP 6) [11] (nmG 11) yesP (froP (tupP (consP (opP mulD (opP ixD (nP 11) (cP (.int 0))) (nP 9)) (consP (opP mulD (opP ixD (nP 11) (cP (.int 1))) (nP 10)) (consP (opP mulD (opP ixD (nP 11) (cP (.int 2))) (nP 9)) (consP (opP mulD (opP ixD (nP 11) (cP (.int 3))) (nP 10)) nilP))))))))) (retM (lstE (consE (liftN (lstN (consP (opP mulD (opP ixD (opP ixD (nP 3) (cP (.int 0))) (cP (.int 0))) (nP 9)) (consP (opP mulD (opP ixD (opP ixD (nP 3) (cP (.int 0))) (cP (.int 1))) (nP 10)) nilP)))) (consE (nM 6) nilE))))))))
def bGrid : SM := (ifM (liftT (valT (opP eqD (nP 1) (cP (.int 5))))) (seqM (setM 4 (opE addX (liftA [] (cP (.int 1))) (callM m__law_next (consL 0 (consE (liftA [] (cP (.int 4))) nilE))))) (seqM (setM 5 (opE addX (liftA [] (cP (.int 1))) (callM m__law_next (consL 0 (consE (liftA [] (cP (.int 5))) nilE))))) (seqM (setM 6 (liftN (lstN nilP))) (seqM (forR itR1 (consE (liftN (opP mulD (nP 4) (nP 5))) nilE) (nmG 7) (seqM (setM 8 (liftN (opP modD (callP toIntD (consP (nP 7) nilP)) (nP 4)))) (exprM (mtdN moAppend 6 (consE (liftA [8] (tupP (consP (nP 8) (consP (opP fdivD (nP 7) (nP 4)) (consP (opP addX (nP 8) (cP (.int 1))) (consP (opP addX (opP fdivD (nP 7) (nP 4)) (cP (.int 1))) nilP)))))) nilE))))) (setM 3 (lstE (consE (liftN (lstN (consP (nP 4) (consP (nP 5) nilP)))) (consE (nM 6) nilE)))))))) nxM)
theorem drawn_parts : b__law_drawn = (seqM (setM 1 (callM m__law_next (consL 0 (consE (liftA [] (cP (.int 8))) nilE)))) (seqM (setM 2 (opE addX (liftA [] (cP (.int 1))) (callM m__law_next (consL 0 (consE (liftA [] (cP (.int 9))) nilE))))) (seqM (ifM (liftT (valT (opP gtD (nP 1) (cP (.int 5))))) (setM 2 (liftN (opP addX (cP (.int 13)) (nP 1)))) nxM) (seqM (setM 3 (callM m__law_floor (consL 0 (consE (liftA [2] (nP 2)) (consE (callM m__law_next (consL 0 (consE (liftA [] (cP (.int 10))) nilE))) (consE (liftA [] (cP (.bl false))) nilE)))))) (seqM bGrid bTail))))) := rfl
def scl (f : Bool → Int) (r : Rm) : Rm := ⟨fun a => r.lo a * f a, fun a => r.hi a * f a⟩
theorem Cov.scale {S : Bool → Int} {rs : List Rm} (C : Cov S rs) {f : Bool → Int} (hf : ∀ a, 1 ≤ f a) : Cov (fun a => S a * f a) (rs.map (scl f)) := by
  have con : ∀ (r : Rm) (p : Bool → Int), (scl f r).con p → r.con fun a => p a / f a := fun r p h a => by
    have := h a
    have := hf a
    exact ⟨(Int.le_ediv_iff_mul_le (by omega)).mpr (h a).1, (Int.ediv_lt_iff_lt_mul (by omega)).mpr (h a).2⟩
  refine Cov.mk' (fun i r h a => ?_) (fun i j r s p hi hj h1 h2 => ?_) (fun p hp => ?_)
  · rw [List.getElem?_map] at h
    obtain ⟨r0, e, rfl⟩ := Option.map_eq_some_iff.mp h
    have o := C.okI e a
    have := hf a
    refine ⟨Int.mul_nonneg o.1 (by omega), ?_, ?_⟩
    · exact Int.mul_lt_mul_of_pos_right o.2.1 (by omega)
    · exact Int.mul_le_mul_of_nonneg_right o.2.2 (by omega)
  · rw [List.getElem?_map] at hi hj
    obtain ⟨r0, e, rfl⟩ := Option.map_eq_some_iff.mp hi
    obtain ⟨s0, e', rfl⟩ := Option.map_eq_some_iff.mp hj
    exact C.un e e' (con r0 p h1) (con s0 p h2)
  · obtain ⟨i, r, e, c⟩ := C.cvI (p := fun a => p a / f a) fun a => by
      have := hf a
      have := hp a
      exact ⟨Int.ediv_nonneg (hp a).1 (by omega), (Int.ediv_lt_iff_lt_mul (by omega)).mpr (hp a).2⟩
    refine ⟨i, scl f r, by rw [List.getElem?_map, e]; rfl, fun a => ?_⟩
    have := hf a
    exact ⟨(Int.le_ediv_iff_mul_le (by omega)).mp (c a).1, (Int.ediv_lt_iff_lt_mul (by omega)).mp (c a).2⟩
theorem perm_rooms {rs : List Rm} {ks : List Nat} (h : ks.Perm (List.range rs.length)) : (ks.map (gR rs)).Perm rs := by
  have e : (List.range rs.length).map (gR rs) = rs := by
    apply List.ext_getElem
    · simp
    · intro i h1 h2
      simp only [List.getElem_map, List.getElem_range]
      exact gR_some (List.getElem?_eq_getElem h2)
  have := h.map (gR rs)
  rw [e] at this
  exact this
theorem pick_eq (v : Nat) (hv : (v : Int) < 4) : ∃ w : Int, 1 ≤ w ∧ w ≤ 10000000 ∧ atI [D.int 1, D.int 2, D.int 3, D.int 10000000] (v : Int) = some (.int w) := by
  rcases (show v = 0 ∨ v = 1 ∨ v = 2 ∨ v = 3 by omega) with rfl | rfl | rfl | rfl
  · exact ⟨1, by omega, by omega, rfl⟩
  · exact ⟨2, by omega, by omega, rfl⟩
  · exact ⟨3, by omega, by omega, rfl⟩
  · exact ⟨10000000, by omega, by omega, rfl⟩
@[simp] theorem giveA_v1 (d : D) (r : List (Option D)) (ρ : VL.Env) : giveA [.val d] r ρ = ρ := by cases r <;> rfl
@[simp] theorem giveA_v2 (d d' : D) (r : List (Option D)) (ρ : VL.Env) : giveA [.val d, .val d'] r ρ = ρ := by
  cases r with
  | nil => rfl
  | cons a r => cases r <;> rfl
@[simp] theorem giveA_v3 (d d' d2 : D) (r : List (Option D)) (ρ : VL.Env) : giveA [.val d, .val d', .val d2] r ρ = ρ := by
  cases r with
  | nil => rfl
  | cons a r => cases r with
    | nil => rfl
    | cons b r => cases r <;> rfl
def DrawnOk (d : D) : Prop := ∃ S rs, d = .lst true [szD true S, .lst true (rs.map rmD)] ∧ Cov S rs ∧ rs.length ≤ 20 ∧ Sm S
theorem tail_eq {S : Bool → Int} {rs : List Rm} (C : Cov S rs) (hn : rs.length ≤ 20) (hS : ∀ b, 1 ≤ S b ∧ S b ≤ 60) (a c t : Int) (x1 x2 x4 x5 x6 x7 x8 : Option D) (h7 : ∀ d, x7 = some d → d.fro = true) :
    FRo (toF 1 [0] (bTail [some (stD a c t), x1, x2, some (.lst true [szD true S, .lst true (rs.map rmD)]), x4, x5, x6, x7, x8, none, none, none])) fun d _ => DrawnOk d := by
  obtain ⟨d1, o1, u1, o, r, ks, rfl, ⟨a1, c1, rfl⟩, rfl, hk⟩ := order_eq a c t rs.length hn
  obtain ⟨v2, a2, c2, hv2, w2⟩ := next_eq a1 c1 t 4 (by omega) (by omega)
  obtain ⟨v3, a3, c3, hv3, w3⟩ := next_eq a2 c2 t 4 (by omega) (by omega)
  obtain ⟨wd, wd1, wd2, wd3⟩ := pick_eq v2 hv2
  obtain ⟨ht, ht1, ht2, ht3⟩ := pick_eq v3 hv3
  have kl : ks.length = rs.length := by rw [hk.length_eq]; simp
  have sz := sizeLine_ge
  obtain ⟨⟨ys, ρ2⟩, e2, rfl, rfl⟩ := lcL_gen (vs := [7]) (gm := nmG 7) (f := liftA [3] (opP ixD (opP ixD (nP 3) (cP (.int 1))) (nP 7))) (fun i acc ρ => acc = ((ks.take i).map fun k => rmD (gR rs k)) ∧ ρ = [some (stD a1 c1 t), x1, x2, some (.lst true [szD true S, .lst true (rs.map rmD)]), x4, x5, x6, none, x8, none, none, none])
    (ks.map nD) 0 [] [some (stD a1 c1 t), x1, x2, some (.lst true [szD true S, .lst true (rs.map rmD)]), x4, x5, x6, none, x8, none, none, none] ⟨rfl, rfl⟩ (fun j d acc ρ hd hp => by
      obtain ⟨rfl, rfl⟩ := hp
      rw [List.getElem?_map] at hd
      cases hj : ks[j]? with
      | none => rw [hj] at hd; exact nomatch hd
      | some k =>
        rw [hj] at hd
        obtain rfl := Option.some.inj hd
        have hkl : k < rs.length := by have := hk.mem_iff.mp (List.mem_of_getElem? hj); simpa using this
        have ek := List.getElem?_eq_getElem hkl
        have ea : atI (rs.map rmD) (k : Int) = some (rmD (gR rs k)) := by rw [atI_map ek, gR_some ek]
        refine ⟨_, rmD (gR rs k), [some (stD a1 c1 t), x1, x2, some (.lst true [szD true S, .lst true (rs.map rmD)]), x4, x5, x6, some (nD k), x8, none, none, none], rfl, ?_, by simp; omega, ?_, rfl⟩
        · simp -implicitDefEqProofs [nD_eq, ea]
        · rw [List.take_succ, show 0 + j = j by omega, hj]; simp)
  rw [List.length_map, Nat.zero_add, List.take_length] at e2
  have e3 : ks.map (fun k => rmD (gR rs k)) = (ks.map (gR rs)).map rmD := by rw [List.map_map]; rfl
  rw [e3] at e2
  have CP := perm_rooms hk
  have C2 := (C.perm CP).scale (f := fun b => if b then ht else wd) (by intro b; show 1 ≤ if b then ht else wd; split <;> omega)
  generalize hrs : ks.map (gR rs) = rs2 at *
  have cp : CPow 10 7 := ⟨by decide, by decide, by decide⟩
  have mw : ∀ x : Int, CMul x wd := fun x => .inr (by omega)
  have mh : ∀ x : Int, CMul x ht := fun x => .inr (by omega)
  have k := fun ρ hs => lcN_all (it := piL) (src := nP 6) (vs := [11]) (gm := nmG 11) (f := froP (tupP (consP (opP mulD (opP ixD (nP 11) (cP (.int 0))) (nP 9)) (consP (opP mulD (opP ixD (nP 11) (cP (.int 1))) (nP 10)) (consP (opP mulD (opP ixD (nP 11) (cP (.int 2))) (nP 9)) (consP (opP mulD (opP ixD (nP 11) (cP (.int 3))) (nP 10)) nilP)))))) (ρ := ρ) rmD (fun r => rmD (scl (fun b => if b then ht else wd) r)) rs2 (d := .lst true (rs2.map rmD)) hs rfl
  have l2 : rs2.length ≤ 20 := by rw [CP.length_eq]; exact hn
  have bk : backE [some (stD a1 c1 t), x1, x2, some (.lst true [szD true S, .lst true (rs.map rmD)]), x4, x5, x6, x7, x8, none, none, none] [7] [some (stD a1 c1 t), x1, x2, some (.lst true [szD true S, .lst true (rs.map rmD)]), x4, x5, x6, none, x8, none, none, none] = [some (stD a1 c1 t), x1, x2, some (.lst true [szD true S, .lst true (rs.map rmD)]), x4, x5, x6, x7, x8, none, none, none] := by
    cases x7 with
    | none => rfl
    | some d => simp [backE, h7 d rfl]
  have p7 : (10 : Int) ^ (7 : Int).toNat = 10000000 := by decide
  have g0 : ixD (szD true S) (.int 0) = some (.int (S false)) := by simp [szD]
  have g1 : ixD (szD true S) (.int 1) = some (.int (S true)) := by simp [szD]
  simp -implicitDefEqProofs [bTail, lcM, u1, lcR_some, wipeE, e2, bk, cp, w2, w3, wd3, ht3]
  rw [k _ (by simp -implicitDefEqProofs []) (fun r hr => by simp -implicitDefEqProofs [wipeE, mw, mh]; rfl) (by omega)]
  simp -implicitDefEqProofs [g0, g1, mw, mh]
  refine ⟨fun a => S a * if a then ht else wd, rs2.map (scl fun b => if b then ht else wd), by rw [List.map_map]; rfl, C2, by rw [List.length_map]; exact l2, fun b => ?_⟩
  have q : ∀ w : Int, 1 ≤ w → w ≤ 10000000 → 1 ≤ S b * w ∧ S b * w < 2 ^ 40 := fun w h1 h2 => by
    have := hS b
    have u1 : 0 < S b * w := Int.mul_pos (by omega) (by omega)
    have u2 : S b * w ≤ 60 * 10000000 := Int.mul_le_mul (hS b).2 h2 (by omega) (by omega)
    omega
  cases b
  · exact q wd wd1 wd2
  · exact q ht ht1 ht2
def cell (C k : Nat) : Rm := ⟨fun a => ((if a then k / C else k % C : Nat) : Int), fun a => ((if a then k / C else k % C : Nat) : Int) + 1⟩
theorem grid_cov {C L : Nat} (hC : 0 < C) : Cov (fun a => ((if a then L else C : Nat) : Int)) ((List.range (C * L)).map (cell C)) := by
  have look : ∀ (i : Nat) (r : Rm), ((List.range (C * L)).map (cell C))[i]? = some r → i < C * L ∧ r = cell C i := fun i r h => by
    by_cases q : i < C * L
    · rw [List.getElem?_map, List.getElem?_range q] at h
      exact ⟨q, (Option.some.inj h).symm⟩
    · rw [List.getElem?_eq_none (by simp; omega)] at h; exact nomatch h
  refine Cov.mk' (fun i r h => ?_) (fun i j r s p hi hj h1 h2 => ?_) (fun p hp => ?_)
  · obtain ⟨q, rfl⟩ := look i r h
    have d1 : i / C < L := Nat.div_lt_of_lt_mul q
    have d2 : i % C < C := Nat.mod_lt _ hC
    intro b
    cases b
    · refine ⟨Int.natCast_nonneg _, ?_, ?_⟩
      · show ((i % C : Nat) : Int) < ((i % C : Nat) : Int) + 1; omega
      · show ((i % C : Nat) : Int) + 1 ≤ (C : Int); omega
    · refine ⟨Int.natCast_nonneg _, ?_, ?_⟩
      · show ((i / C : Nat) : Int) < ((i / C : Nat) : Int) + 1; omega
      · show ((i / C : Nat) : Int) + 1 ≤ (L : Int); omega
  · obtain ⟨q1, rfl⟩ := look i r hi
    obtain ⟨q2, rfl⟩ := look j s hj
    have a0 : ((i % C : Nat) : Int) ≤ p false ∧ p false < ((i % C : Nat) : Int) + 1 := h1 false
    have a1 : ((i / C : Nat) : Int) ≤ p true ∧ p true < ((i / C : Nat) : Int) + 1 := h1 true
    have b0 : ((j % C : Nat) : Int) ≤ p false ∧ p false < ((j % C : Nat) : Int) + 1 := h2 false
    have b1 : ((j / C : Nat) : Int) ≤ p true ∧ p true < ((j / C : Nat) : Int) + 1 := h2 true
    have e1 : i % C = j % C := by omega
    have e2 : i / C = j / C := by omega
    rw [← Nat.div_add_mod i C, ← Nat.div_add_mod j C, e1, e2]
  · have h0 : 0 ≤ p false ∧ p false < (C : Int) := hp false
    have h1 : 0 ≤ p true ∧ p true < (L : Int) := hp true
    have lt : C * (p true).toNat + (p false).toNat < C * L := by
      have : C * ((p true).toNat + 1) ≤ C * L := Nat.mul_le_mul_left C (by omega)
      rw [Nat.mul_add] at this
      omega
    refine ⟨C * (p true).toNat + (p false).toNat, cell C (C * (p true).toNat + (p false).toNat), by rw [List.getElem?_map, List.getElem?_range lt]; rfl, fun b => ?_⟩
    have d1 : (C * (p true).toNat + (p false).toNat) / C = (p true).toNat := by
      rw [Nat.mul_add_div hC, Nat.div_eq_of_lt (by omega)]; rfl
    have d2 : (C * (p true).toNat + (p false).toNat) % C = (p false).toNat := by
      rw [Nat.mul_add_mod, Nat.mod_eq_of_lt (by omega)]
    cases b
    · show (((C * (p true).toNat + (p false).toNat) % C : Nat) : Int) ≤ p false ∧ p false < (((C * (p true).toNat + (p false).toNat) % C : Nat) : Int) + 1
      rw [d2]; omega
    · show (((C * (p true).toNat + (p false).toNat) / C : Nat) : Int) ≤ p true ∧ p true < (((C * (p true).toNat + (p false).toNat) / C : Nat) : Int) + 1
      rw [d1]; omega
end K31
end
end
section
set_option Elab.async false
set_option linter.all false
set_option maxRecDepth 100000
noncomputable section
namespace K31
open PySem L2 VL
theorem grid_no {k : Int} (h : ¬ k = 5) (x0 x2 x3 x4 x5 x6 x7 x8 x9 x10 x11 : Option D) : bGrid [x0, some (.int k), x2, x3, x4, x5, x6, x7, x8, x9, x10, x11] = .nx [x0, some (.int k), x2, x3, x4, x5, x6, x7, x8, x9, x10, x11] := by
  simp -implicitDefEqProofs [bGrid, h]
theorem grid_yes (a c t : Int) (x2 x3 : Option D) : NX (bGrid [some (stD a c t), some (.int 5), x2, x3, none, none, none, none, none, none, none, none]) fun ρ => ∃ (a c : Int) (S : Bool → Int) (rs : List Rm) (x4 x5 x6 x7 x8 : Option D),
    ρ = [some (stD a c t), some (.int 5), x2, some (.lst true [szD true S, .lst true (rs.map rmD)]), x4, x5, x6, x7, x8, none, none, none] ∧ Cov S rs ∧ rs.length ≤ 20 ∧ (∀ b, 1 ≤ S b ∧ S b ≤ 60) ∧ ∀ d, x7 = some d → d.fro = true := by
  obtain ⟨v1, a1, c1, hv1, w1⟩ := next_eq a c t 4 (by omega) (by omega)
  obtain ⟨v2, a2, c2, hv2, w2⟩ := next_eq a1 c1 t 5 (by omega) (by omega)
  have mC : CMul (1 + (v1 : Int)) (1 + (v2 : Int)) := .inl (by omega)
  have eN : (1 + (v1 : Int)) * (1 + (v2 : Int)) = (((1 + v1) * (1 + v2) : Nat) : Int) := by simp
  have b20 : (1 + v1) * (1 + v2) ≤ 20 := Nat.le_trans (Nat.mul_le_mul (show 1 + v1 ≤ 4 by omega) (show 1 + v2 ≤ 5 by omega)) (by omega)
  have hi : inR ((1 + (v1 : Int)) * (1 + (v2 : Int))) := by rw [eN]; exact inR_nat (by omega)
  have eT : ((1 + (v1 : Int)) * (1 + (v2 : Int))).toNat = (1 + v1) * (1 + v2) := by rw [eN, Int.toNat_natCast]
  have pos : 0 < 1 + (v1 : Int) := by omega
  have cd : ∀ x, CDivW x (1 + (v1 : Int)) := fun x => ⟨pos, by
    have e : (1 + (v1 : Int)).natAbs < 2 ^ 3 := by omega
    have : (1 + (v1 : Int)).natAbs.log2 < 3 := (Nat.log2_lt (by omega)).mpr e
    omega⟩
  have sz := sizeLine_ge
  simp -implicitDefEqProofs [bGrid, w1, w2, mC, hi, eT]
  refine loop_nx (fun i ρ => ∃ (x7 x8 : Option D), ρ = [some (stD a2 c2 t), some (.int 5), x2, x3, some (.int (1 + (v1 : Int))), some (.int (1 + (v2 : Int))), some (.lst true (((List.range i).map (cell (1 + v1))).map rmD)), x7, x8, none, none, none] ∧ ∀ d, x7 = some d → d.fro = true) ⟨none, none, rfl, fun _ h => nomatch h⟩ (fun j d ρ1 hd hp => ?_) (fun ρ' hp => ?_)
  · obtain ⟨hj, rfl⟩ := rngD_get hd
    obtain ⟨x7, x8, rfl, _⟩ := hp
    have e1 : (j : Int) % (1 + (v1 : Int)) = ((j % (1 + v1) : Nat) : Int) := by simp
    have e2 : (j : Int) / (1 + (v1 : Int)) = ((j / (1 + v1) : Nat) : Int) := by simp
    have hl : j < sizeLine := by omega
    simp -implicitDefEqProofs [pos, cd, hl, List.range_succ]
    exact ⟨_, ⟨by rw [e1, e2]; rfl, rfl⟩, fun d h => by cases h; rfl⟩
  · obtain ⟨x7, x8, rfl, h7⟩ := hp
    rw [rngD_len]
    simp -implicitDefEqProofs []
    refine ⟨a2, c2, fun b => ((if b then 1 + v2 else 1 + v1 : Nat) : Int), (List.range ((1 + v1) * (1 + v2))).map (cell (1 + v1)), _, _, _, _, ⟨rfl, ⟨?_, by rw [List.map_map]⟩, rfl, rfl, rfl, rfl⟩, grid_cov (by omega), by simp; exact b20, ?_, h7⟩
    · unfold szD
      simp
    · simp; omega
theorem drawn_eq (a c t : Int) : FRo (m__law_drawn [stD a c t]) fun d _ => DrawnOk d := by
  obtain ⟨v1, a1, c1, hv1, w1⟩ := next_eq a c t 8 (by omega) (by omega)
  obtain ⟨v2, a2, c2, hv2, w2⟩ := next_eq a1 c1 t 9 (by omega) (by omega)
  obtain ⟨v3, a3, c3, hv3, w3⟩ := next_eq a2 c2 t 10 (by omega) (by omega)
  by_cases h5 : (5 : Int) < v1
  · obtain ⟨d3, o3, u3, o, r, S, rs, rfl, ⟨a4, c4, rfl⟩, rfl, C, hl, hS⟩ := floor_eq a3 c3 t (13 + v1) v3 (by omega) (by omega)
    rw [show ((13 + v1 : Nat) : Int) = 13 + (v1 : Int) by simp] at u3
    have n5 : ¬ (v1 : Int) = 5 := by omega
    have tl := tail_eq C (by omega) hS a4 c4 t (some (.int (v1 : Int))) (some (.int (13 + (v1 : Int)))) none none none none none (fun _ h => nomatch h)
    have gn := grid_no n5 (some (stD a4 c4 t)) (some (.int (13 + (v1 : Int)))) (some (.lst true [szD true S, .lst true (rs.map rmD)])) none none none none none none none none
    simp -implicitDefEqProofs [m__law_drawn, drawn_parts, w1, w2, w3, h5, u3, gn, tl]
  · obtain ⟨d3, o3, u3, o, r, S, rs, rfl, ⟨a4, c4, rfl⟩, rfl, C, hl, hS⟩ := floor_eq a3 c3 t (1 + v2) v3 (by omega) (by omega)
    rw [show ((1 + v2 : Nat) : Int) = 1 + (v2 : Int) by simp] at u3
    by_cases n5 : (v1 : Int) = 5
    · rw [n5] at w1
      obtain ⟨ρ, gy, a5, c5, S', rs', x4, x5, x6, x7, x8, rfl, C', hl', hS', h7⟩ := grid_yes a4 c4 t (some (.int (1 + (v2 : Int)))) (some (.lst true [szD true S, .lst true (rs.map rmD)]))
      have tl := tail_eq C' hl' hS' a5 c5 t (some (.int 5)) (some (.int (1 + (v2 : Int)))) x4 x5 x6 x7 x8 h7
      simp -implicitDefEqProofs [m__law_drawn, drawn_parts, w1, w2, w3, u3, gy, tl]
    · have tl := tail_eq C (by omega) hS a4 c4 t (some (.int (v1 : Int))) (some (.int (1 + (v2 : Int)))) none none none none none (fun _ h => nomatch h)
      have gn := grid_no n5 (some (stD a4 c4 t)) (some (.int (1 + (v2 : Int)))) (some (.lst true [szD true S, .lst true (rs.map rmD)])) none none none none none none none none
      simp -implicitDefEqProofs [m__law_drawn, drawn_parts, w1, w2, w3, h5, u3, gn, tl]
end K31
end
end
section
set_option Elab.async false
set_option linter.all false
set_option maxRecDepth 100000
noncomputable section
namespace K31
open PySem L2 VL
@[simp] theorem giveA_ld (i : Nat) (as : List AV) (o : Option D) (os : List (Option D)) (ρ : VL.Env) : giveA (.ld i :: as) (o :: os) ρ = giveA as os (ρ.set i o) := rfl
theorem cutD_map (ns : List Int) (lo hi : Option Int) : ∃ ms : List Int, cutD (ns.map D.int) lo hi = ms.map .int := by
  unfold cutD
  rw [← List.map_drop, ← List.map_take]
  exact ⟨_, rfl⟩
theorem state_eq (ns : List Int) (k : Nat) (hk : k ≤ 1000) : FRo (m__law_state [.ext (ns.map .int), .int k]) fun d _ => ∃ a c t, d = stD a c t := by
  have m1 : ∀ x, CMul x 31 := fun x => .inr (by omega)
  have m2 : ∀ x, CMul 101 x := fun x => cmul_of (by omega)
  obtain ⟨ms, hms⟩ := cutD_map ns none (some 63)
  have fin : ∀ (x : Int) (x3 : Option D), FRo (toF 2 [0, 1] ((seqM (ifM (liftT (valT (opP geD (nP 2) (cP (.int 1000000000000000000))))) (retM (liftN (lstN (consP (nP 2) (consP (cP (.int 0)) (consP (cP (.int 1)) nilP)))))) nxM) (seqM (VL.forM itL (liftN (sliceN (nP 0) noB (atB (cP (.int 63))))) (nmG 3) (setM 2 (liftN (opP modD (callP toIntD (consP (opP addX (opP addX (opP mulD (nP 2) (cP (.int 31))) (callP absD (consP (callP toIntD (consP (nP 3) nilP)) nilP))) (nP 1)) nilP)) (cP (.int 999999999989)))))) (retM (liftN (lstN (consP (opP addX (nP 2) (opP mulD (cP (.int 101)) (nP 1))) (consP (cP (.int 0)) (consP (cP (.int 0)) nilP)))))))) [some (.ext (ns.map .int)), some (.int k), some (.int x), x3])) fun d _ => ∃ a c t, d = stD a c t := fun x x3 => by
    by_cases h : 1000000000000000000 ≤ x
    · simp -implicitDefEqProofs [h]
      exact ⟨_, _, _, rfl⟩
    · simp -implicitDefEqProofs [h, hms]
      refine loop_fr (fun i ρ => ∃ (y : Int) (x3 : Option D), ρ = [some (.ext (ns.map .int)), some (.int k), some (.int y), x3]) ⟨_, _, rfl⟩ (fun j d ρ1 hd hp => ?_) (fun ρ' hp => ?_)
      · obtain ⟨y, x3, rfl⟩ := hp
        rw [List.getElem?_map] at hd
        cases hj : ms[j]? with
        | none => rw [hj] at hd; exact nomatch hd
        | some m =>
          rw [hj] at hd
          obtain rfl := Option.some.inj hd
          simp -implicitDefEqProofs [m1]
      · obtain ⟨y, x3, rfl⟩ := hp
        simp -implicitDefEqProofs [m2]
        exact ⟨_, _, _, rfl⟩
  by_cases hl : (k : Int) < ns.length
  · have e1 : atI (ns.map D.int) (k : Int) = some (.int ns[k]) := atI_map (List.getElem?_eq_getElem (by omega))
    have := fin (if ns[k] < 0 then -ns[k] else ns[k]) none
    simp -implicitDefEqProofs [m__law_state, b__law_state, hl, e1] at this ⊢
    exact this
  · have := fin 0 none
    simp -implicitDefEqProofs [m__law_state, b__law_state, hl] at this ⊢
    exact this
end K31
end
end
section
set_option Elab.async false
set_option linter.all false
set_option maxRecDepth 100000
noncomputable section
namespace K31
open PySem L2 VL
@[simp] theorem fro_szT (S : Bool → Int) : (szD true S).fro = false := (rfl)
@[simp] theorem fro_szF (S : Bool → Int) : (szD false S).fro = true := (rfl)
@[simp] theorem frz_sz (o : Bool) (S : Bool → Int) : (szD o S).frz = szD false S := (rfl)
@[simp] theorem own_szT (S : Bool → Int) : (szD true S).own = true := (rfl)
@[simp] theorem ixz0 (o : Bool) (S : Bool → Int) : ixD (szD o S) (.int 0) = some (.int (S false)) := by simp [szD]
@[simp] theorem ixz1 (o : Bool) (S : Bool → Int) : ixD (szD o S) (.int 1) = some (.int (S true)) := by simp [szD]
@[simp] theorem own_stD (a c t : Int) : (stD a c t).own = true := (rfl)
def bPl : SM := (VL.forM itL (liftA [14] (nP 14)) (nmG 15) (seqM (ifM (liftT (notT (valT (callN m__law_split (consP (nP 6) (consP (nP 4) (consP (nP 5) (consP (nP 10) (consP (nP 11) (consP (nP 15) nilP)))))))))) (retM (liftA [] (cP (.bl false)))) nxM) (ifM (liftT (andT (valT (chainP ltD ltD (nP 12) (nP 15) (nP 13))) (andT (valT (opP ltD (callP lenD (consP (nP 5) nilP)) (cP (.int 20)))) (notT (valT (callN m__law_back (consP (nP 6) (consP (nP 4) (consP (nP 5) (consP (nP 10) (consP (nP 11) (consP (nP 15) nilP)))))))))))) (retM (liftA [] (cP (.bl false)))) nxM)))
theorem law_parts : b_law = (seqM (setM 1 (liftN (callN m__law_state (consP (nP 0) (consP (cP (.int 1)) nilP))))) (seqM (setM 2 (callM m__law_drawn (consE (liftN (callN m__law_state (consP (nP 0) (consP (cP (.int 0)) nilP)))) nilE))) (seqM (setM 3 (callM m__law_drawn (consE (liftN (callN m__law_state (consP (nP 0) (consP (cP (.int 2)) nilP)))) nilE))) (seqM (setM 4 (liftA [2] (opP ixD (nP 2) (cP (.int 0))))) (seqM (setM 5 (liftA [2] (opP ixD (nP 2) (cP (.int 1))))) (seqM (setM 6 (mkM "Floor" m_Floor___init__ (consE (liftA [4] (opP ixD (nP 4) (cP (.int 0)))) (consE (liftA [4] (opP ixD (nP 4) (cP (.int 1)))) (consE (liftN (callP listD (consP (nP 5) nilP))) nilE))))) (seqM (setM 7 (mkM "Floor" m_Floor___init__ (consE (liftA [3] (opP ixD (opP ixD (nP 3) (cP (.int 0))) (cP (.int 0)))) (consE (liftA [3] (opP ixD (opP ixD (nP 3) (cP (.int 0))) (cP (.int 1)))) (consE (liftN (callP listD (consP (opP ixD (nP 3) (cP (.int 1))) nilP))) nilE))))) (seqM (ifM (liftT (orT (notT (valT (callN m__law_is (consP (nP 6) (consP (nP 4) (consP (nP 5) nilP)))))) (orT (notT (valT (callN m__law_listed (consP (nP 6) (consP (nP 5) nilP))))) (notT (valT (callN m__law_listed (consP (nP 7) (consP (opP ixD (nP 3) (cP (.int 1))) nilP)))))))) (retM (liftA [] (cP (.bl false)))) nxM) (seqM (forR itR1 (consE (liftN (callP lenD (consP (nP 5) nilP))) nilE) (nmG 8) (forR itR1 (consE (liftN (callP lenD (consP (nP 5) nilP))) nilE) (nmG 9) (ifM (liftT (andT (valT (opP neD (nP 8) (nP 9))) (notT (valT (callN m__law_join (consP (nP 6) (consP (nP 4) (consP (nP 5) (consP (nP 8) (consP (nP 9) nilP)))))))))) (retM (liftA [] (cP (.bl false)))) nxM))) (seqM (setM 10 (callM m__law_next (consL 1 (consE (liftN (callP lenD (consP (nP 5) nilP))) nilE)))) (seqM (forR itR1 (consE (liftA [] (cP (.int 2))) nilE) (nmG 11) (seqM (setM 12 (liftA [5] (opP ixD (opP ixD (nP 5) (nP 10)) (nP 11)))) (seqM (setM 13 (liftA [5] (opP ixD (opP ixD (nP 5) (nP 10)) (opP addX (nP 11) (cP (.int 2)))))) (seqM (setM 14 (liftN (lstN (consP (opP subD (nP 12) (cP (.int 1))) (consP (nP 12) (consP (nP 13) (consP (opP addX (nP 13) (cP (.int 1))) (consP (opP subD (cP (.int 0)) (nP 13)) nilP)))))))) (seqM (ifM (liftT (valT (opP gtD (opP subD (nP 13) (nP 12)) (cP (.int 1))))) (setM 14 (opE addX (liftA [14] (nP 14)) (lstE (consE (liftN (opP addX (nP 12) (cP (.int 1)))) (consE (liftN (opP subD (nP 13) (cP (.int 1)))) (consE (opE addX (liftN (opP addX (nP 12) (cP (.int 1)))) (callM m__law_next (consL 1 (consE (liftN (opP subD (opP subD (nP 13) (nP 12)) (cP (.int 1)))) nilE)))) nilE)))))) nxM) bPl))))) (seqM (ifM (orM (notM (valM (callM m__law_apart (consL 1 (consE (liftA [7] (nP 7)) (consE (liftA [3] (opP ixD (nP 3) (cP (.int 0)))) (consE (liftA [3] (opP ixD (nP 3) (cP (.int 1)))) nilE))))))) (notM (valM (callM m__law_apart (consL 1 (consE (liftA [6] (nP 6)) (consE (liftA [4] (nP 4)) (consE (liftA [5] (nP 5)) nilE)))))))) (retM (liftA [] (cP (.bl false)))) nxM) (retM (liftA [] (andP (callN m__law_is (consP (nP 6) (consP (nP 4) (consP (nP 5) nilP)))) (andP (callN m__law_listed (consP (nP 6) (consP (nP 5) nilP))) (callN m__law_is (consP (nP 7) (consP (opP ixD (nP 3) (cP (.int 0))) (consP (opP ixD (nP 3) (cP (.int 1))) nilP)))))))))))))))))))) := rfl
theorem main_law (ns : List Int) (h : ns.length ≤ 63) : ∃ os, m_law [.ext (ns.map .int)] = .rt (.bl true) os := by
  obtain ⟨d0, o0, u0, a0, c0, t0, rfl⟩ := state_eq ns 0 (by omega)
  obtain ⟨d1, o1, u1, a1, c1, t1, rfl⟩ := state_eq ns 1 (by omega)
  obtain ⟨d2, o2, u2, a2, c2, t2, rfl⟩ := state_eq ns 2 (by omega)
  obtain ⟨d3, o3, u3, S, rs, rfl, C, hl, hS⟩ := drawn_eq a0 c0 t0
  obtain ⟨d4, o4, u4, S2, rs2, rfl, C2, hl2, hS2⟩ := drawn_eq a2 c2 t2
  have u0' : m__law_state [.ext (ns.map .int), .int 0] = .rt (stD a0 c0 t0) o0 := u0
  have u1' : m__law_state [.ext (ns.map .int), .int 1] = .rt (stD a1 c1 t1) o1 := u1
  have u2' : m__law_state [.ext (ns.map .int), .int 2] = .rt (stD a2 c2 t2) o2 := u2
  have F := C.fl hS hl
  have F2 := C2.fl hS2 hl2
  have mk1 := mkR_fl F
  have mk2 := mkR_fl F2
  obtain ⟨d5, o5, u5, rfl⟩ := is_eq (S := S) F.n.2
  obtain ⟨d6, o6, u6, rfl⟩ := is_eq (S := S2) F2.n.2
  obtain ⟨d7, o7, u7, rfl⟩ := listed_eq F
  obtain ⟨d8, o8, u8, rfl⟩ := listed_eq F2
  have hi : inR (rs.length : Int) := inR_nat (by omega)
  suffices FRo (m_law [.ext (ns.map .int)]) fun d _ => d = .bl true by
    obtain ⟨d, os, e, rfl⟩ := this
    exact ⟨os, e⟩
  simp -implicitDefEqProofs [m_law, law_parts, u0', u1', u2', u3, u4, mk1, mk2, u5, u6, u7, u8, hi]
  refine loop_fr (fun i ρ => ∃ x8 x9, ρ = [some (.ext (ns.map .int)), some (stD a1 c1 t1), some (.lst false [szD false S, .lst false (rs.map rmD)]), some (.lst true [szD true S2, .lst true (rs2.map rmD)]), some (szD false S), some (.lst false (rs.map rmD)), some (flD true S rs), some (flD true S2 rs2), x8, x9, none, none, none, none, none, none]) ⟨none, none, rfl⟩ (fun a d ρ1 hd hp => ?_) (fun ρ' hp => ?_)
  · obtain ⟨ha, rfl⟩ := rngD_get hd
    obtain ⟨x8, x9, rfl⟩ := hp
    simp -implicitDefEqProofs [hi]
    refine loop_nx0 (fun i ρ => ∃ x9, ρ = [some (.ext (ns.map .int)), some (stD a1 c1 t1), some (.lst false [szD false S, .lst false (rs.map rmD)]), some (.lst true [szD true S2, .lst true (rs2.map rmD)]), some (szD false S), some (.lst false (rs.map rmD)), some (flD true S rs), some (flD true S2 rs2), some (.int a), x9, none, none, none, none, none, none]) ⟨_, rfl⟩ (fun b d ρ1 hd hp => ?_) (fun ρ' hp => ?_)
    · obtain ⟨hb, rfl⟩ := rngD_get hd
      obtain ⟨x9, rfl⟩ := hp
      by_cases hab : a = b
      · subst hab
        simp -implicitDefEqProofs []
      · obtain ⟨d9, o9, u9, rfl⟩ := join_law F (List.getElem?_eq_getElem (show a < rs.length by omega)) (List.getElem?_eq_getElem (show b < rs.length by omega)) hab
        have hab' : ¬ (a : Int) = (b : Int) := by omega
        simp -implicitDefEqProofs [hab', u9]
    · obtain ⟨x9, rfl⟩ := hp
      exact ⟨_, _, rfl⟩
  · obtain ⟨x8, x9, rfl⟩ := hp
    have hn := F.n
    obtain ⟨k, a5, c5, hk, w5⟩ := next_eq a1 c1 t1 rs.length (by omega) (by omega)
    simp -implicitDefEqProofs [w5, inR2]
    refine loop_fr (fun i ρ => ∃ (a c : Int) (x11 x12 x13 x14 x15 : Option D), ρ = [some (.ext (ns.map .int)), some (stD a c t1), some (.lst false [szD false S, .lst false (rs.map rmD)]), some (.lst true [szD true S2, .lst true (rs2.map rmD)]), some (szD false S), some (.lst false (rs.map rmD)), some (flD true S rs), some (flD true S2 rs2), x8, x9, some (.int (k : Int)), x11, x12, x13, x14, x15]) ⟨_, _, _, _, _, _, _, rfl⟩ (fun v d ρ1 hd hp => ?_) (fun ρ' hp => ?_)
    · obtain ⟨hv, rfl⟩ := rngD_get hd
      obtain ⟨a, c, x11, x12, x13, x14, x15, rfl⟩ := hp
      obtain ⟨ax, hax⟩ : ∃ ax : Bool, (v : Int) = axI ax := by
        rcases (show v = 0 ∨ v = 1 by omega) with rfl | rfl
        · exact ⟨false, rfl⟩
        · exact ⟨true, rfl⟩
      rw [Int.zero_add, hax]
      have ek := List.getElem?_eq_getElem (show k < rs.length by omega)
      have ea : atI (rs.map rmD) (k : Int) = some (rmD rs[k]) := atI_map ek
      have g0 : ixD (rmD rs[k]) (.int (axI ax)) = some (.int (rs[k].lo ax)) := by cases ax <;> simp [axI]
      have g1 : ixD (rmD rs[k]) (.int (axI ax + 2)) = some (.int (rs[k].hi ax)) := by cases ax <;> simp [axI]
      have ok := F.okI ek ax
      have Sb := hS ax
      -- the places, and what is asked at each of them
      have body : ∀ (a c : Int) (ps : List Int) (x15 : Option D), NX (bPl
          [some (.ext (ns.map .int)), some (stD a c t1), some (.lst false [szD false S, .lst false (rs.map rmD)]), some (.lst true [szD true S2, .lst true (rs2.map rmD)]), some (szD false S), some (.lst false (rs.map rmD)), some (flD true S rs), some (flD true S2 rs2), x8, x9, some (.int (k : Int)), some (.int (axI ax)), some (.int (rs[k].lo ax)), some (.int (rs[k].hi ax)), some (.lst true (ps.map .int)), x15])
          fun ρ => ∃ (a c : Int) (x11 x12 x13 x14 x15 : Option D), ρ = [some (.ext (ns.map .int)), some (stD a c t1), some (.lst false [szD false S, .lst false (rs.map rmD)]), some (.lst true [szD true S2, .lst true (rs2.map rmD)]), some (szD false S), some (.lst false (rs.map rmD)), some (flD true S rs), some (flD true S2 rs2), x8, x9, some (.int (k : Int)), x11, x12, x13, x14, x15] := fun a c ps x15 => by
        unfold bPl
        simp -implicitDefEqProofs []
        refine loop_nx0 (fun i ρ => ∃ x15, ρ = [some (.ext (ns.map .int)), some (stD a c t1), some (.lst false [szD false S, .lst false (rs.map rmD)]), some (.lst true [szD true S2, .lst true (rs2.map rmD)]), some (szD false S), some (.lst false (rs.map rmD)), some (flD true S rs), some (flD true S2 rs2), x8, x9, some (.int (k : Int)), some (.int (axI ax)), some (.int (rs[k].lo ax)), some (.int (rs[k].hi ax)), some (.lst false (ps.map .int)), x15]) ⟨_, rfl⟩ (fun j d ρ1 hd hp => ?_) (fun ρ' hp => ?_)
        · obtain ⟨x15, rfl⟩ := hp
          obtain ⟨p, _, rfl⟩ := List.mem_map.mp (List.mem_of_getElem? hd)
          obtain ⟨d9, o9, u9, rfl⟩ := split_law F ek ax p
          by_cases hp : rs[k].lo ax < p ∧ p < rs[k].hi ax
          · by_cases h20 : rs.length < 20
            · obtain ⟨d10, o10, u10, rfl⟩ := back_law F ek ax p hp h20
              simp -implicitDefEqProofs [u9, u10]
            · have h20' : ¬ (rs.length : Int) < 20 := by omega
              simp -implicitDefEqProofs [u9, h20']
          · simp -implicitDefEqProofs [u9]
            rw [if_neg hp]
            simp -implicitDefEqProofs []
        · obtain ⟨x15, rfl⟩ := hp
          exact ⟨_, _, _, _, _, _, _, rfl⟩
      by_cases hw : 1 < rs[k].hi ax - rs[k].lo ax
      · obtain ⟨v3, a6, c6, hv3, w6⟩ := next_eq a c t1 (rs[k].hi ax - rs[k].lo ax - 1) (by omega) (by omega)
        have b1 := body a6 c6 [rs[k].lo ax - 1, rs[k].lo ax, rs[k].hi ax, rs[k].hi ax + 1, -rs[k].hi ax, rs[k].lo ax + 1, rs[k].hi ax - 1, rs[k].lo ax + 1 + v3] x15
        simp only [List.map_cons, List.map_nil] at b1
        simp -implicitDefEqProofs [ea, g0, g1, hw, w6, b1]
      · have b1 := body a c [rs[k].lo ax - 1, rs[k].lo ax, rs[k].hi ax, rs[k].hi ax + 1, -rs[k].hi ax] x15
        simp only [List.map_cons, List.map_nil] at b1
        simp -implicitDefEqProofs [ea, g0, g1, hw, b1]
    · obtain ⟨a, c, x11, x12, x13, x14, x15, rfl⟩ := hp
      obtain ⟨d9, o9, u9, rfl, o, r, rfl, a6, c6, rfl⟩ := apart_law F2 a c t1
      obtain ⟨d10, o10, u10, rfl, o', r', rfl, a7, c7, rfl⟩ := apart_law F a6 c6 t1
      simp -implicitDefEqProofs [u9, u10, u5, u6, u7]
end K31
end
end
section
set_option Elab.async false
set_option linter.all false
set_option maxRecDepth 100000
set_option maxHeartbeats 4000001
namespace K31
open PySem L2 VL PySem.OwnErr
def spLaw (K : PySem.W.Frag) : Sp := fun vs H Q _ => ∃ (a : Addr) (ns : List Int), vs = [.ref a] ∧ ns.length ≤ 63 ∧ Only H ∧ SqL K H a (ns.map V.int) ∧ ∀ H', Q (.bl true) H'
theorem reps_ints (L : Ly) (F : AP) (H : Hp) : ∀ ns : List Int, Reps L F H (ns.map .int) (ns.map V.int) f0
  | [] => ⟨rfl, rfl⟩
  | n :: r => ⟨.int n, r.map V.int, f0, f0, rfl, rfl, ⟨rfl, rfl⟩, reps_ints L F H r⟩
theorem sp_law {K : PySem.W.Frag} {D : Defs} (vs : List V) (H : Hp) (Q : VK) (E : XK) (h : spLaw K vs H Q E) : spM (LY K D) m_law vs H Q E := by
  obtain ⟨a, ns, rfl, hl, hO, sq, q⟩ := h
  obtain ⟨os, e⟩ := main_law ns hl
  refine ⟨fun _ => False, fun _ => False, [.ext (ns.map .int)], f0, ⟨.ref a, [], f0, f0, rfl, rfl, ⟨a, ns.map V.int, rfl, ?_, reps_ints _ _ _ ns⟩, rfl, rfl⟩, ⟨fun a => Nat.zero_le _, fun a x => absurd x f0_not, fun a x => x.elim, fun a x => x.elim⟩, ?_⟩
  · rcases sq with (sq | ⟨o, sq⟩) | sq
    · rcases hO a with z | ⟨o, xs, z⟩
      · rw [z] at sq; exact nomatch sq
      · rw [z] at sq; exact nomatch sq
    · exact .inl ⟨o, sq⟩
    · exact .inr fun H' => .inr sq
  · rw [e]
    intro F' H' v k g ho hr hg hst
    rw [hr.1]
    exact q H'
theorem fn_law {K : PySem.W.Frag} {w : World} {mg : Str → Option Value} {base : Heap} {D : Defs} (T : Txt PySem.Challenge.pw_roomsfit_k31_split_and_join K mg D) : FnOk PySem.Challenge.pw_roomsfit_k31_split_and_join w K mg base (L2.CX PySem.Challenge.pw_roomsfit_k31_split_and_join w) 9 D.f_law D.d_law ["script"] (spLaw K) := (ok_law T).imp sp_law
end K31
open PySem PySem.W PyProof.Rows
set_option maxHeartbeats 0 in
theorem PySem.Challenge.cw_roomsfit_k31_split_and_join_holds : PySem.Challenge.rw_roomsfit_k31_split_and_join.Holds := by
  w_on; o_law; k_head; (case hw => w_witness2)
  k_fill
  refine L2.walk_of (l := PySem.Challenge.rw_roomsfit_k31_split_and_join) (n := 63) (k := 9) (x := "script") (CX := fun w => L2.CX PySem.Challenge.pw_roomsfit_k31_split_and_join w) (sp := fun w => K31.spLaw _) rfl (by decide) rfl ⟨rfl, by decide, by decide⟩ (fun w h Y => PySem.W.kIn_of Y) ?F (fun _ _ a ns hl hO hS => ⟨a, ns, rfl, hl, hO, hS, fun _ => rfl⟩) (fun w H s e s' c => by obtain ⟨_, _, _, _, _, _, _, _, _, _, _, _, z⟩ := c; exact z)
  case F =>
    intro w mg fa h KX G hmg

    refine' Exists.elim (K31.txt_mk KX G ?gc_FitError ?gc_BadCount ?gc_BadFloor ?gc_BadPlace ?gc_NotJoined ?gc_Floor ?gk_MOST_ROOMS_tools ?gk_MOST_ROOMS_floors ?g_overlap ?g_union_of ?g__law_int ?g__law_state ?g__law_next ?g__law_over ?g__law_union ?g__law_parts ?g_check_rooms ?g_room_fault ?g__law_ints ?g__law_push ?g__law_border ?g__law_order ?g__law_unions ?g__law_together ?g_floor_fault ?g__law_slide ?g__law_floor ?g_joinable ?g__law_drawn ?g__law_is ?g_split_room ?g_join_rooms ?g__law_listed ?g__law_join ?g__law_split ?g__law_back ?g__law_apart ?g_law ?g_Floor___len__ ?g_Floor___iter__ ?g_Floor___eq__ ?g_Floor_room ?g_Floor___init__ ?l_overlap ?c_overlap ?k_overlap ?l_Floor___len__ ?c_Floor___len__ ?k_Floor___len__ ?l_Floor___iter__ ?c_Floor___iter__ ?k_Floor___iter__ ?l_Floor___eq__ ?c_Floor___eq__ ?k_Floor___eq__ ?l_Floor_room ?c_Floor_room ?k_Floor_room ?l_union_of ?c_union_of ?k_union_of ?l__law_int ?c__law_int ?k__law_int ?l__law_state ?c__law_state ?k__law_state ?l__law_next ?c__law_next ?k__law_next ?l__law_over ?c__law_over ?k__law_over ?l__law_union ?c__law_union ?k__law_union ?l__law_parts ?c__law_parts ?k__law_parts ?l_check_rooms ?c_check_rooms ?k_check_rooms ?l_room_fault ?c_room_fault ?k_room_fault ?l__law_ints ?c__law_ints ?k__law_ints ?l__law_push ?c__law_push ?k__law_push ?l__law_border ?c__law_border ?k__law_border ?l__law_order ?c__law_order ?k__law_order ?l__law_unions ?c__law_unions ?k__law_unions ?l__law_together ?c__law_together ?k__law_together ?l_floor_fault ?c_floor_fault ?k_floor_fault ?l__law_slide ?c__law_slide ?k__law_slide ?l_Floor___init__ ?c_Floor___init__ ?k_Floor___init__ ?l__law_floor ?c__law_floor ?k__law_floor ?l_joinable ?c_joinable ?k_joinable ?l__law_drawn ?c__law_drawn ?k__law_drawn ?l__law_is ?c__law_is ?k__law_is ?l_split_room ?c_split_room ?k_split_room ?l_join_rooms ?c_join_rooms ?k_join_rooms ?l__law_listed ?c__law_listed ?k__law_listed ?l__law_join ?c__law_join ?k__law_join ?l__law_split ?c__law_split ?k__law_split ?l__law_back ?c__law_back ?k__law_back ?l__law_apart ?c__law_apart ?k__law_apart ?l_law ?c_law ?k_law ?i_Floor___len__ ?i_Floor___iter__ ?i_Floor___eq__ ?i_Floor_room ?i_Floor___init__ ?n_len ?n_abs ?n_int ?n_max ?n_min ?n_sorted ?n_list ?n_tuple ?n_isinstance ?n_range ?n_enumerate ?n_bool ?n_iter ?n_ValueError ?n_super ?pgO ?hdO ?poO ?saO ?mkO ?kpO ?haO ?hmO ?hn ?htk ?noO ?na__rooms ?na_height ?na_width ?xL_BadCount ?xb_BadCount ?xsa_BadCount ?xga_BadCount ?xgg_BadCount ?xn_BadCount ?xi_BadCount ?xt_BadCount ?xk_BadCount ?xe_BadCount ?xv_BadCount ?xm_BadCount ?xy_BadCount ?xh_BadCount ?xs_BadCount ?xa_BadCount ?xo_BadCount ?xl_BadCount ?xc_BadCount ?xd_BadCount ?xf_BadCount ?xp_BadCount ?xcc_BadCount ?xL_BadFloor ?xb_BadFloor ?xsa_BadFloor ?xga_BadFloor ?xgg_BadFloor ?xn_BadFloor ?xi_BadFloor ?xt_BadFloor ?xk_BadFloor ?xe_BadFloor ?xv_BadFloor ?xm_BadFloor ?xy_BadFloor ?xh_BadFloor ?xs_BadFloor ?xa_BadFloor ?xo_BadFloor ?xl_BadFloor ?xc_BadFloor ?xd_BadFloor ?xf_BadFloor ?xp_BadFloor ?xcc_BadFloor ?xL_BadPlace ?xb_BadPlace ?xsa_BadPlace ?xga_BadPlace ?xgg_BadPlace ?xn_BadPlace ?xi_BadPlace ?xt_BadPlace ?xk_BadPlace ?xe_BadPlace ?xv_BadPlace ?xm_BadPlace ?xy_BadPlace ?xh_BadPlace ?xs_BadPlace ?xa_BadPlace ?xo_BadPlace ?xl_BadPlace ?xc_BadPlace ?xd_BadPlace ?xf_BadPlace ?xp_BadPlace ?xcc_BadPlace ?xL_NotJoined ?xb_NotJoined ?xsa_NotJoined ?xga_NotJoined ?xgg_NotJoined ?xn_NotJoined ?xi_NotJoined ?xt_NotJoined ?xk_NotJoined ?xe_NotJoined ?xv_NotJoined ?xm_NotJoined ?xy_NotJoined ?xh_NotJoined ?xs_NotJoined ?xa_NotJoined ?xo_NotJoined ?xl_NotJoined ?xc_NotJoined ?xd_NotJoined ?xf_NotJoined ?xp_NotJoined ?xcc_NotJoined ?hdFE ?tyFE ?tX0 ?tN0 ?tX1 ?tN1 ?tX2 ?tN2 ?tX3 ?tX4 ?tN4 ?tX5 ?tN5 ?tX6 ?tN6 ?tX8 ?tN8 ?tX9 ?tN9 ?tX10 ?tE0 ?tE1 ?tE2 ?tE3) ?fin
    (case gc_FitError => k_is)
    (case gc_BadCount => k_is)
    (case gc_BadFloor => k_is)
    (case gc_BadPlace => k_is)
    (case gc_NotJoined => k_is)
    (case gc_Floor => k_is)
    (case gk_MOST_ROOMS_tools => k_is)
    (case gk_MOST_ROOMS_floors => k_is)
    (case g_overlap => k_is)
    (case g_union_of => k_is)
    (case g__law_int => k_is)
    (case g__law_state => k_is)
    (case g__law_next => k_is)
    (case g__law_over => k_is)
    (case g__law_union => k_is)
    (case g__law_parts => k_is)
    (case g_check_rooms => k_is)
    (case g_room_fault => k_is)
    (case g__law_ints => k_is)
    (case g__law_push => k_is)
    (case g__law_border => k_is)
    (case g__law_order => k_is)
    (case g__law_unions => k_is)
    (case g__law_together => k_is)
    (case g_floor_fault => k_is)
    (case g__law_slide => k_is)
    (case g__law_floor => k_is)
    (case g_joinable => k_is)
    (case g__law_drawn => k_is)
    (case g__law_is => k_is)
    (case g_split_room => k_is)
    (case g_join_rooms => k_is)
    (case g__law_listed => k_is)
    (case g__law_join => k_is)
    (case g__law_split => k_is)
    (case g__law_back => k_is)
    (case g__law_apart => k_is)
    (case g_law => k_is)
    (case g_Floor___len__ => k_is)
    (case g_Floor___iter__ => k_is)
    (case g_Floor___eq__ => k_is)
    (case g_Floor_room => k_is)
    (case g_Floor___init__ => k_is)
    (case l_overlap => k_is)
    (case c_overlap => k_is)
    (case k_overlap => k_is)
    (case l_Floor___len__ => k_is)
    (case c_Floor___len__ => k_is)
    (case k_Floor___len__ => k_is)
    (case l_Floor___iter__ => k_is)
    (case c_Floor___iter__ => k_is)
    (case k_Floor___iter__ => k_is)
    (case l_Floor___eq__ => k_is)
    (case c_Floor___eq__ => k_is)
    (case k_Floor___eq__ => k_is)
    (case l_Floor_room => k_is)
    (case c_Floor_room => k_is)
    (case k_Floor_room => k_is)
    (case l_union_of => k_is)
    (case c_union_of => k_is)
    (case k_union_of => k_is)
    (case l__law_int => k_is)
    (case c__law_int => k_is)
    (case k__law_int => k_is)
    (case l__law_state => k_is)
    (case c__law_state => k_is)
    (case k__law_state => k_is)
    (case l__law_next => k_is)
    (case c__law_next => k_is)
    (case k__law_next => k_is)
    (case l__law_over => k_is)
    (case c__law_over => k_is)
    (case k__law_over => k_is)
    (case l__law_union => k_is)
    (case c__law_union => k_is)
    (case k__law_union => k_is)
    (case l__law_parts => k_is)
    (case c__law_parts => k_is)
    (case k__law_parts => k_is)
    (case l_check_rooms => k_is)
    (case c_check_rooms => k_is)
    (case k_check_rooms => k_is)
    (case l_room_fault => k_is)
    (case c_room_fault => k_is)
    (case k_room_fault => k_is)
    (case l__law_ints => k_is)
    (case c__law_ints => k_is)
    (case k__law_ints => k_is)
    (case l__law_push => k_is)
    (case c__law_push => k_is)
    (case k__law_push => k_is)
    (case l__law_border => k_is)
    (case c__law_border => k_is)
    (case k__law_border => k_is)
    (case l__law_order => k_is)
    (case c__law_order => k_is)
    (case k__law_order => k_is)
    (case l__law_unions => k_is)
    (case c__law_unions => k_is)
    (case k__law_unions => k_is)
    (case l__law_together => k_is)
    (case c__law_together => k_is)
    (case k__law_together => k_is)
    (case l_floor_fault => k_is)
    (case c_floor_fault => k_is)
    (case k_floor_fault => k_is)
    (case l__law_slide => k_is)
    (case c__law_slide => k_is)
    (case k__law_slide => k_is)
    (case l_Floor___init__ => k_is)
    (case c_Floor___init__ => k_is)
    (case k_Floor___init__ => k_is)
    (case l__law_floor => k_is)
    (case c__law_floor => k_is)
    (case k__law_floor => k_is)
    (case l_joinable => k_is)
    (case c_joinable => k_is)
    (case k_joinable => k_is)
    (case l__law_drawn => k_is)
    (case c__law_drawn => k_is)
    (case k__law_drawn => k_is)
    (case l__law_is => k_is)
    (case c__law_is => k_is)
    (case k__law_is => k_is)
    (case l_split_room => k_is)
    (case c_split_room => k_is)
    (case k_split_room => k_is)
    (case l_join_rooms => k_is)
    (case c_join_rooms => k_is)
    (case k_join_rooms => k_is)
    (case l__law_listed => k_is)
    (case c__law_listed => k_is)
    (case k__law_listed => k_is)
    (case l__law_join => k_is)
    (case c__law_join => k_is)
    (case k__law_join => k_is)
    (case l__law_split => k_is)
    (case c__law_split => k_is)
    (case k__law_split => k_is)
    (case l__law_back => k_is)
    (case c__law_back => k_is)
    (case k__law_back => k_is)
    (case l__law_apart => k_is)
    (case c__law_apart => k_is)
    (case k__law_apart => k_is)
    (case l_law => k_is)
    (case c_law => k_is)
    (case k_law => k_is)
    (case i_Floor___len__ => k_is)
    (case i_Floor___iter__ => k_is)
    (case i_Floor___eq__ => k_is)
    (case i_Floor_room => k_is)
    (case i_Floor___init__ => k_is)
    (case n_len => k_is)
    (case n_abs => k_is)
    (case n_int => k_is)
    (case n_max => k_is)
    (case n_min => k_is)
    (case n_sorted => k_is)
    (case n_list => k_is)
    (case n_tuple => k_is)
    (case n_isinstance => k_is)
    (case n_range => k_is)
    (case n_enumerate => k_is)
    (case n_bool => k_is)
    (case n_iter => k_is)
    (case n_ValueError => k_is)
    (case n_super => k_is)
    (case pgO => k_is)
    (case hdO => k_is)
    (case poO => k_is)
    (case saO => k_is)
    (case mkO => k_is)
    (case kpO => k_is)
    (case haO => k_is)
    (case hmO => k_is)
    (case hn => k_is)
    (case htk => k_is)
    (case noO => k_is)
    (case na__rooms => k_is)
    (case na_height => k_is)
    (case na_width => k_is)
    (case xL_BadCount => k_is)
    (case xb_BadCount => decide +kernel)
    (case xsa_BadCount => k_is)
    (case xga_BadCount => k_is)
    (case xgg_BadCount => k_is)
    (case xn_BadCount => k_is)
    (case xi_BadCount => k_is)
    (case xt_BadCount => k_is)
    (case xk_BadCount => k_is)
    (case xe_BadCount => k_is)
    (case xv_BadCount => k_is)
    (case xm_BadCount => k_is)
    (case xy_BadCount => k_is)
    (case xh_BadCount => k_is)
    (case xs_BadCount => first | ks_is | k_is)
    (case xa_BadCount => k_is)
    (case xo_BadCount => k_is)
    (case xl_BadCount => k_is)
    (case xc_BadCount => k_is)
    (case xd_BadCount => k_is)
    (case xf_BadCount => rfl)
    (case xp_BadCount => rfl)
    (case xcc_BadCount => k_is)
    (case xL_BadFloor => k_is)
    (case xb_BadFloor => decide +kernel)
    (case xsa_BadFloor => k_is)
    (case xga_BadFloor => k_is)
    (case xgg_BadFloor => k_is)
    (case xn_BadFloor => k_is)
    (case xi_BadFloor => k_is)
    (case xt_BadFloor => k_is)
    (case xk_BadFloor => k_is)
    (case xe_BadFloor => k_is)
    (case xv_BadFloor => k_is)
    (case xm_BadFloor => k_is)
    (case xy_BadFloor => k_is)
    (case xh_BadFloor => k_is)
    (case xs_BadFloor => first | ks_is | k_is)
    (case xa_BadFloor => k_is)
    (case xo_BadFloor => k_is)
    (case xl_BadFloor => k_is)
    (case xc_BadFloor => k_is)
    (case xd_BadFloor => k_is)
    (case xf_BadFloor => rfl)
    (case xp_BadFloor => rfl)
    (case xcc_BadFloor => k_is)
    (case xL_BadPlace => k_is)
    (case xb_BadPlace => decide +kernel)
    (case xsa_BadPlace => k_is)
    (case xga_BadPlace => k_is)
    (case xgg_BadPlace => k_is)
    (case xn_BadPlace => k_is)
    (case xi_BadPlace => k_is)
    (case xt_BadPlace => k_is)
    (case xk_BadPlace => k_is)
    (case xe_BadPlace => k_is)
    (case xv_BadPlace => k_is)
    (case xm_BadPlace => k_is)
    (case xy_BadPlace => k_is)
    (case xh_BadPlace => k_is)
    (case xs_BadPlace => first | ks_is | k_is)
    (case xa_BadPlace => k_is)
    (case xo_BadPlace => k_is)
    (case xl_BadPlace => k_is)
    (case xc_BadPlace => k_is)
    (case xd_BadPlace => k_is)
    (case xf_BadPlace => rfl)
    (case xp_BadPlace => rfl)
    (case xcc_BadPlace => k_is)
    (case xL_NotJoined => k_is)
    (case xb_NotJoined => decide +kernel)
    (case xsa_NotJoined => k_is)
    (case xga_NotJoined => k_is)
    (case xgg_NotJoined => k_is)
    (case xn_NotJoined => k_is)
    (case xi_NotJoined => k_is)
    (case xt_NotJoined => k_is)
    (case xk_NotJoined => k_is)
    (case xe_NotJoined => k_is)
    (case xv_NotJoined => k_is)
    (case xm_NotJoined => k_is)
    (case xy_NotJoined => k_is)
    (case xh_NotJoined => k_is)
    (case xs_NotJoined => first | ks_is | k_is)
    (case xa_NotJoined => k_is)
    (case xo_NotJoined => k_is)
    (case xl_NotJoined => k_is)
    (case xc_NotJoined => k_is)
    (case xd_NotJoined => k_is)
    (case xf_NotJoined => rfl)
    (case xp_NotJoined => rfl)
    (case xcc_NotJoined => k_is)
    (case hdFE => k_is)
    (case tyFE => k_is)
    (case tX0 => k_is)
    (case tN0 => first | decide | exact fun z => nomatch z)
    (case tX1 => k_is)
    (case tN1 => first | decide | exact fun z => nomatch z)
    (case tX2 => k_is)
    (case tN2 => first | decide | exact fun z => nomatch z)
    (case tX3 => k_is)
    (case tX4 => k_is)
    (case tN4 => first | decide | exact fun z => nomatch z)
    (case tX5 => k_is)
    (case tN5 => first | decide | exact fun z => nomatch z)
    (case tX6 => k_is)
    (case tN6 => first | decide | exact fun z => nomatch z)
    (case tX8 => k_is)
    (case tN8 => first | decide | exact fun z => nomatch z)
    (case tX9 => k_is)
    (case tN9 => first | decide | exact fun z => nomatch z)
    (case tX10 => k_is)
    (case tE0 => k_is)
    (case tE1 => k_is)
    (case tE2 => k_is)
    (case tE3 => k_is)
    case fin =>
      rintro D ⟨T, e1, e2⟩
      have ef : fa = D.f_law := Value.ref.inj (Option.some.inj (hmg.symm.trans T.g_law))
      subst ef
      exact ⟨D.d_law, fun s v => by rw [e2]; exact .of_eq rfl, fun base _ _ => K31.fn_law T⟩
end
