import PyProof.Rows.All
import Wide.All
import OpenK.AllK
import Wide.FinOn
import HandS.ForMost
import HandS.ForExc
import HandS.Walk
import HandS.EndBits
import HandS.Wide
import HandS.TupAny
import HandS.TupMul
import HandS.IsInst
import HandS.Zip
import HandS.Replace
import HandS.StrMore
import PySem.Challenge.RW_chaindisk_k22_pieces_of_words
set_option Elab.async false
set_option linter.all false
set_option maxRecDepth 100000
set_option maxHeartbeats 2000000
/-! Fz: a layer of our own over HandS: a frozen heap M, cells C that may change, environments of predicates. -/
namespace Fz
open PySem PySem.Spec PyProof.Rows L2

/-! ### data in the frozen heap -/
mutual
theorem dp_mono {K : PySem.W.Frag} {M M' : Hp} (e : Same M M') : ∀ {v : V} {d : PyData}, Dp K M v d → Dp K M' v d
  | _, _, .non => .non
  | _, _, .bl b => .bl b
  | _, _, .int i => .int i
  | _, _, .str x => .str x
  | _, _, .lst h a => .lst (e.seq h) (dpAll_mono e a)
  | _, _, .tup h a => .tup (by
      rcases h with (h | ⟨o, h⟩) | h
      · exact .inl (.inl (e _ _ h))
      · exact .inl (.inr ⟨o, e _ _ h⟩)
      · exact .inr h) (dpAll_mono e a)
theorem dpAll_mono {K : PySem.W.Frag} {M M' : Hp} (e : Same M M') : ∀ {vs : List V} {ds : List PyData}, DpAll K M vs ds → DpAll K M' vs ds
  | _, _, .nil => .nil
  | _, _, .cons h t => .cons (dp_mono e h) (dpAll_mono e t)
end
theorem sqT_mono {K : PySem.W.Frag} {M M' : Hp} (e : Same M M') {a : Addr} {xs : List V} (h : SqT K M a xs) : SqT K M' a xs := by
  rcases h with (h | ⟨o, h⟩) | h
  · exact .inl (.inl (e _ _ h))
  · exact .inl (.inr ⟨o, e _ _ h⟩)
  · exact .inr h

/-- a predicate of a value that stays when the frozen heap grows -/
structure Pd where
  p : Hp → V → Prop
  mono : ∀ {M M' : Hp} {v : V}, Same M M' → p M v → p M' v
/-- a datum -/
def pD (K : PySem.W.Frag) (d : PyData) : Pd := ⟨fun M v => Dp K M v d, fun e h => dp_mono e h⟩
/-- this very value -/
def pV (x : V) : Pd := ⟨fun _ v => v = x, fun _ h => h⟩
abbrev pRef (a : Addr) : Pd := pV (.ref a)
def pAny : Pd := ⟨fun _ _ => True, fun _ h => h⟩
/-- a frozen dict of data -/
def DicOk (K : PySem.W.Frag) (M : Hp) : List (Key × PyData) → List (Key × V) → Prop
  | [], [] => True
  | (k, d) :: r, (k', v) :: s => k' = k ∧ Dp K M v d ∧ DicOk K M r s
  | _, _ => False
theorem dicOk_mono {K : PySem.W.Frag} {M M' : Hp} (e : Same M M') : ∀ {kds : List (Key × PyData)} {kvs : List (Key × V)}, DicOk K M kds kvs → DicOk K M' kds kvs
  | [], [], _ => trivial
  | (_, _) :: _, (_, _) :: _, ⟨h1, h2, h3⟩ => ⟨h1, dp_mono e h2, dicOk_mono e h3⟩
def pDicP (K : PySem.W.Frag) (kds : List (Key × PyData)) (M : Hp) (v : V) : Prop := ∃ (a : Addr) (kvs : List (Key × V)), v = .ref a ∧ M a = some (.dK kvs) ∧ DicOk K M kds kvs
def pDic (K : PySem.W.Frag) (kds : List (Key × PyData)) : Pd := ⟨pDicP K kds, fun e ⟨a, kvs, h1, h2, h3⟩ => ⟨a, kvs, h1, e _ _ h2, dicOk_mono e h3⟩⟩

/-! ### cells -/
inductive Cell where
  | lst (ds : List PyData)
  | dic (kds : List (Key × PyData))
  | ins (C dx : Addr) (fs : List (Str × Pd))
  | own (x : Addr)
  | lstP (ps : List Pd)
  | dicP (kps : List (Key × Pd))
abbrev Cs := Addr → Option Cell
def updC (C : Cs) (a : Addr) (c : Cell) : Cs := fun b => if b = a then some c else C b
theorem updC_same {C : Cs} {a : Addr} {c : Cell} : updC C a c a = some c := by unfold updC; rw [if_pos rfl]
theorem updC_ne {C : Cs} {a b : Addr} {c : Cell} (h : b ≠ a) : updC C a c b = C b := by unfold updC; rw [if_neg h]
theorem updC_updC {C : Cs} {a : Addr} {c c' : Cell} : updC (updC C a c) a c' = updC C a c' := by
  funext b; unfold updC; split <;> rfl
theorem updC_comm {C : Cs} {a b : Addr} {c c' : Cell} (h : a ≠ b) : updC (updC C a c) b c' = updC (updC C b c') a c := by
  funext x; unfold updC
  by_cases h1 : x = a
  · subst h1; rw [if_neg h, if_pos rfl, if_pos rfl]
  · by_cases h2 : x = b
    · subst h2; rw [if_pos rfl, if_neg h1, if_pos rfl]
    · simp only [if_neg h1, if_neg h2]
theorem updC_self {C : Cs} {a : Addr} {c : Cell} (h : C a = some c) : updC C a c = C := by
  funext b; unfold updC; split
  · rename_i e; rw [e, h]
  · rfl
theorem neC_of_none {C : Cs} {a b : Addr} {c : Cell} (h : C a = some c) (h' : C b = none) : a ≠ b := by
  intro e; subst e; rw [h] at h'; cases h'
def AllP (M : Hp) : List Pd → List V → Prop
  | [], [] => True
  | p :: ps, v :: vs => p.p M v ∧ AllP M ps vs
  | _, _ => False
theorem allP_mono {M M' : Hp} (e : Same M M') : ∀ {ps : List Pd} {vs : List V}, AllP M ps vs → AllP M' ps vs
  | [], [], _ => trivial
  | p :: _, _ :: _, ⟨h, t⟩ => ⟨p.mono e h, allP_mono e t⟩
def CellOk (K : PySem.W.Frag) (M : Hp) : Cell → HO → Prop
  | .lst ds, .lst xs => DpAll K M xs ds
  | .dic kds, .dK kvs => DicOk K M kds kvs
  | .ins C dx fs, .ins C' dx' gs => C' = C ∧ dx' = dx ∧ gs.map (·.1) = fs.map (·.1) ∧ AllP M (fs.map (·.2)) (gs.map (·.2))
  | .own x, .own y => y = x
  | .lstP ps, .lst xs => AllP M ps xs
  | .dicP kps, .dK kvs => kvs.map (·.1) = kps.map (·.1) ∧ AllP M (kps.map (·.2)) (kvs.map (·.2))
  | _, _ => False
theorem cellOk_mono {K : PySem.W.Frag} {M M' : Hp} (e : Same M M') {c : Cell} {o : HO} (h : CellOk K M c o) : CellOk K M' c o := by
  cases c <;> cases o <;> first
    | exact False.elim h
    | exact dpAll_mono e h
    | exact dicOk_mono e h
    | exact ⟨h.1, h.2.1, h.2.2.1, allP_mono e h.2.2.2⟩
    | exact ⟨h.1, allP_mono e h.2⟩
    | exact allP_mono e h
    | exact h
/-- the state: M frozen, C cells, both in H, apart -/
structure Ok (K : PySem.W.Frag) (M : Hp) (C : Cs) (H : Hp) : Prop where
  fz : Same M H
  cs : ∀ a c, C a = some c → M a = none ∧ ∃ o, H a = some o ∧ CellOk K M c o
section
variable {K : PySem.W.Frag} {M M' H H' : Hp} {C C' : Cs} {a p : Addr} {c : Cell} {o : HO}
theorem Ok.free (k : Ok K M C H) (h : H p = none) : M p = none ∧ C p = none := by
  refine ⟨k.fz.free h, ?_⟩
  cases e : C p with
  | none => rfl
  | some c =>
    obtain ⟨_, o, h2, _⟩ := k.cs p c e
    rw [h] at h2; cases h2
/-- a new frozen thing -/
theorem Ok.new (k : Ok K M C H) (h : H p = none) : Same M (upd M p o) ∧ Ok K (upd M p o) C (upd H p o) := by
  have hM := (k.free h).1
  have s : Same M (upd M p o) := fun b u e => by rw [upd_ne (ne_of_none e hM)]; exact e
  refine ⟨s, fun b u e => ?_, fun a c e => ?_⟩
  · by_cases hb : b = p
    · subst hb; rw [upd_same] at e ⊢; exact e
    · rw [upd_ne hb] at e ⊢; exact k.fz _ _ e
  · obtain ⟨h1, u, h2, h3⟩ := k.cs a c e
    have na : a ≠ p := fun z => by subst z; rw [h] at h2; cases h2
    exact ⟨by rw [upd_ne na]; exact h1, u, by rw [upd_ne na]; exact h2, cellOk_mono s h3⟩
/-- a new cell -/
theorem Ok.cell (k : Ok K M C H) (h : H p = none) (ho : CellOk K M c o) : C p = none ∧ Ok K M (updC C p c) (upd H p o) := by
  obtain ⟨hM, hC⟩ := k.free h
  refine ⟨hC, fun b u e => ?_, fun a d e => ?_⟩
  · rw [upd_ne (ne_of_none e hM)]; exact k.fz _ _ e
  · by_cases ha : a = p
    · subst ha; rw [updC_same] at e; cases e
      exact ⟨hM, o, upd_same, ho⟩
    · rw [updC_ne ha] at e
      obtain ⟨h1, u, h2, h3⟩ := k.cs a d e
      exact ⟨h1, u, by rw [upd_ne ha]; exact h2, h3⟩
/-- a cell turned -/
theorem Ok.set {c' : Cell} (k : Ok K M C H) (h : C a = some c) (ho : CellOk K M c' o) : Ok K M (updC C a c') (upd H a o) := by
  obtain ⟨hM, _⟩ := k.cs a c h
  refine ⟨fun b u e => ?_, fun b d e => ?_⟩
  · rw [upd_ne (ne_of_none e hM)]; exact k.fz _ _ e
  · by_cases hb : b = a
    · subst hb; rw [updC_same] at e; cases e
      exact ⟨hM, o, upd_same, ho⟩
    · rw [updC_ne hb] at e
      obtain ⟨h1, u, h2, h3⟩ := k.cs b d e
      exact ⟨h1, u, by rw [upd_ne hb]; exact h2, h3⟩
/-- fewer cells -/
theorem Ok.less (k : Ok K M C H) (h : ∀ a c, C' a = some c → C a = some c) : Ok K M C' H := ⟨k.fz, fun a c e => k.cs a c (h a c e)⟩
/-- a cell frozen -/
theorem Ok.freeze (k : Ok K M (updC C a c) H) (h : C a = none) : ∃ o, H a = some o ∧ CellOk K M c o ∧ Same M (upd M a o) ∧ Ok K (upd M a o) C H := by
  obtain ⟨hM, o, h1, h2⟩ := k.cs a c updC_same
  have s : Same M (upd M a o) := fun b u e => by rw [upd_ne (ne_of_none e hM)]; exact e
  refine ⟨o, h1, h2, s, fun b u e => ?_, fun b d e => ?_⟩
  · by_cases hb : b = a
    · subst hb; rw [upd_same] at e; cases e; exact h1
    · rw [upd_ne hb] at e; exact k.fz _ _ e
  · have hb : b ≠ a := neC_of_none e h
    obtain ⟨q1, u, q2, q3⟩ := k.cs b d (by rw [updC_ne hb]; exact e)
    exact ⟨by rw [upd_ne hb]; exact q1, u, q2, cellOk_mono s q3⟩
end

/-! ### environments -/
abbrev En := List (Option Pd)
def EnvOk (M : Hp) : En → L2.St → Prop
  | [], [] => True
  | none :: ρ, _ :: σ => EnvOk M ρ σ
  | some p :: ρ, some v :: σ => p.p M v ∧ EnvOk M ρ σ
  | _, _ => False
theorem EnvOk.mono {M M' : Hp} (e : Same M M') : ∀ {ρ : En} {σ : L2.St}, EnvOk M ρ σ → EnvOk M' ρ σ
  | [], [], _ => trivial
  | none :: ρ, _ :: σ, h => EnvOk.mono (ρ := ρ) (σ := σ) e h
  | some p :: ρ, some _ :: σ, ⟨h, t⟩ => ⟨p.mono e h, EnvOk.mono (ρ := ρ) (σ := σ) e t⟩
theorem EnvOk.get {M : Hp} {p : Pd} : ∀ {ρ : En} {σ : L2.St} {i : Nat}, EnvOk M ρ σ → ρ[i]? = some (some p) → ∃ v, σ[i]? = some (some v) ∧ p.p M v
  | [], _, _, _, e => by simp at e
  | none :: _, _ :: _, 0, h, e => by simp at e
  | none :: ρ, _ :: σ, i + 1, h, e => EnvOk.get (ρ := ρ) (σ := σ) (i := i) h e
  | some q :: _, some v :: _, 0, ⟨h, _⟩, e => by
    have e' : q = p := by simpa using e
    subst e'; exact ⟨v, rfl, h⟩
  | some _ :: ρ, some _ :: σ, i + 1, ⟨_, t⟩, e => EnvOk.get (ρ := ρ) (σ := σ) (i := i) t e
  | some _ :: _, none :: _, _, h, _ => False.elim h
theorem EnvOk.set {M : Hp} {p : Pd} {v : V} (hv : p.p M v) : ∀ {ρ : En} {σ : L2.St} (i : Nat), EnvOk M ρ σ → EnvOk M (ρ.set i (some p)) (σ.set i (some v))
  | [], [], _, _ => trivial
  | none :: ρ, _ :: σ, 0, h => ⟨hv, h⟩
  | some _ :: ρ, some _ :: σ, 0, ⟨_, t⟩ => ⟨hv, t⟩
  | none :: ρ, _ :: σ, i + 1, h => EnvOk.set (ρ := ρ) (σ := σ) hv i h
  | some _ :: ρ, some _ :: σ, i + 1, ⟨h, t⟩ => ⟨h, EnvOk.set (ρ := ρ) (σ := σ) hv i t⟩
theorem EnvOk.wipe1 {M : Hp} : ∀ {ρ : En} {σ : L2.St} (i : Nat) (x : Option V), EnvOk M ρ σ → EnvOk M (ρ.set i none) (σ.set i x)
  | [], [], _, _, _ => trivial
  | none :: ρ, _ :: σ, 0, _, h => h
  | some _ :: ρ, some _ :: σ, 0, _, ⟨_, t⟩ => t
  | none :: ρ, _ :: σ, i + 1, x, h => EnvOk.wipe1 (ρ := ρ) (σ := σ) i x h
  | some _ :: ρ, some _ :: σ, i + 1, x, ⟨h, t⟩ => ⟨h, EnvOk.wipe1 (ρ := ρ) (σ := σ) i x t⟩
/-- forget what a slot holds -/
theorem EnvOk.forget {M : Hp} : ∀ {ρ : En} {σ : L2.St} (i : Nat), EnvOk M ρ σ → EnvOk M (ρ.set i none) σ
  | [], [], _, _ => trivial
  | none :: ρ, _ :: σ, 0, h => h
  | some _ :: ρ, some _ :: σ, 0, ⟨_, t⟩ => t
  | none :: ρ, _ :: σ, i + 1, h => EnvOk.forget (ρ := ρ) (σ := σ) i h
  | some _ :: ρ, some _ :: σ, i + 1, ⟨h, t⟩ => ⟨h, EnvOk.forget (ρ := ρ) (σ := σ) i t⟩
def wipeR (ρ : En) : List Nat → En
  | [] => ρ
  | v :: vs => (wipeR ρ vs).set v none
theorem EnvOk.wipe {M : Hp} {ρ : En} {σ : L2.St} (h : EnvOk M ρ σ) : ∀ vs : List Nat, EnvOk M (wipeR ρ vs) (wipe σ vs)
  | [] => h
  | v :: vs => (EnvOk.wipe h vs).wipe1 v none
theorem EnvOk.start {M : Hp} : ∀ {ps : List Pd} {vs : List V} (n : Nat), AllP M ps vs → EnvOk M (ps.map some ++ List.replicate n none) (vs.map some ++ List.replicate n none)
  | [], [], n, _ => by
    show EnvOk M (List.replicate n none) (List.replicate n none)
    induction n with
    | zero => trivial
    | succ n ih => exact ih
  | _ :: _, _ :: _, n, ⟨h, t⟩ => ⟨h, EnvOk.start n t⟩

/-! ### fewer facts -/
def EnvLe (ρ ρ' : En) : Prop := ∀ (M : Hp) (σ : L2.St), EnvOk M ρ σ → EnvOk M ρ' σ
theorem EnvLe.refl (ρ : En) : EnvLe ρ ρ := fun _ _ h => h
theorem EnvLe.trans {ρ ρ1 ρ2 : En} (a : EnvLe ρ ρ1) (b : EnvLe ρ1 ρ2) : EnvLe ρ ρ2 := fun M σ h => b M σ (a M σ h)
theorem EnvLe.nil : EnvLe [] [] := fun _ _ h => h
theorem EnvLe.same {x : Option Pd} {ρ ρ' : En} (h : EnvLe ρ ρ') : EnvLe (x :: ρ) (x :: ρ') := fun M σ e => by
  match x, σ, e with
  | none, _ :: σ, e => exact h M σ e
  | some p, some v :: σ, ⟨a, e⟩ => exact ⟨a, h M σ e⟩
theorem EnvLe.drop {x : Option Pd} {ρ ρ' : En} (h : EnvLe ρ ρ') : EnvLe (x :: ρ) (none :: ρ') := fun M σ e => by
  match x, σ, e with
  | none, _ :: σ, e => exact h M σ e
  | some p, some v :: σ, ⟨a, e⟩ => exact h M σ e
theorem EnvLe.imp {p q : Pd} {ρ ρ' : En} (hp : ∀ M v, p.p M v → q.p M v) (h : EnvLe ρ ρ') : EnvLe (some p :: ρ) (some q :: ρ') := fun M σ e => by
  match σ, e with
  | some v :: σ, ⟨a, e⟩ => exact ⟨hp M v a, h M σ e⟩
def Sub (C' C : Cs) : Prop := ∀ a c, C' a = some c → C a = some c
theorem Sub.refl (C : Cs) : Sub C C := fun _ _ h => h
theorem Sub.trans {C1 C2 C3 : Cs} (h : Sub C1 C2) (h' : Sub C2 C3) : Sub C1 C3 := fun a c e => h' a c (h a c e)
theorem Sub.upd {C : Cs} {a : Addr} {c : Cell} (h : C a = none) : Sub C (updC C a c) := fun b d e => by rw [updC_ne (neC_of_none e h)]; exact e
theorem Sub.updU {C C' : Cs} {a : Addr} {c : Cell} (h : C a = none) (s : Sub C C') : Sub C (updC C' a c) := fun b d e => by rw [updC_ne (neC_of_none e h)]; exact s b d e
theorem Sub.both {C C' : Cs} {a : Addr} {c : Cell} (s : Sub C C') : Sub (updC C a c) (updC C' a c) := fun b d e => by
  by_cases hb : b = a
  · subst hb; rw [updC_same] at e ⊢; exact e
  · rw [updC_ne hb] at e ⊢; exact s b d e
/-! ### judgements -/
def Ec (K : PySem.W.Frag) (t : TE) (ρ : En) (C : Cs) (p : Pd) (C' : Cs) : Prop := ∀ (σ : L2.St) (H M : Hp) (Q : VK), EnvOk M ρ σ → Ok K M C H → (∀ v H' M', Same M M' → Ok K M' C' H' → p.p M' v → Q v H') → t σ H Q
/-- a new cell comes -/
def Ew (K : PySem.W.Frag) (t : TE) (ρ : En) (C : Cs) (c : Cell) (C' : Cs) : Prop := ∀ (σ : L2.St) (H M : Hp) (Q : VK), EnvOk M ρ σ → Ok K M C H → (∀ a H' M', Same M M' → C' a = none → Ok K M' (updC C' a c) H' → Q (.ref a) H') → t σ H Q
def Et (K : PySem.W.Frag) (t : TT) (ρ : En) (C : Cs) (b : Bool) (C' : Cs) : Prop := ∀ (σ : L2.St) (H M : Hp) (Q : Bool → Hp → Prop), EnvOk M ρ σ → Ok K M C H → (∀ H' M', Same M M' → Ok K M' C' H' → Q b H') → t σ H Q
def Ea (K : PySem.W.Frag) (t : TA) (ρ : En) (C : Cs) (ps : List Pd) (C' : Cs) : Prop := ∀ (σ : L2.St) (H M : Hp) (Q : List V → Hp → Prop), EnvOk M ρ σ → Ok K M C H → (∀ vs H' M', Same M M' → Ok K M' C' H' → AllP M' ps vs → Q vs H') → t σ H Q
def Eo (K : PySem.W.Frag) (t : TO) (ρ : En) (C : Cs) (o : Option Int) (C' : Cs) : Prop := ∀ (σ : L2.St) (H M : Hp) (Q : Option Int → Hp → Prop), EnvOk M ρ σ → Ok K M C H → (∀ H' M', Same M M' → Ok K M' C' H' → Q o H') → t σ H Q
/-- a rule of two values -/
def Er (K : PySem.W.Frag) (r : R2) (C : Cs) (p q s : Pd) (C' : Cs) : Prop := ∀ (x y : V) (H M : Hp) (Q : VK), Ok K M C H → p.p M x → q.p M y → (∀ v H' M', Same M M' → Ok K M' C' H' → s.p M' v → Q v H') → r x y H Q
def ErW (K : PySem.W.Frag) (r : R2) (C : Cs) (p q : Pd) (c : Cell) (C' : Cs) : Prop := ∀ (x y : V) (H M : Hp) (Q : VK), Ok K M C H → p.p M x → q.p M y → (∀ a H' M', Same M M' → C' a = none → Ok K M' (updC C' a c) H' → Q (.ref a) H') → r x y H Q
/-- a rule of a list of values (a call of a built-in, a promise) -/
def Ek (K : PySem.W.Frag) (r : List V → Hp → VK → Prop) (C : Cs) (ps : List Pd) (s : Pd) (C' : Cs) : Prop := ∀ (xs : List V) (H M : Hp) (Q : VK), Ok K M C H → AllP M ps xs → (∀ v H' M', Same M M' → Ok K M' C' H' → s.p M' v → Q v H') → r xs H Q
def EkW (K : PySem.W.Frag) (r : List V → Hp → VK → Prop) (C : Cs) (ps : List Pd) (c : Cell) (C' : Cs) : Prop := ∀ (xs : List V) (H M : Hp) (Q : VK), Ok K M C H → AllP M ps xs → (∀ a H' M', Same M M' → C' a = none → Ok K M' (updC C' a c) H' → Q (.ref a) H') → r xs H Q
/-- a target takes a value -/
def Eg (K : PySem.W.Frag) (g : TG) (ρ : En) (C : Cs) (p : Pd) (ρ' : En) (C' : Cs) : Prop := ∀ (v : V) (σ : L2.St) (H M : Hp) (Q : L2.St → Hp → Prop), EnvOk M ρ σ → Ok K M C H → p.p M v → (∀ σ' H' M', Same M M' → EnvOk M' ρ' σ' → Ok K M' C' H' → Q σ' H') → g v σ H Q

section
variable {K : PySem.W.Frag} {t ta tb te : TE} {ρ ρ' : En} {C C1 C2 C3 C' : Cs} {p q s : Pd} {ps : List Pd} {c : Cell}
theorem ec_var {i : Nat} (h : ρ[i]? = some (some p)) : Ec K (tVar i) ρ C p C := fun σ H M Q e k q => by
  obtain ⟨v, h1, h2⟩ := e.get h
  exact ⟨v, h1, q v H M (Same.refl M) k h2⟩
theorem ec_int {i : Int} : Ec K (tC (.int i)) ρ C (pD K (.int i)) C := fun σ H M Q e k q => q _ H M (Same.refl M) k (Dp.int i)
theorem ec_str {x : Str} : Ec K (tC (.str x)) ρ C (pD K (.str x)) C := fun σ H M Q e k q => q _ H M (Same.refl M) k (Dp.str x)
theorem ec_bl {b : Bool} : Ec K (tC (.bl b)) ρ C (pD K (.bool b)) C := fun σ H M Q e k q => q _ H M (Same.refl M) k (Dp.bl b)
theorem ec_non : Ec K (tC .non) ρ C (pD K .none) C := fun σ H M Q e k q => q _ H M (Same.refl M) k Dp.non
theorem ec_val {v : V} : Ec K (tC v) ρ C (pV v) C := fun σ H M Q e k q => q _ H M (Same.refl M) k rfl
/-- a constant of the module -/
theorem ec_const {v : V} {d : PyData} (h : ∀ M, Dp K M v d) : Ec K (tC v) ρ C (pD K d) C := fun σ H M Q e k q => q _ H M (Same.refl M) k (h M)
theorem ec_op {r : R2} (ha : Ec K ta ρ C p C1) (hb : Ec K tb ρ C1 q C2) (hr : Er K r C2 p q s C3) : Ec K (tOp r ta tb) ρ C s C3 := fun σ H M Q e k z =>
  ha σ H M _ e k fun x H1 M1 e1 k1 h1 => hb σ H1 M1 _ (e.mono e1) k1 fun y H2 M2 e2 k2 h2 => hr x y H2 M2 Q k2 (p.mono e2 h1) h2 fun v H3 M3 e3 k3 h3 => z v H3 M3 ((e1.trans e2).trans e3) k3 h3
theorem ew_op {r : R2} (ha : Ec K ta ρ C p C1) (hb : Ec K tb ρ C1 q C2) (hr : ErW K r C2 p q c C3) : Ew K (tOp r ta tb) ρ C c C3 := fun σ H M Q e k z =>
  ha σ H M _ e k fun x H1 M1 e1 k1 h1 => hb σ H1 M1 _ (e.mono e1) k1 fun y H2 M2 e2 k2 h2 => hr x y H2 M2 Q k2 (p.mono e2 h1) h2 fun v H3 M3 e3 k3 h3 => z v H3 M3 ((e1.trans e2).trans e3) k3 h3
theorem Ec.conv {p' : Pd} (h : Ec K t ρ C p C') (e : p = p') : Ec K t ρ C p' C' := e ▸ h
theorem Ec.conv' {C'' : Cs} (h : Ec K t ρ C p C') (e : C' = C'') : Ec K t ρ C p C'' := e ▸ h
theorem Ec.imp {p' : Pd} (h : Ec K t ρ C p C') (e : ∀ M v, p.p M v → p'.p M v) : Ec K t ρ C p' C' := fun σ H M Q e0 k z => h σ H M Q e0 k fun v H' M' s k' hv => z v H' M' s k' (e _ _ hv)
theorem Ew.conv {c' : Cell} (h : Ew K t ρ C c C') (e : c = c') : Ew K t ρ C c' C' := e ▸ h
theorem Et.conv {t : TT} {b b' : Bool} (h : Et K t ρ C b C') (e : b = b') : Et K t ρ C b' C' := e ▸ h
theorem Ea.conv {t : TA} {ps' : List Pd} (h : Ea K t ρ C ps C') (e : ps = ps') : Ea K t ρ C ps' C' := e ▸ h
/-- the new cell is frozen -/
theorem Ew.list {ds : List PyData} (h : Ew K t ρ C (.lst ds) C') : Ec K t ρ C (pD K (.list ds)) C' := fun σ H M Q e k z => h σ H M Q e k fun a H' M' s n k' => by
  obtain ⟨o, h1, h2, h3, h4⟩ := k'.freeze n
  cases o <;> first | exact False.elim h2 | skip
  rename_i xs
  exact z (.ref a) H' _ (s.trans h3) h4 (Dp.lst (.inl (.inl upd_same)) (dpAll_mono h3 h2))
theorem Ew.dict {kds : List (Key × PyData)} (h : Ew K t ρ C (.dic kds) C') : Ec K t ρ C (pDic K kds) C' := fun σ H M Q e k z => h σ H M Q e k fun a H' M' s n k' => by
  obtain ⟨o, h1, h2, h3, h4⟩ := k'.freeze n
  cases o <;> first | exact False.elim h2 | skip
  rename_i kvs
  exact z (.ref a) H' _ (s.trans h3) h4 ⟨a, kvs, rfl, upd_same, dicOk_mono h3 h2⟩
/-! arguments -/
theorem ea_nil : Ea K tNil ρ C [] C := fun σ H M Q e k z => z [] H M (Same.refl M) k trivial
theorem ea_cons {tr : TA} (ha : Ec K ta ρ C p C1) (hr : Ea K tr ρ C1 ps C2) : Ea K (tCons ta tr) ρ C (p :: ps) C2 := fun σ H M Q e k z =>
  ha σ H M _ e k fun x H1 M1 e1 k1 h1 => hr σ H1 M1 _ (e.mono e1) k1 fun xs H2 M2 e2 k2 h2 => z _ H2 M2 (e1.trans e2) k2 ⟨p.mono e2 h1, h2⟩
theorem allP_data {M : Hp} : ∀ {ds : List PyData} {vs : List V}, AllP M (ds.map (pD K)) vs → DpAll K M vs ds
  | [], [], _ => .nil
  | _ :: _, _ :: _, ⟨h, t⟩ => .cons h (allP_data t)
theorem data_allP {M : Hp} : ∀ {ds : List PyData} {vs : List V}, DpAll K M vs ds → AllP M (ds.map (pD K)) vs
  | _, _, .nil => trivial
  | _, _, .cons h t => ⟨h, data_allP t⟩
theorem dpAll_len {M : Hp} : ∀ {vs : List V} {ds : List PyData}, DpAll K M vs ds → vs.length = ds.length
  | _, _, .nil => rfl
  | _, _, .cons _ t => by rw [List.length_cons, List.length_cons, dpAll_len t]
theorem allP_len {M : Hp} : ∀ {ps : List Pd} {vs : List V}, AllP M ps vs → vs.length = ps.length
  | [], [], _ => rfl
  | _ :: _, _ :: _, ⟨_, t⟩ => by rw [List.length_cons, List.length_cons, allP_len t]
theorem dpAll_get {M : Hp} : ∀ {vs : List V} {ds : List PyData} {i : Nat} {d : PyData}, DpAll K M vs ds → ds[i]? = some d → ∃ v, vs[i]? = some v ∧ Dp K M v d
  | _, _, i, _, .nil, e => by simp at e
  | _, _, 0, _, .cons h _, e => by simp at e; subst e; exact ⟨_, rfl, h⟩
  | _, _, i + 1, d, .cons _ t, e => dpAll_get (i := i) t e
theorem dpAll_getV {M : Hp} : ∀ {vs : List V} {ds : List PyData} {i : Nat} {v : V}, DpAll K M vs ds → vs[i]? = some v → ∃ d, ds[i]? = some d ∧ Dp K M v d
  | _, _, i, _, .nil, e => by simp at e
  | _, _, 0, _, .cons h _, e => by simp at e; subst e; exact ⟨_, rfl, h⟩
  | _, _, i + 1, d, .cons _ t, e => dpAll_getV (i := i) t e
theorem dpAll_append {M : Hp} : ∀ {vs ws : List V} {ds es : List PyData}, DpAll K M vs ds → DpAll K M ws es → DpAll K M (vs ++ ws) (ds ++ es)
  | _, _, _, _, .nil, h => h
  | _, _, _, _, .cons a t, h => .cons a (dpAll_append t h)
theorem dpAll_take {M : Hp} : ∀ {vs : List V} {ds : List PyData} (n : Nat), DpAll K M vs ds → DpAll K M (vs.take n) (ds.take n)
  | _, _, 0, _ => by rw [List.take_zero, List.take_zero]; exact .nil
  | _, _, _ + 1, .nil => .nil
  | _, _, n + 1, .cons a t => .cons a (dpAll_take n t)
theorem dpAll_drop {M : Hp} : ∀ {vs : List V} {ds : List PyData} (n : Nat), DpAll K M vs ds → DpAll K M (vs.drop n) (ds.drop n)
  | _, _, 0, h => h
  | _, _, _ + 1, .nil => .nil
  | _, _, n + 1, .cons _ t => dpAll_drop n t
theorem dpAll_set {M : Hp} {v : V} {d : PyData} (hv : Dp K M v d) : ∀ {vs : List V} {ds : List PyData} (n : Nat), DpAll K M vs ds → DpAll K M (vs.set n v) (ds.set n d)
  | _, _, _, .nil => .nil
  | _, _, 0, .cons _ t => .cons hv t
  | _, _, n + 1, .cons a t => .cons a (dpAll_set hv n t)
theorem dpAll_reverse {M : Hp} : ∀ {vs : List V} {ds : List PyData}, DpAll K M vs ds → DpAll K M vs.reverse ds.reverse
  | _, _, .nil => .nil
  | _, _, .cons a t => by rw [List.reverse_cons, List.reverse_cons]; exact dpAll_append (dpAll_reverse t) (.cons a .nil)
theorem dpAll_replicate {M : Hp} {v : V} {d : PyData} (h : Dp K M v d) : ∀ n : Nat, DpAll K M (List.replicate n v) (List.replicate n d)
  | 0 => .nil
  | n + 1 => .cons h (dpAll_replicate h n)
theorem dpAll_flatrep {M : Hp} {vs : List V} {ds : List PyData} (h : DpAll K M vs ds) : ∀ n : Nat, DpAll K M (List.replicate n vs).flatten (List.replicate n ds).flatten
  | 0 => .nil
  | n + 1 => by
    rw [List.replicate_succ, List.replicate_succ, List.flatten_cons, List.flatten_cons]
    exact dpAll_append h (dpAll_flatrep h n)
theorem dpAll_ints {M : Hp} : ∀ {vs : List V} {ns : List Int}, DpAll K M vs (ns.map PyData.int) → vs = ns.map V.int
  | [], [], _ => rfl
  | _, [], .nil => rfl
  | _, n :: ns, .cons (.int _) t => by rw [List.map_cons, dpAll_ints t]
theorem ints_dpAll {M : Hp} : ∀ (ns : List Int), DpAll K M (ns.map V.int) (ns.map PyData.int)
  | [] => .nil
  | n :: ns => .cons (.int n) (ints_dpAll ns)
theorem dpAll_strs {M : Hp} : ∀ {vs : List V} {ns : List Str}, DpAll K M vs (ns.map PyData.str) → vs = ns.map V.str
  | _, [], .nil => rfl
  | _, n :: ns, .cons (.str _) t => by rw [List.map_cons, dpAll_strs t]
theorem strs_dpAll {M : Hp} : ∀ (ns : List Str), DpAll K M (ns.map V.str) (ns.map PyData.str)
  | [] => .nil
  | n :: ns => .cons (.str n) (strs_dpAll ns)
theorem dpAll_bools {M : Hp} : ∀ {vs : List V} {ns : List Bool}, DpAll K M vs (ns.map PyData.bool) → vs = ns.map V.bl
  | _, [], .nil => rfl
  | _, n :: ns, .cons (.bl _) t => by rw [List.map_cons, dpAll_bools t]
/-! displays -/
theorem ec_tup {ta : TA} {ds : List PyData} (h : Ea K ta ρ C (ds.map (pD K)) C') (hl : ds.length ≤ sizeLine := by exact Nat.le_of_ble_eq_true rfl) : Ec K (tTup ta) ρ C (pD K (.tuple ds)) C' := fun σ H M Q e k z =>
  h σ H M _ e k fun vs H1 M1 e1 k1 h1 => ⟨by rw [dpAll_len (allP_data h1)]; exact hl, fun a ha => by
    obtain ⟨s, k2⟩ := k1.new (o := .tup vs) ha
    exact z _ _ _ (e1.trans s) k2 (Dp.tup (.inl (.inl upd_same)) (dpAll_mono s (allP_data h1)))⟩
theorem ew_lst {ta : TA} {ds : List PyData} (h : Ea K ta ρ C (ds.map (pD K)) C') (hl : ds.length ≤ sizeLine := by exact Nat.le_of_ble_eq_true rfl) : Ew K (tLst ta) ρ C (.lst ds) C' := fun σ H M Q e k z =>
  h σ H M _ e k fun vs H1 M1 e1 k1 h1 => ⟨by rw [dpAll_len (allP_data h1)]; exact hl, fun a ha => by
    obtain ⟨s, k2⟩ := k1.cell (c := .lst ds) (o := .lst vs) ha (allP_data h1)
    exact z _ _ _ e1 s k2⟩
theorem ec_lst {ta : TA} {ds : List PyData} (h : Ea K ta ρ C (ds.map (pD K)) C') (hl : ds.length ≤ sizeLine := by exact Nat.le_of_ble_eq_true rfl) : Ec K (tLst ta) ρ C (pD K (.list ds)) C' := (ew_lst h hl).list
/-! rules -/
theorem ec_cb {r : List V → Hp → VK → Prop} {ta : TA} (h : Ea K ta ρ C ps C1) (hr : Ek K r C1 ps s C2) : Ec K (tCB r ta) ρ C s C2 := fun σ H M Q e k z =>
  h σ H M _ e k fun xs H1 M1 e1 k1 h1 => hr xs H1 M1 Q k1 h1 fun v H2 M2 e2 k2 h2 => z v H2 M2 (e1.trans e2) k2 h2
theorem ew_cb {r : List V → Hp → VK → Prop} {ta : TA} (h : Ea K ta ρ C ps C1) (hr : EkW K r C1 ps c C2) : Ew K (tCB r ta) ρ C c C2 := fun σ H M Q e k z =>
  h σ H M _ e k fun xs H1 M1 e1 k1 h1 => hr xs H1 M1 Q k1 h1 fun v H2 M2 e2 n2 k2 => z v H2 M2 (e1.trans e2) n2 k2
theorem ec_un {r : V → Hp → VK → Prop} (h : Ec K ta ρ C p C1) (hr : ∀ (x : V) (H M : Hp) (Q : VK), Ok K M C1 H → p.p M x → (∀ v H' M', Same M M' → Ok K M' C2 H' → s.p M' v → Q v H') → r x H Q) : Ec K (tUn r ta) ρ C s C2 := fun σ H M Q e k z =>
  h σ H M _ e k fun x H1 M1 e1 k1 h1 => hr x H1 M1 Q k1 h1 fun v H2 M2 e2 k2 h2 => z v H2 M2 (e1.trans e2) k2 h2
/-- a rule that leaves the heap and gives a scalar -/
theorem er_scal {r : R2} {x0 y0 z0 : V} {d e f : PyData} (hd : ∀ M v, Dp K M v d → v = x0) (he : ∀ M v, Dp K M v e → v = y0) (hf : ∀ M, Dp K M z0 f) (h : ∀ H Q, Q z0 H → r x0 y0 H Q) : Er K r C (pD K d) (pD K e) (pD K f) C := fun x y H M Q k hx hy z => by
  have e1 := hd M x hx; have e2 := he M y hy; subst e1 e2
  exact h H Q (z _ H M (Same.refl M) k (hf M))
theorem d_int {M : Hp} {v : V} {i : Int} (h : Dp K M v (.int i)) : v = .int i := by cases h; rfl
theorem d_str {M : Hp} {v : V} {i : Str} (h : Dp K M v (.str i)) : v = .str i := by cases h; rfl
theorem d_bl {M : Hp} {v : V} {i : Bool} (h : Dp K M v (.bool i)) : v = .bl i := by cases h; rfl
theorem d_non {M : Hp} {v : V} (h : Dp K M v .none) : v = .non := by cases h; rfl
theorem d_tup {M : Hp} {v : V} {ds : List PyData} (h : Dp K M v (.tuple ds)) : ∃ a xs, v = .ref a ∧ SqT K M a xs ∧ DpAll K M xs ds := by cases h with | tup a b => exact ⟨_, _, rfl, a, b⟩
theorem d_lst {M : Hp} {v : V} {ds : List PyData} (h : Dp K M v (.list ds)) : ∃ a xs, v = .ref a ∧ SqL K M a xs ∧ DpAll K M xs ds := by cases h with | lst a b => exact ⟨_, _, rfl, a, b⟩
theorem er_I0i {g : Int → Int → Int} {i j : Int} : Er K (rI0 fun i j => .int (g i j)) C (pD K (.int i)) (pD K (.int j)) (pD K (.int (g i j))) C :=
  er_scal (fun _ _ => d_int) (fun _ _ => d_int) (fun _ => .int _) fun H Q q => ⟨i, j, rfl, rfl, q⟩
theorem er_I0b {g : Int → Int → Bool} {i j : Int} : Er K (rI0 fun i j => .bl (g i j)) C (pD K (.int i)) (pD K (.int j)) (pD K (.bool (g i j))) C :=
  er_scal (fun _ _ => d_int) (fun _ _ => d_int) (fun _ => .bl _) fun H Q q => ⟨i, j, rfl, rfl, q⟩
theorem er_Ii {Cn : Int → Int → Prop} {g : Int → Int → Int} {i j : Int} (hc : Cn i j) : Er K (rI Cn fun i j => .int (g i j)) C (pD K (.int i)) (pD K (.int j)) (pD K (.int (g i j))) C :=
  er_scal (fun _ _ => d_int) (fun _ _ => d_int) (fun _ => .int _) fun H Q q => ⟨i, j, rfl, rfl, hc, q⟩
theorem er_add {i j : Int} : Er K (rI0 fun i j => .int (i + j)) C (pD K (.int i)) (pD K (.int j)) (pD K (.int (i + j))) C := er_I0i
theorem er_sub {i j : Int} : Er K (rI0 fun i j => .int (i - j)) C (pD K (.int i)) (pD K (.int j)) (pD K (.int (i - j))) C := er_I0i
theorem er_lt {i j : Int} : Er K (rI0 fun i j => .bl (decide (i < j))) C (pD K (.int i)) (pD K (.int j)) (pD K (.bool (decide (i < j)))) C := er_I0b
theorem er_le {i j : Int} : Er K (rI0 fun i j => .bl (decide (i ≤ j))) C (pD K (.int i)) (pD K (.int j)) (pD K (.bool (decide (i ≤ j)))) C := er_I0b
theorem er_gt {i j : Int} : Er K (rI0 fun i j => .bl (decide (j < i))) C (pD K (.int i)) (pD K (.int j)) (pD K (.bool (decide (j < i)))) C := er_I0b
theorem er_ge {i j : Int} : Er K (rI0 fun i j => .bl (decide (j ≤ i))) C (pD K (.int i)) (pD K (.int j)) (pD K (.bool (decide (j ≤ i)))) C := er_I0b
theorem er_mul {i j : Int} (hc : CMul i j) : Er K (rI CMul fun i j => .int (i * j)) C (pD K (.int i)) (pD K (.int j)) (pD K (.int (i * j))) C := er_Ii hc
theorem er_mod {i j : Int} (hc : 0 < j) : Er K (rI (fun _ j => 0 < j) fun i j => .int (i % j)) C (pD K (.int i)) (pD K (.int j)) (pD K (.int (i % j))) C := er_Ii (Cn := fun _ j => 0 < j) hc
theorem er_div {i j : Int} (hc : CDiv i j) : Er K (rI CDiv fun i j => .int (i / j)) C (pD K (.int i)) (pD K (.int j)) (pD K (.int (i / j))) C := er_Ii hc
theorem er_divW {i j : Int} (hc : CDivW i j) : Er K (rI CDivW fun i j => .int (i / j)) C (pD K (.int i)) (pD K (.int j)) (pD K (.int (i / j))) C := er_Ii hc
theorem er_pow {i j : Int} (hc : CPow i j) : Er K (rI CPow fun i j => .int (i ^ j.toNat)) C (pD K (.int i)) (pD K (.int j)) (pD K (.int (i ^ j.toNat))) C := er_Ii hc
theorem er_eqI {i j : Int} : Er K rEq C (pD K (.int i)) (pD K (.int j)) (pD K (.bool (decide (i = j)))) C :=
  er_scal (fun _ _ => d_int) (fun _ _ => d_int) (fun _ => .bl _) fun H Q q => ⟨rfl, by
    have : decide (V.int i = V.int j) = decide (i = j) := by simp
    rw [this]; exact q⟩
theorem er_neI {i j : Int} : Er K rNe C (pD K (.int i)) (pD K (.int j)) (pD K (.bool (!decide (i = j)))) C :=
  er_scal (fun _ _ => d_int) (fun _ _ => d_int) (fun _ => .bl _) fun H Q q => ⟨rfl, by
    have : decide (V.int i = V.int j) = decide (i = j) := by simp
    rw [this]; exact q⟩
theorem er_eqS {i j : Str} : Er K rEq C (pD K (.str i)) (pD K (.str j)) (pD K (.bool (decide (i = j)))) C :=
  er_scal (fun _ _ => d_str) (fun _ _ => d_str) (fun _ => .bl _) fun H Q q => ⟨rfl, by
    have : decide (V.str i = V.str j) = decide (i = j) := by simp
    rw [this]; exact q⟩
theorem er_neS {i j : Str} : Er K rNe C (pD K (.str i)) (pD K (.str j)) (pD K (.bool (!decide (i = j)))) C :=
  er_scal (fun _ _ => d_str) (fun _ _ => d_str) (fun _ => .bl _) fun H Q q => ⟨rfl, by
    have : decide (V.str i = V.str j) = decide (i = j) := by simp
    rw [this]; exact q⟩
theorem er_eqB {i j : Bool} : Er K rEq C (pD K (.bool i)) (pD K (.bool j)) (pD K (.bool (decide (i = j)))) C :=
  er_scal (fun _ _ => d_bl) (fun _ _ => d_bl) (fun _ => .bl _) fun H Q q => ⟨rfl, by
    have : decide (V.bl i = V.bl j) = decide (i = j) := by simp
    rw [this]; exact q⟩
theorem er_neB {i j : Bool} : Er K rNe C (pD K (.bool i)) (pD K (.bool j)) (pD K (.bool (!decide (i = j)))) C :=
  er_scal (fun _ _ => d_bl) (fun _ _ => d_bl) (fun _ => .bl _) fun H Q q => ⟨rfl, by
    have : decide (V.bl i = V.bl j) = decide (i = j) := by simp
    rw [this]; exact q⟩
/-! subscripts -/
theorem atI_dp {M : Hp} {vs : List V} {ds : List PyData} {i : Int} {d : PyData} (h : DpAll K M vs ds) (e : atI ds i = some d) : ∃ v, atI vs i = some v ∧ Dp K M v d := by
  unfold atI at e ⊢
  rw [dpAll_len h]
  cases q : ixN ds.length i with
  | none => rw [q] at e; cases e
  | some j =>
    rw [q] at e
    exact dpAll_get h e
theorem atI_mem {ds : List PyData} {i : Int} (h0 : 0 ≤ i) (h1 : i < ds.length) : ∃ d, d ∈ ds ∧ atI ds i = some d := by
  have h2 : i.toNat < ds.length := by omega
  refine ⟨ds[i.toNat], List.getElem_mem h2, ?_⟩
  have e : ((i.toNat : Nat) : Int) = i := by omega
  have q : atI ds ((i.toNat : Nat) : Int) = some ds[i.toNat] := atI_nat (j := i.toNat) (by simp)
  rw [e] at q
  exact q
theorem er_ixT {ds : List PyData} {i : Int} {d : PyData} (e : atI ds i = some d) : Er K (rIxT K) C (pD K (.tuple ds)) (pD K (.int i)) (pD K d) C := fun x y H M Q k hx hy z => by
  obtain ⟨a, xs, rfl, h1, h2⟩ := d_tup hx
  have := d_int hy; subst this
  obtain ⟨v, q1, q2⟩ := atI_dp h2 e
  exact ⟨a, xs, i, v, rfl, rfl, sqT_mono k.fz h1, q1, z v H M (Same.refl M) k q2⟩
theorem er_ixL {ds : List PyData} {i : Int} {d : PyData} (e : atI ds i = some d) : Er K (rIxL K) C (pD K (.list ds)) (pD K (.int i)) (pD K d) C := fun x y H M Q k hx hy z => by
  obtain ⟨a, xs, rfl, h1, h2⟩ := d_lst hx
  have := d_int hy; subst this
  obtain ⟨v, q1, q2⟩ := atI_dp h2 e
  exact ⟨a, xs, i, v, rfl, rfl, k.fz.seq h1, q1, z v H M (Same.refl M) k q2⟩
/-- a cell that is a list of data -/
theorem Ok.lst {M H : Hp} {a : Addr} {ds : List PyData} (k : Ok K M C H) (h : C a = some (.lst ds)) : ∃ xs, H a = some (.lst xs) ∧ DpAll K M xs ds := by
  obtain ⟨_, o, h1, h2⟩ := k.cs a _ h
  cases o <;> first | exact False.elim h2 | exact ⟨_, h1, h2⟩
theorem Ok.dic {M H : Hp} {a : Addr} {kds : List (Key × PyData)} (k : Ok K M C H) (h : C a = some (.dic kds)) : ∃ kvs, H a = some (.dK kvs) ∧ DicOk K M kds kvs := by
  obtain ⟨_, o, h1, h2⟩ := k.cs a _ h
  cases o <;> first | exact False.elim h2 | exact ⟨_, h1, h2⟩
theorem er_ixC {a : Addr} {ds : List PyData} {i : Int} {d : PyData} (h : C a = some (.lst ds)) (e : atI ds i = some d) : Er K (rIxL K) C (pRef a) (pD K (.int i)) (pD K d) C := fun x y H M Q k hx hy z => by
  obtain ⟨xs, h1, h2⟩ := k.lst h
  have := d_int hy; subst this
  have hx' : x = .ref a := hx
  subst hx'
  obtain ⟨v, q1, q2⟩ := atI_dp h2 e
  exact ⟨a, xs, i, v, rfl, rfl, .inl (.inl h1), q1, z v H M (Same.refl M) k q2⟩
/-! tests -/
theorem et_B {t : TE} {b : Bool} (h : Ec K t ρ C (pD K (.bool b)) C') : Et K (tB t) ρ C b C' := fun σ H M Q e k z => h σ H M _ e k fun v H' M' s k' hv => ⟨b, d_bl hv, z H' M' s k'⟩
theorem et_test {t : TE} {b : Bool} (h : Ec K t ρ C (pD K (.bool b)) C') : Et K (tTest t) ρ C b C' := fun σ H M Q e k z => h σ H M _ e k fun v H' M' s k' hv => ⟨b, d_bl hv, z H' M' s k'⟩
theorem et_and {t u : TT} {a b : Bool} (h1 : Et K t ρ C a C1) (h2 : a = true → Et K u ρ C1 b C1) : Et K (tAnd t u) ρ C (a && b) C1 := fun σ H M Q e k z => h1 σ H M _ e k fun H1 M1 s k1 => by
  cases a with
  | true => rw [if_pos rfl]; exact h2 rfl σ H1 M1 Q (e.mono s) k1 fun H2 M2 s2 k2 => z H2 M2 (s.trans s2) k2
  | false => rw [if_neg Bool.false_ne_true]; exact z H1 M1 s k1
theorem et_or {t u : TT} {a b : Bool} (h1 : Et K t ρ C a C1) (h2 : a = false → Et K u ρ C1 b C1) : Et K (tOr t u) ρ C (a || b) C1 := fun σ H M Q e k z => h1 σ H M _ e k fun H1 M1 s k1 => by
  cases a with
  | false => rw [if_neg Bool.false_ne_true]; exact h2 rfl σ H1 M1 Q (e.mono s) k1 fun H2 M2 s2 k2 => z H2 M2 (s.trans s2) k2
  | true => rw [if_pos rfl]; exact z H1 M1 s k1
theorem et_not {t : TT} {a : Bool} (h : Et K t ρ C a C1) : Et K (tNot t) ρ C (!a) C1 := fun σ H M Q e k z => h σ H M _ e k fun H1 M1 s k1 => z H1 M1 s k1
theorem ec_andV {a b : Bool} (h1 : Ec K ta ρ C (pD K (.bool a)) C1) (h2 : a = true → Ec K tb ρ C1 (pD K (.bool b)) C1) : Ec K (tAndV ta tb) ρ C (pD K (.bool (a && b))) C1 := fun σ H M Q e k z => h1 σ H M _ e k fun v H1 M1 s k1 hv => ⟨a, d_bl hv, by
  cases a with
  | true => rw [if_pos rfl]; exact h2 rfl σ H1 M1 Q (e.mono s) k1 fun v2 H2 M2 s2 k2 hv2 => z v2 H2 M2 (s.trans s2) k2 hv2
  | false => rw [if_neg Bool.false_ne_true]; exact z _ H1 M1 s k1 (.bl _)⟩
theorem ec_orV {a b : Bool} (h1 : Ec K ta ρ C (pD K (.bool a)) C1) (h2 : a = false → Ec K tb ρ C1 (pD K (.bool b)) C1) : Ec K (tOrV ta tb) ρ C (pD K (.bool (a || b))) C1 := fun σ H M Q e k z => h1 σ H M _ e k fun v H1 M1 s k1 hv => ⟨a, d_bl hv, by
  cases a with
  | false => rw [if_neg Bool.false_ne_true]; exact h2 rfl σ H1 M1 Q (e.mono s) k1 fun v2 H2 M2 s2 k2 hv2 => z v2 H2 M2 (s.trans s2) k2 hv2
  | true => rw [if_pos rfl]; exact z _ H1 M1 s k1 (.bl _)⟩
theorem ec_notV {a : Bool} (h1 : Ec K ta ρ C (pD K (.bool a)) C1) : Ec K (tNotV ta) ρ C (pD K (.bool (!a))) C1 := fun σ H M Q e k z => h1 σ H M _ e k fun v H1 M1 s k1 hv => ⟨a, d_bl hv, z _ H1 M1 s k1 (.bl _)⟩
theorem ec_ifE {t : TT} {b : Bool} (h : Et K t ρ C b C1) (h1 : b = true → Ec K ta ρ C1 p C2) (h2 : b = false → Ec K tb ρ C1 p C2) : Ec K (tIf t ta tb) ρ C p C2 := fun σ H M Q e k z => h σ H M _ e k fun H1 M1 s k1 => by
  cases b with
  | true => rw [if_pos rfl]; exact h1 rfl σ H1 M1 Q (e.mono s) k1 fun v2 H2 M2 s2 k2 hv2 => z v2 H2 M2 (s.trans s2) k2 hv2
  | false => rw [if_neg Bool.false_ne_true]; exact h2 rfl σ H1 M1 Q (e.mono s) k1 fun v2 H2 M2 s2 k2 hv2 => z v2 H2 M2 (s.trans s2) k2 hv2
end

section
variable {K : PySem.W.Frag} {ta tb tc : TE} {ρ : En} {C C1 C2 : Cs} {p q s : Pd}
/-- a < b < c -/
theorem ec_chain {r r' : R2} {a b : Bool} (ha : Ec K ta ρ C p C1) (hb : Ec K tb ρ C1 q C2) (h1 : Er K r C2 p q (pD K (.bool a)) C2) (hc : Ec K tc ρ C2 s C2) (h2 : Er K r' C2 q s (pD K (.bool b)) C2) : Ec K (tChain r r' ta tb tc) ρ C (pD K (.bool (a && b))) C2 := fun σ H M Q e k z =>
  ha σ H M _ e k fun x H1 M1 e1 k1 hx => hb σ H1 M1 _ (e.mono e1) k1 fun y H2 M2 e2 k2 hy => h1 x y H2 M2 _ k2 (p.mono e2 hx) hy fun v H3 M3 e3 k3 hv => by
    have := d_bl hv; subst this
    refine ⟨a, rfl, ?_⟩
    cases a with
    | true =>
      rw [if_pos rfl]
      refine hc σ H3 M3 _ (((e.mono e1).mono e2).mono e3) k3 fun u H4 M4 e4 k4 hu => h2 y u H4 M4 _ k4 (q.mono e4 (q.mono e3 hy)) hu fun w H5 M5 e5 k5 hw => ?_
      exact z w H5 M5 ((((e1.trans e2).trans e3).trans e4).trans e5) k5 hw
    | false =>
      rw [if_neg Bool.false_ne_true]
      exact z _ H3 M3 ((e1.trans e2).trans e3) k3 (.bl _)
end

/-! ### statements -/
def Ex (K : PySem.W.Frag) (M0 : Hp) (t : TS) (D : Ends) (ρ : En) (C : Cs) : Prop := ∀ (σ : L2.St) (H M : Hp), Same M0 M → EnvOk M ρ σ → Ok K M C H → t D σ H
def Nx (K : PySem.W.Frag) (M0 : Hp) (N : L2.St → Hp → Prop) (ρ : En) (C : Cs) : Prop := ∀ (σ : L2.St) (H M : Hp), Same M0 M → EnvOk M ρ σ → Ok K M C H → N σ H
def Rt (K : PySem.W.Frag) (M0 : Hp) (R : VK) (p : Pd) (C : Cs) : Prop := ∀ (v : V) (H M : Hp), Same M0 M → Ok K M C H → p.p M v → R v H
def RtW (K : PySem.W.Frag) (M0 : Hp) (R : VK) (c : Cell) (C : Cs) : Prop := ∀ (a : Addr) (H M : Hp), Same M0 M → C a = none → Ok K M (updC C a c) H → R (.ref a) H
section
variable {K : PySem.W.Frag} {M0 : Hp} {t u : TS} {te : TE} {D : Ends} {ρ ρ' : En} {C C1 C2 C' : Cs} {p : Pd} {c : Cell}
theorem Nx.of (h : Ex K M0 t D ρ C) : Nx K M0 (t D) ρ C := h
theorem ex_seq (h : Ex K M0 t { D with nx := u D } ρ C) : Ex K M0 (tSeq t u) D ρ C := h
theorem ex_next (h : Nx K M0 D.nx ρ C) : Ex K M0 tNext D ρ C := h
theorem ex_break (h : Nx K M0 D.bk ρ C) : Ex K M0 tBreak D ρ C := h
theorem ex_cont (h : Nx K M0 D.ct ρ C) : Ex K M0 tCont D ρ C := h
/-- fewer facts -/
theorem Ex.weak (h : Ex K M0 t D ρ' C') (he : ∀ M σ, EnvOk M ρ σ → EnvOk M ρ' σ) (hc : ∀ a c, C' a = some c → C a = some c) : Ex K M0 t D ρ C := fun σ H M s e k => h σ H M s (he M σ e) (k.less hc)
theorem Nx.weak {N : L2.St → Hp → Prop} (h : Nx K M0 N ρ' C') (he : ∀ M σ, EnvOk M ρ σ → EnvOk M ρ' σ) (hc : ∀ a c, C' a = some c → C a = some c) : Nx K M0 N ρ C := fun σ H M s e k => h σ H M s (he M σ e) (k.less hc)
theorem eg_name {i : Nat} : Eg K (gName i) ρ C p (ρ.set i (some p)) C := fun v σ H M Q e k hv z => z _ H M (Same.refl M) (e.set hv i) k
theorem ex_asgG {g : TG} (h : Ec K te ρ C p C1) (hg : Eg K g ρ C1 p ρ' C2) (k : Nx K M0 D.nx ρ' C2) : Ex K M0 (tAsg te g) D ρ C := fun σ H M s e o =>
  h σ H M _ e o fun v H1 M1 s1 o1 h1 => hg v σ H1 M1 _ (e.mono s1) o1 h1 fun σ' H2 M2 s2 e2 o2 => k σ' H2 M2 ((s.trans s1).trans s2) e2 o2
theorem ex_asg {i : Nat} (h : Ec K te ρ C p C1) (k : Nx K M0 D.nx (ρ.set i (some p)) C1) : Ex K M0 (tAsg te (gName i)) D ρ C := ex_asgG h eg_name k
theorem ex_asgW {i : Nat} (h : Ew K te ρ C c C1) (k : ∀ a, C1 a = none → Nx K M0 D.nx (ρ.set i (some (pRef a))) (updC C1 a c)) : Ex K M0 (tAsg te (gName i)) D ρ C := fun σ H M s e o =>
  h σ H M _ e o fun a H1 M1 s1 n1 o1 => k a n1 _ H1 M1 (s.trans s1) ((e.mono s1).set (show (pRef a).p M1 (.ref a) from rfl) i) o1
theorem ex_drop (h : Ec K te ρ C p C1) (k : Nx K M0 D.nx ρ C1) : Ex K M0 (tDrop te) D ρ C := fun σ H M s e o =>
  h σ H M _ e o fun v H1 M1 s1 o1 h1 => k σ H1 M1 (s.trans s1) (e.mono s1) o1
theorem ex_ret (h : Ec K te ρ C p C1) (k : Rt K M0 D.rt p C1) : Ex K M0 (tRet te) D ρ C := fun σ H M s e o =>
  h σ H M _ e o fun v H1 M1 s1 o1 h1 => k v H1 M1 (s.trans s1) o1 h1
theorem ex_retW (h : Ew K te ρ C c C1) (k : RtW K M0 D.rt c C1) : Ex K M0 (tRet te) D ρ C := fun σ H M s e o =>
  h σ H M _ e o fun v H1 M1 s1 n1 o1 => k v H1 M1 (s.trans s1) n1 o1
theorem ex_if {tc : TT} {b : Bool} (h : Et K tc ρ C b C1) (h1 : b = true → Ex K M0 t D ρ C1) (h2 : b = false → Ex K M0 u D ρ C1) : Ex K M0 (tIfS tc t u) D ρ C := fun σ H M s e o =>
  h σ H M _ e o fun H1 M1 s1 o1 => by
    cases b with
    | true => rw [if_pos rfl]; exact h1 rfl σ H1 M1 (s.trans s1) (e.mono s1) o1
    | false => rw [if_neg Bool.false_ne_true]; exact h2 rfl σ H1 M1 (s.trans s1) (e.mono s1) o1
theorem ex_aug {i : Nat} {ti : TIp} {q s' : Pd} (hx : ρ[i]? = some (some p)) (h : Ec K te ρ C q C1) (hr : Er K ti C1 p q s' C2) (k : Nx K M0 D.nx (ρ.set i (some s')) C2) : Ex K M0 (tAug i te ti) D ρ C := fun σ H M s e o => by
  obtain ⟨x, h1, h2⟩ := e.get hx
  refine ⟨x, h1, h σ H M _ e o fun y H1 M1 s1 o1 hy => hr x y H1 M1 _ o1 (p.mono s1 h2) hy fun z H2 M2 s2 o2 hz => ?_⟩
  exact k _ H2 M2 ((s.trans s1).trans s2) (((e.mono s1).mono s2).set hz i) o2
/-! loops -/
/-- what is walked: n turns, the i-th item; G holds of the cells while it goes -/
def Ei (K : PySem.W.Frag) (wi : TI) (ρ : En) (C : Cs) (n : Nat) (item : Nat → Pd) (C' : Cs) (G : Cs → Prop) : Prop := ∀ (σ : L2.St) (H M : Hp) (R : It → Hp → Prop), EnvOk M ρ σ → Ok K M C H →
  (∀ J H' M', Same M M' → Ok K M' C' H' →
    (∀ C2 H2 M2, Same M' M2 → Ok K M2 C2 H2 → G C2 → J.stop n H2 ∧ ∀ i, i < n → J.go i H2 ∧ ∀ x H3, J.yld i H2 x H3 → ∃ M3, Same M2 M3 ∧ Ok K M3 C2 H3 ∧ (item i).p M3 x) → R J H') → wi σ H R
/-- the state behind a turn -/
def NI (K : PySem.W.Frag) (M0 : Hp) (I : En → Cs → Prop) : L2.St → Hp → Prop := fun σ H => ∃ ρ C M, I ρ C ∧ Same M0 M ∧ EnvOk M ρ σ ∧ Ok K M C H
theorem nx_I {I : En → Cs → Prop} (h : I ρ C) : Nx K M0 (NI K M0 I) ρ C := fun σ H M s e o => ⟨ρ, C, M, h, s, e, o⟩
theorem Rt.up {M1 : Hp} {R : VK} (s : Same M0 M1) (h : Rt K M0 R p C) : Rt K M1 R p C := fun v H M s1 o hv => h v H M (s.trans s1) o hv
theorem RtW.up {M1 : Hp} {R : VK} (s : Same M0 M1) (h : RtW K M0 R c C) : RtW K M1 R c C := fun v H M s1 n o => h v H M (s.trans s1) n o
theorem Nx.up {M1 : Hp} {N : L2.St → Hp → Prop} (s : Same M0 M1) (h : Nx K M0 N ρ C) : Nx K M1 N ρ C := fun σ H M s1 e o => h σ H M (s.trans s1) e o
theorem Ex.up {M1 : Hp} (s : Same M0 M1) (h : Ex K M0 t D ρ C) : Ex K M1 t D ρ C := fun σ H M s1 e o => h σ H M (s.trans s1) e o
theorem ex_for {wi : TI} {g : TG} {tb : TS} {n : Nat} {item : Nat → Pd} {G : Cs → Prop} (hi : Ei K wi ρ C n item C1 G) (I : Nat → En → Cs → Prop) {ρ0 : En} {C0 : Cs} (he : EnvLe ρ ρ0) (hc : Sub C0 C1) (h0 : I 0 ρ0 C0) (hG : ∀ i ρ C, i ≤ n → I i ρ C → G C)
    (turn : ∀ M1, Same M0 M1 → ∀ i ρ C, i < n → I i ρ C → ∃ ρ2 C2, Eg K g ρ C (item i) ρ2 C2 ∧ Ex K M1 tb { D with nx := NI K M1 (I (i + 1)), ct := NI K M1 (I (i + 1)), bk := D.nx } ρ2 C2)
    (done : ∀ ρ C, I n ρ C → Nx K M0 D.nx ρ C) : Ex K M0 (tFor wi g tb) D ρ C := fun σ H M s e o => by
  refine hi σ H M _ e o fun J H1 M1 s1 o1 hw => ?_
  refine ⟨fun i m σ H => m = n - i ∧ i ≤ n ∧ NI K M1 (I i) σ H, ⟨n, by simp, Nat.zero_le _, ρ0, C0, M1, h0, Same.refl _, he _ _ (e.mono s1), o1.less hc⟩, ?_⟩
  rintro i m σ H ⟨rfl, hin, ρ2, C2, M2, hI, s12, e2, o2⟩
  obtain ⟨w1, w2⟩ := hw C2 H M2 s12 o2 (hG i ρ2 C2 hin hI)
  by_cases hlt : i < n
  · obtain ⟨w3, w4⟩ := w2 i hlt
    refine .inr ⟨w3, NI K M1 (I (i + 1)), fun σ' H' h => ⟨n - (i + 1), by omega, rfl, hlt, h⟩, fun x H' y => ?_⟩
    obtain ⟨M3, s3, o3, hx⟩ := w4 x H' y
    obtain ⟨ρ4, C4, hg, hb⟩ := turn M1 (s.trans s1) i ρ2 C2 hlt hI
    exact hg x σ H' M3 _ (e2.mono s3) o3 hx fun σ' H4 M4 s4 e4 o4 => hb σ' H4 M4 ((s12.trans s3).trans s4) e4 o4
  · have e' : i = n := by omega
    subst e'
    exact .inl ⟨w1, done ρ2 C2 hI σ H M2 ((s.trans s1).trans s12) e2 o2⟩
theorem ex_while {tc : TT} {tb : TS} (I : Nat → En → Cs → Prop) (m : Nat) (h0 : I m ρ C)
    (turn : ∀ m ρ C, I m ρ C → ∃ b C1, Et K tc ρ C b C1 ∧ (b = true → ∃ I' : En → Cs → Prop, (∀ ρ C, I' ρ C → ∃ m', m' < m ∧ I m' ρ C) ∧ Ex K M0 tb { D with nx := NI K M0 I', ct := NI K M0 I', bk := D.nx } ρ C1) ∧ (b = false → Nx K M0 D.nx ρ C1)) : Ex K M0 (tWhile tc tb) D ρ C := fun σ H M s e o => by
  refine ⟨fun m σ H => NI K M0 (I m) σ H, ⟨m, ρ, C, M, h0, s, e, o⟩, ?_⟩
  rintro m σ H ⟨ρ2, C2, M2, hI, s2, e2, o2⟩
  obtain ⟨b, C3, h1, h2, h3⟩ := turn m ρ2 C2 hI
  refine h1 σ H M2 _ e2 o2 fun H3 M3 s3 o3 => ?_
  cases b with
  | true =>
    rw [if_pos rfl]
    obtain ⟨I', h4, h5⟩ := h2 rfl
    refine ⟨NI K M0 I', fun σ' H' ⟨ρ', C', M', q1, q2, q3, q4⟩ => ?_, h5 σ H3 M3 (s2.trans s3) (e2.mono s3) o3⟩
    obtain ⟨m', l, q⟩ := h4 ρ' C' q1
    exact ⟨m', l, ρ', C', M', q, q2, q3, q4⟩
  | false =>
    rw [if_neg Bool.false_ne_true]
    exact h3 rfl σ H3 M3 (s2.trans s3) (e2.mono s3) o3
end

/-! ### promises -/
/-- ghost g: arguments A g, pre of the cells; the answer r g, the cells eff g C -/
def spF {γ : Type} (K : PySem.W.Frag) (A : γ → List Pd) (pre : γ → Cs → Prop) (r : γ → Pd) (eff : γ → Cs → Cs) : Sp := fun vs H Q _ => ∃ (g : γ) (M : Hp) (C : Cs), Ok K M C H ∧ AllP M (A g) vs ∧ pre g C ∧ Rt K M Q (r g) (eff g C)
/-- the answer is a new cell c g -/
def spW {γ : Type} (K : PySem.W.Frag) (A : γ → List Pd) (pre : γ → Cs → Prop) (c : γ → Cell) (eff : γ → Cs → Cs) : Sp := fun vs H Q _ => ∃ (g : γ) (M : Hp) (C : Cs), Ok K M C H ∧ AllP M (A g) vs ∧ pre g C ∧ RtW K M Q (c g) (eff g C)
structure Cal (P : Program) (w : World) (K : PySem.W.Frag) (mg : Str → Option Value) (base : Heap) (CX : CXT) (x : Str) (k : Nat) (ps : List Str) (sp : Sp) (f : Addr) (fd : FuncData) : Prop where
  G : FnOk P w K mg base CX k f fd ps sp
  g : mg x = some (.ref f)
  kp : PySem.W.keepIn K (.ref f) = true
  b : Binds K fd ps []
/-- a def as it stands: its text, its name, its binding -/
structure Def (K : PySem.W.Frag) (mg : Str → Option Value) (x : Str) (st : Stmt) (ps : List Str) (f : Addr) (fd : FuncData) : Prop where
  F : Fun K x x st f fd
  g : mg x = some (.ref f)
  b : Binds K fd ps []
section
variable {P : Program} {w : World} {K : PySem.W.Frag} {mg : Str → Option Value} {base : Heap} {γ : Type} {A : γ → List Pd} {pre : γ → Cs → Prop} {r : γ → Pd} {c : γ → Cell} {eff : γ → Cs → Cs} {ρ : En} {C C1 : Cs} {ta : TA} {E : XK}
theorem ec_call {ps : List Pd} (g : γ) (ha : Ea K ta ρ C (A g) C1) (hp : pre g C1) : Ec K (tCall (spF K A pre r eff) [] E ta) ρ C (r g) (eff g C1) := fun σ H M Q e k z =>
  ha σ H M _ e k fun vs H1 M1 e1 k1 h1 => by
    rw [List.append_nil]
    exact ⟨g, M1, C1, k1, h1, hp, fun v H2 M2 s2 k2 hv => z v H2 M2 (e1.trans s2) k2 hv⟩
theorem ew_call (g : γ) (ha : Ea K ta ρ C (A g) C1) (hp : pre g C1) : Ew K (tCall (spW K A pre c eff) [] E ta) ρ C (c g) (eff g C1) := fun σ H M Q e k z =>
  ha σ H M _ e k fun vs H1 M1 e1 k1 h1 => by
    rw [List.append_nil]
    exact ⟨g, M1, C1, k1, h1, hp, fun v H2 M2 s2 n2 k2 => z v H2 M2 (e1.trans s2) n2 k2⟩
theorem env_start {M : Hp} {N ps : List Str} {pds : List Pd} {vs : List V} (h : AllP M pds vs) (hl : pds.length = ps.length) : EnvOk M (pds.map some ++ List.replicate (N.length - ps.length) none) (L2.start N vs) := by
  unfold L2.start
  rw [allP_len h, hl]
  exact EnvOk.start _ h
theorem okF {x qual : Str} {st : Stmt} {f : Addr} {fd : FuncData} {N ps : List Str} {k : Nat} (F : Fun K x qual st f fd) (S : FnScope N ps (defScope st)) (hl : ∀ g, (A g).length = ps.length)
    (body : ∀ (cdv : Value) (Ar : Around) (outer : List Env) (s : Shared) (H : Hp) (E : XK), Room k (Ar.deeper (envOfC qual (defScope st) s.heap.objs.size f cdv)) →
      ∃ t, PSs (cxOf CX0 P w K mg base N qual (defScope st) f cdv Ar outer s H E).nox (defBody st) t ∧
        ∀ (g : γ) (C : Cs) (M0 : Hp) (R : VK), pre g C → Rt K M0 R (r g) (eff g C) → Ex K M0 t { nx := fun _ H' => R .non H', rt := R } ((A g).map some ++ List.replicate (N.length - ps.length) none) C) :
    FnOk P w K mg base CX0 (k + 1) f fd ps (spF K A pre r eff) := by
  refine F.ok S (fun vs H Q E h => ?_) (fun cdv Ar outer s H vs Q E hr h => ?_)
  · obtain ⟨g, M, C, _, h2, _⟩ := h
    rw [allP_len h2, hl]
  · obtain ⟨g, M, C, h1, h2, h3, h4⟩ := h
    obtain ⟨t, d, q⟩ := body cdv Ar outer s H E hr
    exact ⟨t, d, q g C M Q h3 h4 _ H M (Same.refl M) (env_start h2 (hl g)) h1⟩
theorem okW {x qual : Str} {st : Stmt} {f : Addr} {fd : FuncData} {N ps : List Str} {k : Nat} (F : Fun K x qual st f fd) (S : FnScope N ps (defScope st)) (hl : ∀ g, (A g).length = ps.length)
    (body : ∀ (cdv : Value) (Ar : Around) (outer : List Env) (s : Shared) (H : Hp) (E : XK), Room k (Ar.deeper (envOfC qual (defScope st) s.heap.objs.size f cdv)) →
      ∃ t, PSs (cxOf CX0 P w K mg base N qual (defScope st) f cdv Ar outer s H E).nox (defBody st) t ∧
        ∀ (g : γ) (C : Cs) (M0 : Hp) (R : VK), pre g C → RtW K M0 R (c g) (eff g C) → Ex K M0 t { nx := fun _ H' => R .non H', rt := R } ((A g).map some ++ List.replicate (N.length - ps.length) none) C) :
    FnOk P w K mg base CX0 (k + 1) f fd ps (spW K A pre c eff) := by
  refine F.ok S (fun vs H Q E h => ?_) (fun cdv Ar outer s H vs Q E hr h => ?_)
  · obtain ⟨g, M, C, _, h2, _⟩ := h
    rw [allP_len h2, hl]
  · obtain ⟨g, M, C, h1, h2, h3, h4⟩ := h
    obtain ⟨t, d, q⟩ := body cdv Ar outer s H E hr
    exact ⟨t, d, q g C M Q h3 h4 _ H M (Same.refl M) (env_start h2 (hl g)) h1⟩
end
/-! ### what is walked -/
/-- t * 1 is t -/
theorem tuple_mul1 (l : Addr) (items : Array Value) (n : Nat) (dd : Option Addr) (sl : Array (Option Value)) (u : Tok)  :
    Meets (Builtin.«tuple.__mul__» ⟨[.ref l, .int 1 u], []⟩) (fun _ R s => s.heap.get? l = some { cls := .type "tuple", dict := dd, data := .seq items n, slots := sl } ∧ R (.ok (.ret (Value.ref l))) s) :=
  .of_wp fun prog w A R s h => by
    obtain ⟨hp, g, d, tk, os⟩ := s
    obtain ⟨hl, h⟩ := h
    have f1 := AutoSeq1.idx_int
    wp_walk using wpAny_loadPart' hl
    exact ⟨_, rfl, h⟩
theorem tuple_mul0 (l : Addr) (items : Array Value) (n : Nat) (dd : Option Addr) (sl : Array (Option Value)) (x : Int) (u : Tok) (c0 : (decide (x < -(2 ^ 63)) || decide (x ≥ 2 ^ 63)) = false) (c1 : (items.isEmpty || x == 1) = false) (c2 : (decide (x ≤ 0) || items.isEmpty) = true):
    Meets (Builtin.«tuple.__mul__» ⟨[.ref l, .int x u], []⟩) (fun _ R s => s.heap.get? l = some { cls := .type "tuple", dict := dd, data := .seq items n, slots := sl } ∧
      R (.ok (.ret (Value.ref s.heap.objs.size))) { s with heap := s.heap.push { cls := Value.type "tuple", data := Data.seq #[] }, toks := s.toks }) :=
  .of_wp fun prog w A R s h => by
    obtain ⟨hp, g, d, tk, os⟩ := s
    obtain ⟨hl, h⟩ := h
    have f1 := AutoSeq1.idx_int
    wp_walk using wpAny_loadPart' hl
    repeat (first
      | (refine wpAny_ite_false (decide_eq_false (by rw [c0]; exact Bool.false_ne_true)) ?_; wp_walk using wpAny_loadPart' hl)
      | (refine wpAny_ite_false (decide_eq_false (by rw [c1]; exact Bool.false_ne_true)) ?_; wp_walk using wpAny_loadPart' hl)
      | (rw [if_pos c2]; wp_walk using wpAny_loadPart' hl))
    exact ⟨_, rfl, h⟩
/-- t * k, any k of at most a thousand -/
def rRepA (K : PySem.W.Frag) : R2 := fun x y H Q => ∃ l k xs, x = .ref l ∧ y = .int k ∧ SqT K H l xs ∧ xs ≠ [] ∧ -1000 ≤ k ∧ k ≤ 1000 ∧ xs.length ≤ 1000 ∧ (k = 1 → Q (.ref l) H) ∧ (k ≠ 1 → ∀ p, H p = none → Q (.ref p) (upd H p (.tup (List.replicate k.toNat xs).flatten)))
theorem op_repA {X : Cx} : OpR X (binaryOp .Mult) (rRepA X.K) := by
  intro pins s σ H x y v u Q I rx ry h
  obtain ⟨l, k, xs, rfl, rfl, hT, hne, h1, h2, hz, q1, q⟩ := h
  by_cases hk : 2 ≤ k
  · exact op_repT pins s σ H _ _ v u Q I rx ry ⟨l, k, xs, rfl, rfl, hT, hne, hk, h2, hz, q (by omega)⟩
  cases rx
  obtain ⟨t, rfl⟩ := ry
  obtain ⟨its, r, ⟨⟨cls, dd, data, sl⟩, ho, hc, n, hd⟩, hs⟩ := I.tuple hT
  simp only at hc hd
  subst hc hd
  have hle : its.length = xs.length := r.length.symm
  have hn : its ≠ [] := fun e => hne (by
    rw [e] at hle
    exact List.eq_nil_of_length_eq_zero hle.symm)
  have hi : its.toArray.isEmpty = false := by
    cases its with
    | nil => exact absurd rfl hn
    | cons a b => rfl
  by_cases h11 : k = 1
  · subst h11
    exact wpAny_binaryOp_repeat_ref (T := "tuple") (U := "int") (by decide) ⟨_, ho, rfl⟩ (fun s' => typeIs_int s' 1 t) noFill_tuple_mul F.fills_int_mul F.slot_int_rmul repeat_tuple F.slot_int_index.lookup
      (call_meets F.slot_int_rmul (typeIs_int s 1 t) F.entry_int_rmul (F.args_int_rmul_2 _ _) (int_rmul_tuple 1 t l its.toArray n dd sl)
        ⟨ho, rfl, ⟨_, ho, rfl⟩, call_meets F.slot_tuple_mul ⟨_, ho, rfl⟩ F.entry_tuple_mul (F.args_tuple_mul_2 _ _) (tuple_mul1 l its.toArray n dd sl t) ⟨ho, .ref l, H, I, rfl, q1 rfl⟩⟩)
  · have c0 : (decide (k < -(2 ^ 63)) || decide (k ≥ 2 ^ 63)) = false := by
      rw [decide_eq_false (by omega), decide_eq_false (by omega)] <;> rfl
    have c1 : (its.toArray.isEmpty || k == 1) = false := by
      rw [hi, Bool.false_or]
      exact beq_eq_false_iff_ne.mpr h11
    have c2 : (decide (k ≤ 0) || its.toArray.isEmpty) = true := by
      rw [hi, Bool.or_false]
      exact decide_eq_true (by omega)
    have e0 : k.toNat = 0 := by omega
    have q := q h11
    rw [e0] at q
    refine wpAny_binaryOp_repeat_ref (T := "tuple") (U := "int") (by decide) ⟨_, ho, rfl⟩ (fun s' => typeIs_int s' k t) noFill_tuple_mul F.fills_int_mul F.slot_int_rmul repeat_tuple F.slot_int_index.lookup
      (call_meets F.slot_int_rmul (typeIs_int s k t) F.entry_int_rmul (F.args_int_rmul_2 _ _) (int_rmul_tuple k t l its.toArray n dd sl)
        ⟨ho, rfl, ⟨_, ho, rfl⟩, call_meets F.slot_tuple_mul ⟨_, ho, rfl⟩ F.entry_tuple_mul (F.args_tuple_mul_2 _ _) (tuple_mul0 l its.toArray n dd sl k t c0 c1 c2) ⟨ho, ?_⟩⟩)
    refine ⟨.ref s.heap.objs.size, _, I.laid (t' := s.toks) (o := .tup []) (fun b ob q => Heap.get?_push_of_some _ q) (Nat.le_refl _) ?_, rfl, q _ (I.hok.fresh (Nat.le_refl _))⟩
    exact ⟨Nat.zero_le _, [], .nil, IsTup.new _ _⟩
section
variable {K : PySem.W.Frag} {ρ : En} {C C1 : Cs} {ta : TA} {tl : TE}
theorem ei_rng1 {j : Int} (h : Ea K ta ρ C [pD K (.int j)] C1) (h0 : -(2 ^ 62) ≤ j) (h1 : j < 2 ^ 62) : Ei K (iRng1 ta) ρ C j.toNat (fun i => pD K (.int (i : Int))) C1 (fun _ => True) := fun σ H M R e k z =>
  h σ H M _ e k fun vs H1 M1 e1 k1 hv => by
    match vs, hv with
    | [v], ⟨hv, _⟩ =>
      have := d_int hv; subst this
      refine ⟨j, rfl, h0, h1, z _ H1 M1 e1 k1 fun C2 H2 M2 _ k2 _ => ⟨Nat.le_refl _, fun i hi => ⟨hi, fun x H3 y => ?_⟩⟩⟩
      obtain ⟨rfl, rfl⟩ := y
      exact ⟨M2, Same.refl _, k2, by rw [Int.zero_add]; exact Dp.int _⟩
theorem ei_rng2 {lo j : Int} (h : Ea K ta ρ C [pD K (.int lo), pD K (.int j)] C1) (h0 : -(2 ^ 62) ≤ lo) (h1 : lo < 2 ^ 62) (h2 : -(2 ^ 62) ≤ j) (h3 : j < 2 ^ 62) : Ei K (iRng2 ta) ρ C (j - lo).toNat (fun i => pD K (.int (lo + (i : Int)))) C1 (fun _ => True) := fun σ H M R e k z =>
  h σ H M _ e k fun vs H1 M1 e1 k1 hv => by
    match vs, hv with
    | [v, u], ⟨hv, hu, _⟩ =>
      have := d_int hv; subst this
      have := d_int hu; subst this
      refine ⟨lo, j, rfl, ⟨h0, h1, h2, h3⟩, z _ H1 M1 e1 k1 fun C2 H2 M2 _ k2 _ => ⟨Nat.le_refl _, fun i hi => ⟨hi, fun x H3 y => ?_⟩⟩⟩
      obtain ⟨rfl, rfl⟩ := y
      exact ⟨M2, Same.refl _, k2, Dp.int _⟩
theorem ei_list {ds : List PyData} (h : Ec K tl ρ C (pD K (.list ds)) C1) : Ei K (iList K tl) ρ C ds.length (fun i => pD K (ds.getD i .none)) C1 (fun _ => True) := fun σ H M R e k z =>
  h σ H M _ e k fun v H1 M1 e1 k1 hv => by
    obtain ⟨a, xs, rfl, q1, q2⟩ := d_lst hv
    refine ⟨a, rfl, ⟨xs, k1.fz.seq q1⟩, z _ H1 M1 e1 k1 fun C2 H2 M2 s2 k2 _ => ?_⟩
    have q3 : SqL K H2 a xs := k2.fz.seq (s2.seq q1)
    refine ⟨⟨xs, q3, by rw [dpAll_len q2]; exact Nat.le_refl _⟩, fun i hi => ⟨⟨xs, xs[i]'(by rw [dpAll_len q2]; exact hi), q3, List.getElem?_eq_getElem _⟩, fun x H3 y => ?_⟩⟩
    obtain ⟨rfl, y⟩ := y
    obtain ⟨d, e1, e2⟩ := dpAll_getV q2 (y xs q3)
    exact ⟨M2, Same.refl _, k2, by
      show Dp K M2 x (ds.getD i .none)
      rw [List.getD_eq_getElem?_getD, e1]; exact dp_mono s2 e2⟩
theorem ei_tup {ds : List PyData} (h : Ec K tl ρ C (pD K (.tuple ds)) C1) : Ei K (iTup K tl) ρ C ds.length (fun i => pD K (ds.getD i .none)) C1 (fun _ => True) := fun σ H M R e k z =>
  h σ H M _ e k fun v H1 M1 e1 k1 hv => by
    obtain ⟨a, xs, rfl, q1, q2⟩ := d_tup hv
    refine ⟨a, rfl, ⟨xs, sqT_mono k1.fz q1⟩, z _ H1 M1 e1 k1 fun C2 H2 M2 s2 k2 _ => ?_⟩
    have q3 : SqT K H2 a xs := sqT_mono k2.fz (sqT_mono s2 q1)
    refine ⟨⟨xs, q3, by rw [dpAll_len q2]; exact Nat.le_refl _⟩, fun i hi => ⟨⟨xs, xs[i]'(by rw [dpAll_len q2]; exact hi), q3, List.getElem?_eq_getElem _⟩, fun x H3 y => ?_⟩⟩
    obtain ⟨rfl, y⟩ := y
    obtain ⟨d, e1, e2⟩ := dpAll_getV q2 (y xs q3)
    exact ⟨M2, Same.refl _, k2, by
      show Dp K M2 x (ds.getD i .none)
      rw [List.getD_eq_getElem?_getD, e1]; exact dp_mono s2 e2⟩
/-- over a cell -/
theorem ei_cell {a : Addr} {ds : List PyData} (h : Ec K tl ρ C (pRef a) C1) (hc : C1 a = some (.lst ds)) : Ei K (iList K tl) ρ C ds.length (fun i => pD K (ds.getD i .none)) C1 (fun C => C a = some (.lst ds)) := fun σ H M R e k z =>
  h σ H M _ e k fun v H1 M1 e1 k1 hv => by
    have hv' : v = .ref a := hv
    subst hv'
    obtain ⟨xs, q1, _⟩ := k1.lst hc
    refine ⟨a, rfl, ⟨xs, .inl (.inl q1)⟩, z _ H1 M1 e1 k1 fun C2 H2 M2 s2 k2 g2 => ?_⟩
    obtain ⟨xs, q1, q2⟩ := k2.lst g2
    have q3 : SqL K H2 a xs := .inl (.inl q1)
    refine ⟨⟨xs, q3, by rw [dpAll_len q2]; exact Nat.le_refl _⟩, fun i hi => ⟨⟨xs, xs[i]'(by rw [dpAll_len q2]; exact hi), q3, List.getElem?_eq_getElem _⟩, fun x H3 y => ?_⟩⟩
    obtain ⟨rfl, y⟩ := y
    obtain ⟨d, e1, e2⟩ := dpAll_getV q2 (y xs q3)
    exact ⟨M2, Same.refl _, k2, by
      show Dp K M2 x (ds.getD i .none)
      rw [List.getD_eq_getElem?_getD, e1]; exact e2⟩
/-! built-ins -/
theorem ek_abs {i : Int} : Ek K (fun xs H Q => ∃ i, xs = [.int i] ∧ Q (.int (if i < 0 then -i else i)) H) C [pD K (.int i)] (pD K (.int (if i < 0 then -i else i))) C := fun xs H M Q k h z => by
  match xs, h with
  | [v], ⟨h, _⟩ => have := d_int h; subst this; exact ⟨i, rfl, z _ H M (Same.refl _) k (.int _)⟩
theorem ek_max2 {i j : Int} : Ek K (fun xs H Q => ∃ i j, xs = [.int i, .int j] ∧ Q (.int (if j > i then j else i)) H) C [pD K (.int i), pD K (.int j)] (pD K (.int (if j > i then j else i))) C := fun xs H M Q k h z => by
  match xs, h with
  | [v, u], ⟨h, h2, _⟩ => have := d_int h; subst this; have := d_int h2; subst this; exact ⟨i, j, rfl, z _ H M (Same.refl _) k (.int _)⟩
theorem ek_min2 {i j : Int} : Ek K (fun xs H Q => ∃ i j, xs = [.int i, .int j] ∧ Q (.int (if j < i then j else i)) H) C [pD K (.int i), pD K (.int j)] (pD K (.int (if j < i then j else i))) C := fun xs H M Q k h z => by
  match xs, h with
  | [v, u], ⟨h, h2, _⟩ => have := d_int h; subst this; have := d_int h2; subst this; exact ⟨i, j, rfl, z _ H M (Same.refl _) k (.int _)⟩
theorem ek_lenL {ds : List PyData} : Ek K (fun xs H Q => ∃ p ys, xs = [.ref p] ∧ (SqL K H p ys ∨ SqT K H p ys) ∧ Q (.int ys.length) H) C [pD K (.list ds)] (pD K (.int ds.length)) C := fun xs H M Q k h z => by
  match xs, h with
  | [v], ⟨h, _⟩ =>
    obtain ⟨a, ys, rfl, h1, h2⟩ := d_lst h
    exact ⟨a, ys, rfl, .inl (k.fz.seq h1), by rw [dpAll_len h2]; exact z _ H M (Same.refl _) k (.int _)⟩
theorem ek_lenT {ds : List PyData} : Ek K (fun xs H Q => ∃ p ys, xs = [.ref p] ∧ (SqL K H p ys ∨ SqT K H p ys) ∧ Q (.int ys.length) H) C [pD K (.tuple ds)] (pD K (.int ds.length)) C := fun xs H M Q k h z => by
  match xs, h with
  | [v], ⟨h, _⟩ =>
    obtain ⟨a, ys, rfl, h1, h2⟩ := d_tup h
    exact ⟨a, ys, rfl, .inr (sqT_mono k.fz h1), by rw [dpAll_len h2]; exact z _ H M (Same.refl _) k (.int _)⟩
theorem ek_lenC {a : Addr} {ds : List PyData} (hc : C a = some (.lst ds)) : Ek K (fun xs H Q => ∃ p ys, xs = [.ref p] ∧ (SqL K H p ys ∨ SqT K H p ys) ∧ Q (.int ys.length) H) C [pRef a] (pD K (.int ds.length)) C := fun xs H M Q k h z => by
  match xs, h with
  | [v], ⟨h, _⟩ =>
    have h' : v = .ref a := h
    subst h'
    obtain ⟨ys, h1, h2⟩ := k.lst hc
    exact ⟨a, ys, rfl, .inl (.inl (.inl h1)), by rw [dpAll_len h2]; exact z _ H M (Same.refl _) k (.int _)⟩
theorem ek_lenS {x : Str} (hx : x.length ≤ sizeLine) : Ek K (fun xs H Q => ∃ z, xs = [.str z] ∧ z.length ≤ sizeLine ∧ Q (.int z.length) H) C [pD K (.str x)] (pD K (.int x.length)) C := fun xs H M Q k h z => by
  match xs, h with
  | [v], ⟨h, _⟩ => have := d_str h; subst this; exact ⟨x, rfl, hx, z _ H M (Same.refl _) k (.int _)⟩
/-- isinstance(x, int) and the like: the answer by the datum's kind -/
def dTy : PyData → String
  | .none => "NoneType"
  | .bool _ => "bool"
  | .int _ => "int"
  | .str _ => "str"
  | .list _ => "list"
  | .tuple _ => "tuple"
  | .dict _ => "dict"
/-! isinstance -/
theorem ty_of {M H : Hp} (e : Same M H) {v : V} {d : PyData} (h : Dp K M v d) : TyX K H v (.type (dTy d)) := by
  cases h with
  | non => exact .base .non
  | bl b => exact .base (.bl b)
  | int i => exact .base (.int i)
  | str x => exact .base (.str x)
  | lst h _ =>
    rcases h with (h | ⟨o, h⟩) | ⟨o, its, n, h1, h2, _⟩
    · exact .base (.lst (e _ _ h))
    · exact .base (.frz (e _ _ h))
    · exact .kList h1 h2
  | tup h _ =>
    rcases h with (h | ⟨o, h⟩) | ⟨o, its, n, h1, h2, _⟩
    · exact .base (.tup (e _ _ h))
    · exact .fTuple (e _ _ h)
    · exact .kTuple h1 h2
theorem ek_isi {d : PyData} {n : String} {b : Bool} (hb : kitB (dTy d) n = some b) : Ek K (rIsi K) C [pD K d, pV (.ty n)] (pD K (.bool b)) C := fun xs H M Q k h z => by
  match xs, h with
  | [v, u], ⟨h, h2, _⟩ =>
    have h2' : u = .ty n := h2
    subst h2'
    exact ⟨v, .ty n, _, _, b, rfl, .ty n, ty_of k.fz h, kit_ty hb, z _ H M (Same.refl _) k (.bl b)⟩
def isI : PyData → Bool | .int _ => true | .bool _ => true | _ => false
def isB : PyData → Bool | .bool _ => true | _ => false
def isS : PyData → Bool | .str _ => true | _ => false
def isL : PyData → Bool | .list _ => true | _ => false
def isT : PyData → Bool | .tuple _ => true | _ => false
theorem ek_isI {d : PyData} : Ek K (rIsi K) C [pD K d, pV (.ty "int")] (pD K (.bool (isI d))) C := ek_isi (by cases d <;> (dsimp only [dTy, isI, isB, isS, isL, isT]; decide +kernel))
theorem ek_isB {d : PyData} : Ek K (rIsi K) C [pD K d, pV (.ty "bool")] (pD K (.bool (isB d))) C := ek_isi (by cases d <;> (dsimp only [dTy, isI, isB, isS, isL, isT]; decide +kernel))
theorem ek_isS {d : PyData} : Ek K (rIsi K) C [pD K d, pV (.ty "str")] (pD K (.bool (isS d))) C := ek_isi (by cases d <;> (dsimp only [dTy, isI, isB, isS, isL, isT]; decide +kernel))
theorem ek_isL {d : PyData} : Ek K (rIsi K) C [pD K d, pV (.ty "list")] (pD K (.bool (isL d))) C := ek_isi (by cases d <;> (dsimp only [dTy, isI, isB, isS, isL, isT]; decide +kernel))
theorem ek_isT {d : PyData} : Ek K (rIsi K) C [pD K d, pV (.ty "tuple")] (pD K (.bool (isT d))) C := ek_isi (by cases d <;> (dsimp only [dTy, isI, isB, isS, isL, isT]; decide +kernel))
/-! tuples -/
theorem er_catT {ds es : List PyData} (hl : ds.length + es.length ≤ sizeLine) : Er K (rCatA K) C (pD K (.tuple ds)) (pD K (.tuple es)) (pD K (.tuple (ds ++ es))) C := fun x y H M Q k hx hy z => by
  obtain ⟨a, xs, rfl, h1, h2⟩ := d_tup hx
  obtain ⟨b, ys, rfl, g1, g2⟩ := d_tup hy
  refine ⟨a, b, xs, ys, rfl, rfl, sqT_mono k.fz h1, sqT_mono k.fz g1, by rw [dpAll_len h2, dpAll_len g2]; exact hl, fun e => ?_, fun _ e => ?_, fun _ _ p hp => ?_⟩
  · subst e; cases h2; exact z _ H M (Same.refl _) k hy
  · subst e; cases g2; rw [List.append_nil] at z; exact z _ H M (Same.refl _) k hx
  · obtain ⟨s, k2⟩ := k.new (o := .tup (xs ++ ys)) hp
    exact z _ _ _ s k2 (Dp.tup (.inl (.inl upd_same)) (dpAll_mono s (dpAll_append h2 g2)))
theorem er_repT {ds : List PyData} {n : Int} (h0 : ds ≠ []) (h1 : -1000 ≤ n) (h2 : n ≤ 1000) (h3 : ds.length ≤ 1000) : Er K (rRepA K) C (pD K (.tuple ds)) (pD K (.int n)) (pD K (.tuple (List.replicate n.toNat ds).flatten)) C := fun x y H M Q k hx hy z => by
  obtain ⟨a, xs, rfl, q1, q2⟩ := d_tup hx
  have := d_int hy; subst this
  refine ⟨a, n, xs, rfl, rfl, sqT_mono k.fz q1, fun e => ?_, h1, h2, by rw [dpAll_len q2]; exact h3, fun e => ?_, fun _ p hp => ?_⟩
  · subst e; cases q2; exact h0 rfl
  · subst e
    have e2 : (List.replicate (1 : Int).toNat ds).flatten = ds := by simp
    rw [e2] at z
    exact z _ H M (Same.refl _) k hx
  · obtain ⟨s, k2⟩ := k.new (o := .tup (List.replicate n.toNat xs).flatten) hp
    exact z _ _ _ s k2 (Dp.tup (.inl (.inl upd_same)) (dpAll_mono s (dpAll_flatrep q2 _)))
theorem flat_one {α : Type} (n : Nat) (d : α) : (List.replicate n [d]).flatten = List.replicate n d := by
  induction n with
  | zero => rfl
  | succ n ih => rw [List.replicate_succ, List.flatten_cons, ih, List.replicate_succ]; rfl
/-- (d,) * n -/
theorem er_rep1 {d : PyData} {n : Int} (h1 : -1000 ≤ n) (h2 : n ≤ 1000) : Er K (rRepA K) C (pD K (.tuple [d])) (pD K (.int n)) (pD K (.tuple (List.replicate n.toNat d))) C := by
  have h := er_repT (K := K) (C := C) (ds := [d]) (n := n) (by simp) h1 h2 (by simp)
  rw [flat_one] at h
  exact h
/-! slices -/
theorem eo_none : Eo K tNoPart ρ C none C := fun σ H M Q e k z => z H M (Same.refl _) k
theorem eo_some {t : TE} {i : Int} (h : Ec K t ρ C (pD K (.int i)) C1) : Eo K (tPart t) ρ C (some i) C1 := fun σ H M Q e k z => h σ H M _ e k fun v H1 M1 s k1 hv => ⟨i, d_int hv, z H1 M1 s k1⟩
def cutP (ds : List PyData) (lo hi : Option Int) : List PyData := (ds.drop (HT.sIx ds.length 0 lo)).take (HT.sIx ds.length ds.length hi - HT.sIx ds.length 0 lo)
theorem cut_dp {M : Hp} {xs : List V} {ds : List PyData} {lo hi : Option Int} (h : DpAll K M xs ds) : DpAll K M (cutV xs lo hi) (cutP ds lo hi) := by
  unfold cutV cutP
  rw [dpAll_len h]
  exact dpAll_take _ (dpAll_drop _ h)
theorem ec_slT {te : TE} {tl th : TO} {ds : List PyData} {lo hi : Option Int} {C2 C3 : Cs} (h : Ec K te ρ C (pD K (.tuple ds)) C1) (h1 : Eo K tl ρ C1 lo C2) (h2 : Eo K th ρ C2 hi C3) : Ec K (tSl (rSlA K) te tl th) ρ C (pD K (.tuple (cutP ds lo hi))) C3 := fun σ H M Q e k z =>
  h σ H M _ e k fun v H1 M1 e1 k1 hv => h1 σ H1 M1 _ (e.mono e1) k1 fun H2 M2 e2 k2 => h2 σ H2 M2 _ ((e.mono e1).mono e2) k2 fun H3 M3 e3 k3 => by
    obtain ⟨a, xs, rfl, q1, q2⟩ := d_tup (dp_mono e3 (dp_mono e2 hv))
    refine ⟨a, xs, rfl, sqT_mono k3.fz q1, fun w => ?_, fun _ p hp => ?_⟩
    · have c : cutP ds lo hi = ds := by
        unfold cutP
        rw [dpAll_len q2] at w
        rw [w.1, w.2, List.drop_zero, Nat.sub_zero, List.take_length]
      rw [c] at z
      exact z _ H3 M3 ((e1.trans e2).trans e3) k3 (.tup q1 q2)
    · obtain ⟨s, k4⟩ := k3.new (o := .tup (cutV xs lo hi)) hp
      exact z _ _ _ (((e1.trans e2).trans e3).trans s) k4 (Dp.tup (.inl (.inl upd_same)) (dpAll_mono s (cut_dp q2)))
theorem ew_slL {te : TE} {tl th : TO} {ds : List PyData} {lo hi : Option Int} {C2 C3 : Cs} (h : Ec K te ρ C (pD K (.list ds)) C1) (h1 : Eo K tl ρ C1 lo C2) (h2 : Eo K th ρ C2 hi C3) : Ew K (tSl (rSlL K) te tl th) ρ C (.lst (cutP ds lo hi)) C3 := fun σ H M Q e k z =>
  h σ H M _ e k fun v H1 M1 e1 k1 hv => h1 σ H1 M1 _ (e.mono e1) k1 fun H2 M2 e2 k2 => h2 σ H2 M2 _ ((e.mono e1).mono e2) k2 fun H3 M3 e3 k3 => by
    obtain ⟨a, xs, rfl, q1, q2⟩ := d_lst (dp_mono e3 (dp_mono e2 hv))
    refine ⟨a, xs, rfl, k3.fz.seq q1, fun p hp => ?_⟩
    obtain ⟨s, k4⟩ := k3.cell (c := .lst (cutP ds lo hi)) (o := .lst (cutV xs lo hi)) hp (cut_dp q2)
    exact z _ _ _ ((e1.trans e2).trans e3) s k4
theorem ew_slC {te : TE} {tl th : TO} {a : Addr} {ds : List PyData} {lo hi : Option Int} {C2 C3 : Cs} (h : Ec K te ρ C (pRef a) C1) (h1 : Eo K tl ρ C1 lo C2) (h2 : Eo K th ρ C2 hi C3) (hc : C3 a = some (.lst ds)) : Ew K (tSl (rSlL K) te tl th) ρ C (.lst (cutP ds lo hi)) C3 := fun σ H M Q e k z =>
  h σ H M _ e k fun v H1 M1 e1 k1 hv => h1 σ H1 M1 _ (e.mono e1) k1 fun H2 M2 e2 k2 => h2 σ H2 M2 _ ((e.mono e1).mono e2) k2 fun H3 M3 e3 k3 => by
    have hv' : v = .ref a := hv
    subst hv'
    obtain ⟨xs, q1, q2⟩ := k3.lst hc
    refine ⟨a, xs, rfl, .inl (.inl q1), fun p hp => ?_⟩
    obtain ⟨s, k4⟩ := k3.cell (c := .lst (cutP ds lo hi)) (o := .lst (cutV xs lo hi)) hp (cut_dp q2)
    exact z _ _ _ ((e1.trans e2).trans e3) s k4
/-! data as arguments -/
def EaD (K : PySem.W.Frag) (t : TA) (ρ : En) (C : Cs) (ds : List PyData) (C' : Cs) : Prop := Ea K t ρ C (ds.map (pD K)) C'
theorem ead_nil : EaD K tNil ρ C [] C := ea_nil
theorem ead_cons {ta : TE} {tr : TA} {d : PyData} {ds : List PyData} {C2 : Cs} (ha : Ec K ta ρ C (pD K d) C1) (hr : EaD K tr ρ C1 ds C2) : EaD K (tCons ta tr) ρ C (d :: ds) C2 := ea_cons ha hr
theorem EaD.conv {ta : TA} {ds ds' : List PyData} (h : EaD K ta ρ C ds C1) (e : ds = ds') : EaD K ta ρ C ds' C1 := e ▸ h
theorem ec_tupD {ta : TA} {ds : List PyData} (h : EaD K ta ρ C ds C1) (hl : ds.length ≤ sizeLine := by exact Nat.le_of_ble_eq_true rfl) : Ec K (tTup ta) ρ C (pD K (.tuple ds)) C1 := ec_tup h hl
theorem ew_lstD {ta : TA} {ds : List PyData} (h : EaD K ta ρ C ds C1) (hl : ds.length ≤ sizeLine := by exact Nat.le_of_ble_eq_true rfl) : Ew K (tLst ta) ρ C (.lst ds) C1 := ew_lst h hl
theorem ec_lstD {ta : TA} {ds : List PyData} (h : EaD K ta ρ C ds C1) (hl : ds.length ≤ sizeLine := by exact Nat.le_of_ble_eq_true rfl) : Ec K (tLst ta) ρ C (pD K (.list ds)) C1 := ec_lst h hl
/-! stores -/
theorem ex_setL {D : Ends} {M0 : Hp} {te to ti : TE} {a : Addr} {ds : List PyData} {d : PyData} {i : Int} {j : Nat} {C2 C3 : Cs} (h : Ec K te ρ C (pD K d) C1) (ho : Ec K to ρ C1 (pRef a) C2) (hi : Ec K ti ρ C2 (pD K (.int i)) C3) (hc : C3 a = some (.lst ds)) (hj : ixN ds.length i = some j)
    (k : Nx K M0 D.nx ρ (updC C3 a (.lst (ds.set j d)))) : Ex K M0 (tAsg te (gSub to ti rSetL)) D ρ C := fun σ H M s e o =>
  h σ H M _ e o fun v H1 M1 s1 o1 h1 => ho σ H1 M1 _ (e.mono s1) o1 fun x H2 M2 s2 o2 h2 => hi σ H2 M2 _ ((e.mono s1).mono s2) o2 fun y H3 M3 s3 o3 h3 => by
    have hx : x = .ref a := h2
    have hy := d_int h3
    subst hx hy
    obtain ⟨xs, q1, q2⟩ := o3.lst hc
    refine ⟨a, xs, i, j, rfl, rfl, q1, by rw [dpAll_len q2]; exact hj, ?_⟩
    exact k σ _ M3 (((s.trans s1).trans s2).trans s3) (((e.mono s1).mono s2).mono s3) (o3.set hc (dpAll_set (dp_mono s3 (dp_mono s2 h1)) j q2))
end
/-! ### the law -/
def spLaw (K : PySem.W.Frag) : Sp := spF (γ := List Int) K (fun ns => [pD K (.list (ns.map PyData.int))]) (fun ns _ => ns.length ≤ 63 ∧ ∀ z ∈ ns, Builtin.Int.intBits z ≤ 1048576) (fun _ => pD K (.bool true)) (fun _ C => C)
theorem law_start {K : PySem.W.Frag} {H : Hp} {a : Addr} {ns : List Int} {E : XK} (hl : ns.length ≤ 63) (hb : ∀ z ∈ ns, Builtin.Int.intBits z ≤ 1048576) (hS : SqL K H a (ns.map V.int)) : spLaw K [.ref a] H (fun v _ => v = .bl true) E :=
  ⟨ns, H, fun _ => none, ⟨Same.refl _, fun a c e => nomatch e⟩, ⟨Dp.lst hS (ints_dpAll ns), trivial⟩, ⟨hl, hb⟩, fun v H' M' _ _ hv => d_bl hv⟩
section
variable {K : PySem.W.Frag} {M0 : Hp} {t : TS} {D : Ends} {ρ ρ' : En} {C C' : Cs} {N : L2.St → Hp → Prop} {I : En → Cs → Prop}
theorem ex_wk (he : EnvLe ρ ρ') (hc : Sub C' C) (h : Ex K M0 t D ρ' C') : Ex K M0 t D ρ C := h.weak he hc
theorem nx_wk (he : EnvLe ρ ρ') (hc : Sub C' C) (h : Nx K M0 N ρ' C') : Nx K M0 N ρ C := h.weak he hc
theorem nx_Iw (he : EnvLe ρ ρ') (hc : Sub C' C) (h : I ρ' C') : Nx K M0 (NI K M0 I) ρ C := nx_wk he hc (nx_I h)
end
/-! ### in a row -/
section
variable {K : PySem.W.Frag} {M0 : Hp} {t u : TS} {te : TE} {D : Ends} {ρ ρ' : En} {C C1 C2 C' : Cs} {p : Pd} {c : Cell}
theorem ex_sasg {i : Nat} (h : Ec K te ρ C p C1) (k : Ex K M0 u D (ρ.set i (some p)) C1) : Ex K M0 (tSeq (tAsg te (gName i)) u) D ρ C := ex_seq (ex_asg h k)
theorem ex_sasgG {g : TG} (h : Ec K te ρ C p C1) (hg : Eg K g ρ C1 p ρ' C2) (k : Ex K M0 u D ρ' C2) : Ex K M0 (tSeq (tAsg te g) u) D ρ C := ex_seq (ex_asgG h hg k)
theorem ex_sasgW {i : Nat} (h : Ew K te ρ C c C1) (k : ∀ a, C1 a = none → Ex K M0 u D (ρ.set i (some (pRef a))) (updC C1 a c)) : Ex K M0 (tSeq (tAsg te (gName i)) u) D ρ C := ex_seq (ex_asgW h k)
theorem ex_sdrop (h : Ec K te ρ C p C1) (k : Ex K M0 u D ρ C1) : Ex K M0 (tSeq (tDrop te) u) D ρ C := ex_seq (ex_drop h k)
theorem ex_sif {tc : TT} {v : TS} {b : Bool} (h : Et K tc ρ C b C) (h1 : b = true → Ex K M0 t { D with nx := u D } ρ C) (h2 : b = false → Ex K M0 v { D with nx := u D } ρ C) : Ex K M0 (tSeq (tIfS tc t v) u) D ρ C := ex_seq (ex_if h h1 h2)
/-- an if without else -/
theorem ex_sif0 {tc : TT} {b : Bool} (h : Et K tc ρ C b C) (h1 : b = true → Ex K M0 t { D with nx := u D } ρ C) (h2 : b = false → Ex K M0 u D ρ C) : Ex K M0 (tSeq (tIfS tc t tNext) u) D ρ C := ex_seq (ex_if h h1 h2)
/-- an if without else that sets a name alone -/
theorem ex_sifA {tc : TT} {b : Bool} {i : Nat} {q : Pd} (h : Et K tc ρ C b C) (hq : ρ[i]? = some (some q)) (h1 : b = true → Ec K te ρ C p C) (h2 : b = false → p = q) (k : Ex K M0 u D (ρ.set i (some p)) C) : Ex K M0 (tSeq (tIfS tc (tAsg te (gName i)) tNext) u) D ρ C := by
  refine ex_sif0 h (fun hb => ex_asg (h1 hb) k) (fun hb => ?_)
  have e := h2 hb
  subst e
  have e : ρ.set i (some p) = ρ := by
    apply List.ext_getElem?
    intro j
    by_cases hj : j = i
    · subst hj
      rw [hq, List.getElem?_set]
      have hl : j < ρ.length := by
        rcases Nat.lt_or_ge j ρ.length with h | h
        · exact h
        · rw [List.getElem?_eq_none h] at hq; cases hq
      rw [if_pos rfl, if_pos hl]
    · rw [List.getElem?_set_ne (Ne.symm hj)]
  rw [e] at k
  exact k
theorem ex_ssetL {to ti : TE} {a : Addr} {ds : List PyData} {d : PyData} {i : Int} {j : Nat} (h : Ec K te ρ C (pD K d) C) (ho : Ec K to ρ C (pRef a) C) (hi : Ec K ti ρ C (pD K (.int i)) C) (hc : C a = some (.lst ds)) (hj : ixN ds.length i = some j) (hC : updC C a (.lst (ds.set j d)) = C')
    (k : Ex K M0 u D ρ C') : Ex K M0 (tSeq (tAsg te (gSub to ti rSetL)) u) D ρ C := ex_seq (ex_setL h ho hi hc hj (by rw [hC]; exact k))
theorem ex_saug {i : Nat} {ti : TIp} {q s' : Pd} (hx : ρ[i]? = some (some p)) (h : Ec K te ρ C q C1) (hr : Er K ti C1 p q s' C2) (k : Ex K M0 u D (ρ.set i (some s')) C2) : Ex K M0 (tSeq (tAug i te ti) u) D ρ C := ex_seq (ex_aug hx h hr k)
theorem ex_sfor {wi : TI} {g : TG} {tb : TS} {n : Nat} {item : Nat → Pd} {G : Cs → Prop} (hi : Ei K wi ρ C n item C1 G) (I : Nat → En → Cs → Prop) {ρ0 : En} {C0 : Cs} (he : EnvLe ρ ρ0) (hc : Sub C0 C1) (h0 : I 0 ρ0 C0) (hG : ∀ i ρ C, i ≤ n → I i ρ C → G C)
    (turn : ∀ M1, Same M0 M1 → ∀ i ρ C, i < n → I i ρ C → ∃ ρ2 C2, Eg K g ρ C (item i) ρ2 C2 ∧ Ex K M1 tb { D with nx := NI K M1 (I (i + 1)), ct := NI K M1 (I (i + 1)), bk := u D } ρ2 C2)
    (done : ∀ ρ C, I n ρ C → Ex K M0 u D ρ C) : Ex K M0 (tSeq (tFor wi g tb) u) D ρ C := ex_seq (ex_for hi I he hc h0 hG turn done)
theorem ex_swhile {tc : TT} {tb : TS} (I : Nat → En → Cs → Prop) (m : Nat) (h0 : I m ρ C)
    (turn : ∀ m ρ C, I m ρ C → ∃ b C1, Et K tc ρ C b C1 ∧ (b = true → ∃ I' : En → Cs → Prop, (∀ ρ C, I' ρ C → ∃ m', m' < m ∧ I m' ρ C) ∧ Ex K M0 tb { D with nx := NI K M0 I', ct := NI K M0 I', bk := u D } ρ C1) ∧ (b = false → Ex K M0 u D ρ C1)) : Ex K M0 (tSeq (tWhile tc tb) u) D ρ C := ex_seq (ex_while I m h0 turn)
end
/-! ### comprehensions -/
theorem wipe_get (σ : L2.St) (i : Nat) : ∀ vs : List Nat, (wipe σ vs)[i]? = if i ∈ vs then (σ[i]?).map (fun _ => none) else σ[i]?
  | [] => by simp [wipe]
  | v :: vs => by
    have ih := wipe_get σ i vs
    unfold wipe
    by_cases h : i = v
    · subst h
      rw [if_pos List.mem_cons_self]
      by_cases hl : i < σ.length
      · rw [List.getElem?_set_self (by rw [wipe_length]; exact hl), List.getElem?_eq_getElem hl]; rfl
      · rw [List.getElem?_eq_none (by rw [List.length_set, wipe_length]; omega), List.getElem?_eq_none (by omega)]; rfl
    · rw [List.getElem?_set_ne (Ne.symm h), ih]
      by_cases h2 : i ∈ vs
      · rw [if_pos h2, if_pos (List.mem_cons_of_mem _ h2)]
      · rw [if_neg h2, if_neg (by simp [h, h2])]
theorem wipe_set {σ : L2.St} {vs : List Nat} {j : Nat} {x : Option V} (hj : j ∈ vs) : wipe (σ.set j x) vs = wipe σ vs := by
  apply List.ext_getElem?
  intro i
  rw [wipe_get, wipe_get]
  by_cases h : i ∈ vs
  · rw [if_pos h, if_pos h]
    by_cases e : i = j
    · subst e
      by_cases hl : i < σ.length
      · rw [List.getElem?_set_self hl, List.getElem?_eq_getElem hl]; rfl
      · rw [List.getElem?_eq_none (by rw [List.length_set]; omega), List.getElem?_eq_none (by omega)]
    · rw [List.getElem?_set_ne (Ne.symm e)]
  · rw [if_neg h, if_neg h, List.getElem?_set_ne (fun e => h (by rw [← e]; exact hj))]
theorem wipe_wipe (σ : L2.St) (vs : List Nat) : wipe (wipe σ vs) vs = wipe σ vs := by
  apply List.ext_getElem?
  intro i
  rw [wipe_get, wipe_get]
  by_cases h : i ∈ vs
  · rw [if_pos h, if_pos h]; cases σ[i]? <;> rfl
  · rw [if_neg h, if_neg h]
/-- a comprehension's target -/
def Egv (K : PySem.W.Frag) (g : TG) (ρ : En) (vs : List Nat) (C : Cs) (p : Pd) (ρ' : En) : Prop := ∀ (v : V) (σ : L2.St) (H M : Hp) (Q : L2.St → Hp → Prop), EnvOk M ρ σ → Ok K M C H → p.p M v → (∀ σ' H' M', Same M M' → wipe σ' vs = wipe σ vs → EnvOk M' ρ' σ' → Ok K M' C H' → Q σ' H') → g v σ H Q
section
variable {K : PySem.W.Frag} {ρ ρ' : En} {C C1 : Cs} {p : Pd} {vs : List Nat}
theorem egv_name {i : Nat} (hi : i ∈ vs) : Egv K (gName i) ρ vs C p (ρ.set i (some p)) := fun v σ H M Q e k hv z => z _ H M (Same.refl M) (wipe_set hi) (e.set hv i) k
theorem et_yes : Et K tYes ρ C true C := fun σ H M Q e k z => z H M (Same.refl M) k
def coll (b : Nat → Bool) (q : Nat → PyData) : Nat → List PyData
  | 0 => []
  | n + 1 => coll b q n ++ (if b n = true then [q n] else [])
theorem coll_len (b : Nat → Bool) (q : Nat → PyData) : ∀ n, (coll b q n).length ≤ n
  | 0 => Nat.le_refl _
  | n + 1 => by
    unfold coll
    rw [List.length_append]
    have := coll_len b q n
    split <;> simp <;> omega
theorem coll_map (q : Nat → PyData) : ∀ n, coll (fun _ => true) q n = (List.range n).map q
  | 0 => rfl
  | n + 1 => by unfold coll; rw [coll_map q n, List.range_succ, List.map_append]; rfl
theorem coll_congr {b b' : Nat → Bool} {q q' : Nat → PyData} : ∀ n, (∀ i, i < n → b i = b' i) → (∀ i, i < n → b i = true → q i = q' i) → coll b q n = coll b' q' n
  | 0, _, _ => rfl
  | n + 1, h1, h2 => by
    unfold coll
    rw [coll_congr n (fun i hi => h1 i (by omega)) (fun i hi => h2 i (by omega)), h1 n (by omega)]
    by_cases h : b' n = true
    · rw [if_pos h, if_pos h, h2 n (by omega) (by rw [h1 n (by omega)]; exact h)]
    · rw [if_neg h, if_neg h]
/-- over a list: filter, then map -/
theorem coll_list {α : Type} [Inhabited α] (xs : List α) (f : α → Bool) (g : α → PyData) : coll (fun i => f (xs.getD i default)) (fun i => g (xs.getD i default)) xs.length = (xs.filter f).map g := by
  have h : ∀ n, n ≤ xs.length → coll (fun i => f (xs.getD i default)) (fun i => g (xs.getD i default)) n = ((xs.take n).filter f).map g := by
    intro n
    induction n with
    | zero => intro _; rfl
    | succ n ih =>
      intro hn
      unfold coll
      rw [ih (by omega), List.take_succ_eq_append_getElem (by omega), List.filter_append, List.map_append]
      have e : xs.getD n default = xs[n] := by rw [List.getD_eq_getElem?_getD, List.getElem?_eq_getElem (by omega)]; rfl
      rw [e]
      by_cases hf : f xs[n] = true
      · rw [if_pos hf, List.filter_cons_of_pos hf]; rfl
      · rw [if_neg hf, List.filter_cons_of_neg hf]; rfl
  have := h xs.length (Nat.le_refl _)
  rw [List.take_length] at this
  exact this
/-- Ck i B: the cells behind i turns, over any base B -/
theorem ew_lc {wi : TI} {g : TG} {tt : TT} {te : TE} {n : Nat} {item : Nat → Pd} {G : Cs → Prop} (hi : Ei K wi ρ C n item C1 G) (b : Nat → Bool) (q : Nat → PyData) (Ck : Nat → Cs → Cs) (C0 : Cs) (h0 : C1 = Ck 0 C0)
    (hd : ∀ D, C1 D = none → C0 D = none) (hG : ∀ i B, i ≤ n → Sub C0 B → G (Ck i B)) (hcomm : ∀ i D c, C1 D = none → updC (Ck i C0) D c = Ck i (updC C0 D c)) (hn : n < sizeLine) (hDn : ∀ D, C1 D = none → Ck n C0 D = none)
    (turn : ∀ i, i < n → ∀ B, Sub C0 B → ∃ ρ2, Egv K g (wipeR ρ vs) vs (Ck i B) (item i) ρ2 ∧ Et K tt ρ2 (Ck i B) (b i) (Ck i B) ∧ (b i = true → Ec K te ρ2 (Ck i B) (pD K (q i)) (Ck (i + 1) B)) ∧ (b i = false → Ck (i + 1) B = Ck i B)) :
    Ew K (tLc wi g tt te vs) ρ C (.lst (coll b q n)) (Ck n C0) := fun σ H M Q e k z => by
  refine hi σ H M _ e k fun J H1 M1 s1 k1 hw D hD => ?_
  have hC1 : C1 D = none := (k1.free hD).2
  have hC0 : C0 D = none := hd D hC1
  have P0 : Ok K M1 (Ck 0 (updC C0 D (.lst []))) (upd H1 D (.lst [])) := by
    have := (k1.cell (c := .lst []) (o := .lst []) hD (show DpAll K M1 [] [] from .nil)).2
    rw [h0, hcomm 0 D _ hC1] at this
    exact this
  refine ⟨fun i m H => m = n - i ∧ i ≤ n ∧ ∃ M2, Same M1 M2 ∧ Ok K M2 (Ck i (updC C0 D (.lst (coll b q i)))) H, ⟨n, by simp, Nat.zero_le _, M1, Same.refl _, P0⟩, ?_⟩
  rintro i m H2 ⟨rfl, hin, M2, s2, k2⟩
  have hsub : Sub C0 (updC C0 D (.lst (coll b q i))) := Sub.upd hC0
  obtain ⟨w1, w2⟩ := hw _ H2 M2 s2 k2 (hG i _ hin hsub)
  by_cases hlt : i < n
  · obtain ⟨w3, w4⟩ := w2 i hlt
    refine .inr ⟨w3, fun H' => ∃ M3, Same M1 M3 ∧ Ok K M3 (Ck (i + 1) (updC C0 D (.lst (coll b q (i + 1))))) H', fun H' h => ⟨n - (i + 1), by omega, rfl, hlt, h⟩, fun x H3 y => ?_⟩
    obtain ⟨M3, s3, k3, hx⟩ := w4 x H3 y
    obtain ⟨ρ2, t1, t2, t3, t4⟩ := turn i hlt _ hsub
    refine t1 x _ H3 M3 _ ((((e.mono s1).mono s2).mono s3).wipe vs) k3 hx fun σ4 H4 M4 s4 hwp e4 k4 => ⟨by rw [hwp, wipe_wipe], ?_⟩
    refine t2 σ4 H4 M4 _ e4 k4 fun H5 M5 s5 k5 => ?_
    by_cases hb : b i = true
    · rw [if_pos hb]
      refine t3 hb σ4 H5 M5 _ (e4.mono s5) k5 fun v H6 M6 s6 k6 hv => ?_
      have k6' := k6
      rw [← hcomm (i + 1) D _ hC1] at k6'
      obtain ⟨acc, a1, a2⟩ := k6'.lst updC_same
      refine ⟨acc, a1, by rw [dpAll_len a2]; exact Nat.lt_of_le_of_lt (coll_len b q i) (by omega), M6, ((((s2.trans s3).trans s4).trans s5).trans s6), ?_⟩
      have := k6'.set (c' := .lst (coll b q (i + 1))) (o := .lst (acc ++ [v])) updC_same (by
        show DpAll K M6 (acc ++ [v]) (coll b q (i + 1))
        unfold coll
        rw [if_pos hb]
        exact dpAll_append a2 (.cons hv .nil))
      rw [updC_updC, hcomm (i + 1) D _ hC1] at this
      exact this
    · rw [if_neg hb]
      have hb' : b i = false := by simpa using hb
      refine ⟨M5, (((s2.trans s3).trans s4).trans s5), ?_⟩
      unfold coll
      rw [if_neg hb, List.append_nil, t4 hb']
      exact k5
  · have e' : i = n := by omega
    subst e'
    refine .inl ⟨w1, ?_⟩
    rw [← hcomm i D _ hC1] at k2
    exact z D H2 M2 (s1.trans s2) (hDn D hC1) k2
/-- .. whose parts leave the cells -/
theorem ew_lcP {wi : TI} {g : TG} {tt : TT} {te : TE} {n : Nat} {item : Nat → Pd} {G : Cs → Prop} (hi : Ei K wi ρ C n item C1 G) (b : Nat → Bool) (q : Nat → PyData) (hG : ∀ B, Sub C1 B → G B) (hn : n < sizeLine)
    (turn : ∀ i, i < n → ∀ B, Sub C1 B → ∃ ρ2, Egv K g (wipeR ρ vs) vs B (item i) ρ2 ∧ Et K tt ρ2 B (b i) B ∧ (b i = true → Ec K te ρ2 B (pD K (q i)) B)) :
    Ew K (tLc wi g tt te vs) ρ C (.lst (coll b q n)) C1 :=
  ew_lc hi b q (fun _ B => B) C1 rfl (fun _ h => h) (fun _ B _ h => hG B h) (fun _ _ _ _ => rfl) hn (fun _ h => h) fun i hin B hB => by
    obtain ⟨ρ2, t1, t2, t3⟩ := turn i hin B hB
    exact ⟨ρ2, t1, t2, t3, fun _ => rfl⟩
end
/-! ### texts -/
section
variable {K : PySem.W.Frag} {ρ : En} {C C1 C2 C3 : Cs} {tl te : TE}
def sgn (c : Nat) : Str := ⟨#[c]⟩
theorem ei_str {x : Str} (h : Ec K tl ρ C (pD K (.str x)) C1) : Ei K (iStr tl) ρ C x.cps.size (fun i => pD K (.str (sgn (x.cps.toList.getD i 0)))) C1 (fun _ => True) := fun σ H M R e k z =>
  h σ H M _ e k fun v H1 M1 e1 k1 hv => by
    have := d_str hv; subst this
    refine ⟨x, rfl, z _ H1 M1 e1 k1 fun C2 H2 M2 s2 k2 _ => ⟨Nat.le_refl _, fun i hi => ⟨hi, fun y H3 yl => ?_⟩⟩⟩
    obtain ⟨rfl, c, hc, rfl⟩ := yl
    refine ⟨M2, Same.refl _, k2, ?_⟩
    have : x.cps.toList.getD i 0 = c := by
      rw [List.getD_eq_getElem?_getD, Array.getElem?_toList, hc]; rfl
    show Dp K M2 _ (.str (sgn (x.cps.toList.getD i 0)))
    rw [this]
    exact Dp.str _
theorem er_inS {c : Nat} {z : Str} : Er K (fun x y H Q => ∃ (c : Nat) (z : Str), x = .str ⟨#[c]⟩ ∧ y = .str z ∧ Q (.bl (decide (c ∈ z.cps.toList))) H) C (pD K (.str (sgn c))) (pD K (.str z)) (pD K (.bool (decide (c ∈ z.cps.toList)))) C :=
  er_scal (fun _ _ => d_str) (fun _ _ => d_str) (fun _ => .bl _) fun H Q q => ⟨c, z, rfl, rfl, q⟩
theorem er_notInS {c : Nat} {z : Str} : Er K (fun x y H Q => ∃ (c : Nat) (z : Str), x = .str ⟨#[c]⟩ ∧ y = .str z ∧ Q (.bl (!decide (c ∈ z.cps.toList))) H) C (pD K (.str (sgn c))) (pD K (.str z)) (pD K (.bool (!decide (c ∈ z.cps.toList)))) C :=
  er_scal (fun _ _ => d_str) (fun _ _ => d_str) (fun _ => .bl _) fun H Q q => ⟨c, z, rfl, rfl, q⟩
theorem er_addS {x y : Str} (h : x.length + y.length ≤ sizeLine) : Er K (fun x y H Q => ∃ i j, x = .str i ∧ y = .str j ∧ i.length + j.length ≤ sizeLine ∧ Q (.str (i ++ j)) H) C (pD K (.str x)) (pD K (.str y)) (pD K (.str (x ++ y))) C :=
  er_scal (fun _ _ => d_str) (fun _ _ => d_str) (fun _ => .str _) fun H Q q => ⟨x, y, rfl, rfl, h, q⟩
theorem er_ixS {x : Str} {i : Int} {c : Nat} (hl : x.length ≤ sizeLine) (h : atI x.cps.toList i = some c) : Er K rIxS C (pD K (.str x)) (pD K (.int i)) (pD K (.str (sgn c))) C :=
  er_scal (fun _ _ => d_str) (fun _ _ => d_int) (fun _ => .str _) fun H Q q => ⟨x, i, c, rfl, rfl, hl, h, q⟩
theorem ec_slS {tl th : TO} {x : Str} {lo hi : Option Int} (h : Ec K te ρ C (pD K (.str x)) C1) (h1 : Eo K tl ρ C1 lo C2) (h2 : Eo K th ρ C2 hi C3) (hl : x.length ≤ sizeLine) : Ec K (tSl rSlS te tl th) ρ C (pD K (.str (cutS x lo hi))) C3 := fun σ H M Q e k z =>
  h σ H M _ e k fun v H1 M1 e1 k1 hv => h1 σ H1 M1 _ (e.mono e1) k1 fun H2 M2 e2 k2 => h2 σ H2 M2 _ ((e.mono e1).mono e2) k2 fun H3 M3 e3 k3 => by
    have := d_str hv; subst this
    exact ⟨x, rfl, hl, z _ H3 M3 ((e1.trans e2).trans e3) k3 (.str _)⟩
/-- sep.join(list of texts) -/
theorem ec_join {to : TE} {a : Str} {ys : List Str} (ho : Ec K to ρ C (pD K (.str a)) C1) (h : Ec K te ρ C1 (pD K (.list (ys.map PyData.str))) C2) (hl : (ys.map (·.length)).sum + ys.length * a.length ≤ 16777216) :
    Ec K (tM1 (fun x xs H Q => ∃ a p, ∃ ys : List Str, x = .str a ∧ xs = [.ref p] ∧ (SqL K H p (ys.map V.str) ∨ SqT K H p (ys.map V.str)) ∧ (ys.map (·.length)).sum + ys.length * a.length ≤ 16777216 ∧ Q (.str (Txt.join a ys)) H) to te) ρ C (pD K (.str (Txt.join a ys))) C2 := fun σ H M Q e k z =>
  ho σ H M _ e k fun x H1 M1 e1 k1 hx => by
    have := d_str hx; subst this
    refine ⟨⟨a, rfl⟩, h σ H1 M1 _ (e.mono e1) k1 fun y H2 M2 e2 k2 hy => ?_⟩
    obtain ⟨p, xs, rfl, q1, q2⟩ := d_lst hy
    have := dpAll_strs q2; subst this
    exact ⟨a, p, ys, rfl, rfl, .inl (k2.fz.seq q1), hl, z _ H2 M2 (e1.trans e2) k2 (.str _)⟩
end
/-- a text by its signs -/
def sL (l : List Nat) : Str := ⟨l.toArray⟩
theorem sL_cps (l : List Nat) : (sL l).cps.toList = l := by simp [sL]
theorem sL_len (l : List Nat) : (sL l).length = l.length := by simp [sL, Str.length]
theorem str_ext {x y : Str} (h : x.cps.toList = y.cps.toList) : x = y := by
  cases x; cases y
  simp only [Str.mk.injEq]
  exact Array.ext' h
theorem sL_of (x : Str) : sL x.cps.toList = x := str_ext (sL_cps _)
theorem sL_app (a b : List Nat) : sL a ++ sL b = sL (a ++ b) := str_ext (by
  show ((sL a).cps ++ (sL b).cps).toList = _
  rw [Array.toList_append, sL_cps, sL_cps, sL_cps])
theorem sgn_sL (c : Nat) : sgn c = sL [c] := rfl
theorem sL_cut (l : List Nat) (lo hi : Option Int) : cutS (sL l) lo hi = sL ((l.drop (HT.sIx l.length 0 lo)).take (HT.sIx l.length l.length hi - HT.sIx l.length 0 lo)) := by
  unfold cutS
  rw [sL_cps, sL_len]; rfl
theorem join_flat : ∀ parts : List (List Nat), TL.joinL [] parts = parts.flatten
  | [] => rfl
  | [p] => by simp [TL.joinL]
  | p :: q :: r => by
    unfold TL.joinL
    rw [join_flat (q :: r)]; rfl
theorem join_sL (parts : List (List Nat)) : Txt.join "" (parts.map sL) = sL parts.flatten := by
  rw [TL.join_eq]
  apply str_ext
  have := TL.tl_join (Str.ofString "") (parts.map sL)
  have e : TL.tl (Str.ofString "") = [] := by decide +kernel
  rw [e, join_flat] at this
  rw [sL_cps]
  have h2 : (parts.map sL).map TL.tl = parts := by
    rw [List.map_map]
    conv => rhs; rw [← List.map_id parts]
    apply List.map_congr_left
    intro a _
    exact sL_cps a
  rw [h2] at this
  exact this
/-- signs that are signs -/
def TOk (x : Str) : Prop := ∀ c ∈ x.cps.toList, c < 1114112
theorem TOk.lay {x : Str} (h : TOk x) : (PyData.str x).canLay0 = true := by
  unfold PyData.canLay0 PyData.strOk
  rw [Array.all_eq_true']
  intro c hc
  exact decide_eq_true (h c (Array.mem_toList_iff.mpr hc))
theorem TOk.sgn {x : Str} (h : TOk x) {c : Nat} (hc : c ∈ x.cps.toList) : TOk (sgn c) := fun d hd => by
  have : d = c := by simpa [Fz.sgn] using hd
  subst this; exact h d hc
theorem TOk.app {x y : Str} (h : TOk x) (h' : TOk y) : TOk (x ++ y) := fun c hc => by
  have e : (x ++ y).cps.toList = x.cps.toList ++ y.cps.toList := Array.toList_append
  rw [e, List.mem_append] at hc
  exact hc.elim (h c) (h' c)
theorem TOk.cut {x : Str} (h : TOk x) (lo hi : Option Int) : TOk (cutS x lo hi) := fun c hc => by
  have e : (cutS x lo hi).cps.toList = ((x.cps.toList.drop (HT.sIx x.length 0 lo)).take (HT.sIx x.length x.length hi - HT.sIx x.length 0 lo)) := by simp [cutS]
  rw [e] at hc
  exact h c (List.mem_of_mem_drop (List.mem_of_mem_take hc))
theorem cut_len (x : Str) (lo hi : Option Int) : (cutS x lo hi).length ≤ x.length := by
  have e : (cutS x lo hi).length = ((x.cps.toList.drop (HT.sIx x.length 0 lo)).take (HT.sIx x.length x.length hi - HT.sIx x.length 0 lo)).length := by simp [cutS, Str.length]
  rw [e, List.length_take, List.length_drop, Array.length_toList]
  show _ ≤ x.cps.size
  omega
theorem app_len (x y : Str) : (x ++ y).length = x.length + y.length := by
  show (x.cps ++ y.cps).size = _
  rw [Array.size_append]; rfl
theorem eqv_nil (l : List PyData) : PyData.eqv (.list l) (.list []) = l.isEmpty := by
  cases l <;> simp [PyData.eqv, PyData.eqvAll]
theorem getD_map {α : Type} {β : Type} (f : α → β) (l : List α) (i : Nat) (d : β) (d' : α) (h : i < l.length) : (l.map f).getD i d = f (l.getD i d') := by
  rw [List.getD_eq_getElem?_getD, List.getD_eq_getElem?_getD, List.getElem?_map, List.getElem?_eq_getElem h]; rfl
/-! ### equality -/
section
variable {K : PySem.W.Frag} {C : Cs} {p q : Pd}
/-- read as a datum -/
def AsD (K : PySem.W.Frag) (C : Cs) (p : Pd) (d : PyData) : Prop := ∀ (M H : Hp) (v : V), Ok K M C H → p.p M v → Dp K H v d
theorem asD_D {d : PyData} : AsD K C (pD K d) d := fun M H v k h => dp_mono k.fz h
theorem asD_C {a : Addr} {ds : List PyData} (h : C a = some (.lst ds)) : AsD K C (pRef a) (.list ds) := fun M H v k hv => by
  have hv' : v = .ref a := hv
  subst hv'
  obtain ⟨xs, h1, h2⟩ := k.lst h
  exact Dp.lst (.inl (.inl h1)) (dpAll_mono k.fz h2)
theorem er_eqD {d e : PyData} (ha : AsD K C p d) (hb : AsD K C q e) (sd : SeqAt.shaped d = true) (se : SeqAt.shaped e = true) : Er K (rEqD K) C p q (pD K (.bool (PyData.eqv d e))) C := fun x y H M Q k hx hy z =>
  ⟨d, e, ha M H x k hx, hb M H y k hy, sd, se, z _ H M (Same.refl _) k (.bl _)⟩
theorem er_neD {d e : PyData} (ha : AsD K C p d) (hb : AsD K C q e) (sd : SeqAt.shaped d = true) (se : SeqAt.shaped e = true) : Er K (rNeD K) C p q (pD K (.bool (!PyData.eqv d e))) C := fun x y H M Q k hx hy z =>
  ⟨d, e, ha M H x k hx, hb M H y k hy, sd, se, z _ H M (Same.refl _) k (.bl _)⟩
mutual
theorem eqv_self : ∀ d : PyData, d.canLay0 = true → PyData.eqv d d = true
  | .none, _ => by simp [PyData.eqv]
  | .bool _, _ => by simp [PyData.eqv]
  | .int _, _ => by simp [PyData.eqv]
  | .str _, _ => by simp [PyData.eqv]
  | .list xs, h => by
    unfold PyData.eqv
    exact eqvAll_self xs (by unfold PyData.canLay0 at h; exact h)
  | .tuple xs, h => by
    unfold PyData.eqv
    exact eqvAll_self xs (by unfold PyData.canLay0 at h; exact h)
  | .dict _, h => by unfold PyData.canLay0 at h; cases h
theorem eqvAll_self : ∀ ds : List PyData, PyData.canLayAll0 ds = true → PyData.eqvAll ds ds = true
  | [], _ => by simp [PyData.eqvAll]
  | d :: ds, h => by
    unfold PyData.canLayAll0 at h
    rw [Bool.and_eq_true] at h
    unfold PyData.eqvAll
    rw [eqv_self d h.1, eqvAll_self ds h.2]; rfl
end
theorem eqv_of_shaped {d : PyData} (h : SeqAt.shaped d = true) : PyData.eqv d d = true := eqv_self d (SeqAt.canLay_of_shaped h)
/-! plain data: nothing but ints, texts, None, lists and tuples of such: there == is = -/
mutual
def plain : PyData → Bool
  | .none => true
  | .bool _ => false
  | .int _ => true
  | .str _ => true
  | .list xs => plains xs
  | .tuple xs => plains xs
  | .dict _ => false
def plains : List PyData → Bool
  | [] => true
  | d :: ds => plain d && plains ds
end
mutual
theorem eqv_eq : ∀ d e : PyData, plain d = true → plain e = true → PyData.eqv d e = true → d = e
  | .none, e, _, _, h => by cases e <;> simp_all [PyData.eqv]
  | .int _, e, _, he, h => by cases e <;> simp_all [PyData.eqv, plain]
  | .str _, e, _, _, h => by cases e <;> simp_all [PyData.eqv]
  | .bool _, e, hd, _, _ => by simp [plain] at hd
  | .dict _, e, hd, _, _ => by simp [plain] at hd
  | .list xs, e, hd, he, h => by
    cases e <;> first
      | (simp [PyData.eqv] at h; done)
      | skip
    rename_i ys
    unfold PyData.eqv at h
    unfold plain at hd he
    rw [eqvAll_eq xs ys hd he h]
  | .tuple xs, e, hd, he, h => by
    cases e <;> first
      | (simp [PyData.eqv] at h; done)
      | skip
    rename_i ys
    unfold PyData.eqv at h
    unfold plain at hd he
    rw [eqvAll_eq xs ys hd he h]
theorem eqvAll_eq : ∀ ds es : List PyData, plains ds = true → plains es = true → PyData.eqvAll ds es = true → ds = es
  | [], [], _, _, _ => rfl
  | [], _ :: _, _, _, h => by simp [PyData.eqvAll] at h
  | _ :: _, [], _, _, h => by simp [PyData.eqvAll] at h
  | d :: ds, e :: es, hd, he, h => by
    unfold plains at hd he
    unfold PyData.eqvAll at h
    rw [Bool.and_eq_true] at hd he h
    rw [eqv_eq d e hd.1 he.1 h.1, eqvAll_eq ds es hd.2 he.2 h.2]
end
/-! shapes -/
theorem canLay_ints : ∀ ns : List Int, PyData.canLayAll0 (ns.map PyData.int) = true
  | [] => by simp [PyData.canLayAll0]
  | _ :: ns => by rw [List.map_cons]; unfold PyData.canLayAll0; rw [canLay_ints ns]; simp [PyData.canLay0]
theorem canLayAll_of : ∀ {ds : List PyData}, (∀ d ∈ ds, d.canLay0 = true) → PyData.canLayAll0 ds = true
  | [], _ => by simp [PyData.canLayAll0]
  | d :: ds, h => by unfold PyData.canLayAll0; rw [h d List.mem_cons_self, canLayAll_of (ds := ds) fun x hx => h x (List.mem_cons_of_mem _ hx)]; rfl
theorem depthAll_of : ∀ {ds : List PyData} {n : Nat}, (∀ d ∈ ds, d.depth ≤ n) → PyData.depthAll ds ≤ n
  | [], _, _ => by simp [PyData.depthAll]
  | d :: ds, n, h => by
    unfold PyData.depthAll
    have h1 := h d List.mem_cons_self
    have h2 := depthAll_of (ds := ds) fun x hx => h x (List.mem_cons_of_mem _ hx)
    exact Nat.max_le.mpr ⟨h1, h2⟩
/-- a datum whose parts are within n -/
def Shp (n : Nat) (d : PyData) : Prop := d.canLay0 = true ∧ d.depth ≤ n
theorem shp_int {n : Nat} {i : Int} : Shp n (.int i) := ⟨by simp [PyData.canLay0], by simp [PyData.depth]⟩
theorem shp_bool {n : Nat} {i : Bool} : Shp n (.bool i) := ⟨by simp [PyData.canLay0], by simp [PyData.depth]⟩
theorem shp_none {n : Nat} : Shp n .none := ⟨by simp [PyData.canLay0], by simp [PyData.depth]⟩
theorem shp_str {n : Nat} {x : Str} (h : TOk x) : Shp n (.str x) := ⟨h.lay, by simp [PyData.depth]⟩
theorem shp_list {n : Nat} {ds : List PyData} (h : ∀ d ∈ ds, Shp n d) : Shp (n + 1) (.list ds) := ⟨by unfold PyData.canLay0; exact canLayAll_of fun d hd => (h d hd).1, by
  have := depthAll_of (ds := ds) (n := n) fun d hd => (h d hd).2
  unfold PyData.depth; omega⟩
theorem shp_tup {n : Nat} {ds : List PyData} (h : ∀ d ∈ ds, Shp n d) : Shp (n + 1) (.tuple ds) := ⟨by unfold PyData.canLay0; exact canLayAll_of fun d hd => (h d hd).1, by
  have := depthAll_of (ds := ds) (n := n) fun d hd => (h d hd).2
  unfold PyData.depth; omega⟩
theorem shp_ints {n : Nat} {ns : List Int} : ∀ d ∈ ns.map PyData.int, Shp n d := fun d hd => by
  obtain ⟨i, _, rfl⟩ := List.mem_map.mp hd
  exact shp_int
theorem Shp.shaped {n : Nat} {d : PyData} (h : Shp n d) (hn : n ≤ 64 := by decide) : SeqAt.shaped d = true := by
  unfold SeqAt.shaped
  rw [h.1, decide_eq_true (Nat.le_trans h.2 hn)]; rfl
end
/-! ### lists -/
section
variable {K : PySem.W.Frag} {ρ : En} {C C1 C2 C3 : Cs} {tl te to : TE} {ta : TA} {M0 : Hp} {D : Ends} {u : TS}
/-- x.append(e), x a cell -/
theorem ec_append {a : Addr} {ds : List PyData} {d : PyData} (ho : Ec K to ρ C (pRef a) C) (h0 : C a = some (.lst ds)) (h : Ec K te ρ C (pD K d) C1) (hc : C1 a = some (.lst ds)) (hl : ds.length < sizeLine) :
    Ec K (tBM K "list" rAppend to (tCons te tNil)) ρ C (pD K .none) (updC C1 a (.lst (ds ++ [d]))) := fun σ H M Q e k z =>
  ho σ H M _ e k fun x H1 M1 e1 k1 hx => by
    have hx' : x = .ref a := hx
    subst hx'
    obtain ⟨xs, q1, q2⟩ := k1.lst h0
    refine ⟨.inl ⟨rfl, xs, .inl (.inl q1)⟩, h σ H1 M1 _ (e.mono e1) k1 fun y H2 M2 e2 k2 hy => ?_⟩
    obtain ⟨xs, q1, q2⟩ := k2.lst hc
    exact ⟨a, xs, y, rfl, rfl, q1, by rw [dpAll_len q2]; exact hl, z _ _ M2 (e1.trans e2) (k2.set hc (dpAll_append q2 (.cons hy .nil))) .non⟩
/-- x.reverse() -/
theorem ec_reverse {a : Addr} {ds : List PyData} (ho : Ec K to ρ C (pRef a) C1) (hc : C1 a = some (.lst ds)) :
    Ec K (tBM0 K "list" rReverse to) ρ C (pD K .none) (updC C1 a (.lst ds.reverse)) := fun σ H M Q e k z =>
  ho σ H M _ e k fun x H1 M1 e1 k1 hx => by
    have hx' : x = .ref a := hx
    subst hx'
    obtain ⟨xs, q1, q2⟩ := k1.lst hc
    exact ⟨.inl ⟨rfl, xs, .inl (.inl q1)⟩, a, xs, rfl, rfl, q1, z _ _ M1 e1 (k1.set hc (dpAll_reverse q2)) .non⟩
/-- list(x), x a list or a tuple -/
theorem ewk_listL {ds : List PyData} : EkW K (fun xs H Q => ∃ p ys, xs = [.ref p] ∧ (SqL K H p ys ∨ SqT K H p ys) ∧ ∀ l, H l = none → Q (.ref l) (upd H l (.lst ys))) C [pD K (.list ds)] (.lst ds) C := fun xs H M Q k h z => by
  match xs, h with
  | [v], ⟨h, _⟩ =>
    obtain ⟨a, ys, rfl, h1, h2⟩ := d_lst h
    refine ⟨a, ys, rfl, .inl (k.fz.seq h1), fun l hl => ?_⟩
    obtain ⟨n, k2⟩ := k.cell (c := .lst ds) (o := .lst ys) hl h2
    exact z l _ M (Same.refl _) n k2
theorem ewk_listT {ds : List PyData} : EkW K (fun xs H Q => ∃ p ys, xs = [.ref p] ∧ (SqL K H p ys ∨ SqT K H p ys) ∧ ∀ l, H l = none → Q (.ref l) (upd H l (.lst ys))) C [pD K (.tuple ds)] (.lst ds) C := fun xs H M Q k h z => by
  match xs, h with
  | [v], ⟨h, _⟩ =>
    obtain ⟨a, ys, rfl, h1, h2⟩ := d_tup h
    refine ⟨a, ys, rfl, .inr (sqT_mono k.fz h1), fun l hl => ?_⟩
    obtain ⟨n, k2⟩ := k.cell (c := .lst ds) (o := .lst ys) hl h2
    exact z l _ M (Same.refl _) n k2
theorem ewk_listC {a : Addr} {ds : List PyData} (hc : C a = some (.lst ds)) : EkW K (fun xs H Q => ∃ p ys, xs = [.ref p] ∧ (SqL K H p ys ∨ SqT K H p ys) ∧ ∀ l, H l = none → Q (.ref l) (upd H l (.lst ys))) C [pRef a] (.lst ds) C := fun xs H M Q k h z => by
  match xs, h with
  | [v], ⟨h, _⟩ =>
    have h' : v = .ref a := h
    subst h'
    obtain ⟨ys, h1, h2⟩ := k.lst hc
    refine ⟨a, ys, rfl, .inl (.inl (.inl h1)), fun l hl => ?_⟩
    obtain ⟨n, k2⟩ := k.cell (c := .lst ds) (o := .lst ys) hl h2
    exact z l _ M (Same.refl _) n k2
/-- tuple(x), x a list -/
theorem ek_tupleL {ds : List PyData} : Ek K (fun xs H Q => ∃ p ys, xs = [.ref p] ∧ ((SqL K H p ys ∧ ∀ l, H l = none → Q (.ref l) (upd H l (.tup ys))) ∨ (SqT K H p ys ∧ Q (.ref p) H))) C [pD K (.list ds)] (pD K (.tuple ds)) C := fun xs H M Q k h z => by
  match xs, h with
  | [v], ⟨h, _⟩ =>
    obtain ⟨a, ys, rfl, h1, h2⟩ := d_lst h
    refine ⟨a, ys, rfl, .inl ⟨k.fz.seq h1, fun l hl => ?_⟩⟩
    obtain ⟨s, k2⟩ := k.new (o := .tup ys) hl
    exact z _ _ _ s k2 (Dp.tup (.inl (.inl upd_same)) (dpAll_mono s h2))
theorem ek_tupleC {a : Addr} {ds : List PyData} (hc : C a = some (.lst ds)) : Ek K (fun xs H Q => ∃ p ys, xs = [.ref p] ∧ ((SqL K H p ys ∧ ∀ l, H l = none → Q (.ref l) (upd H l (.tup ys))) ∨ (SqT K H p ys ∧ Q (.ref p) H))) C [pRef a] (pD K (.tuple ds)) C := fun xs H M Q k h z => by
  match xs, h with
  | [v], ⟨h, _⟩ =>
    have h' : v = .ref a := h
    subst h'
    obtain ⟨ys, h1, h2⟩ := k.lst hc
    refine ⟨a, ys, rfl, .inl ⟨.inl (.inl h1), fun l hl => ?_⟩⟩
    obtain ⟨s, k2⟩ := k.new (o := .tup ys) hl
    exact z _ _ _ s k2 (Dp.tup (.inl (.inl upd_same)) (dpAll_mono s h2))
end
/-! ### a datum, frozen or a cell -/
section
variable {K : PySem.W.Frag} {ρ : En} {C C1 C2 C3 : Cs} {tl te to : TE} {ta : TA} {p q : Pd} {M0 : Hp} {D : Ends} {u : TS}
def Dat (K : PySem.W.Frag) (C : Cs) (p : Pd) (d : PyData) : Prop := p = pD K d ∨ ∃ a ds, p = pRef a ∧ C a = some (.lst ds) ∧ d = .list ds
theorem dat_D {d : PyData} : Dat K C (pD K d) d := .inl rfl
theorem dat_C {a : Addr} {ds : List PyData} (h : C a = some (.lst ds)) : Dat K C (pRef a) (.list ds) := .inr ⟨a, ds, rfl, h, rfl⟩
theorem Dat.sub {d : PyData} (h : Dat K C p d) (s : Sub C C1) : Dat K C1 p d := by
  rcases h with h | ⟨a, ds, h1, h2, h3⟩
  · exact .inl h
  · exact .inr ⟨a, ds, h1, s _ _ h2, h3⟩
theorem Dat.as {d : PyData} (h : Dat K C p d) : AsD K C p d := by
  rcases h with rfl | ⟨a, ds, rfl, h2, rfl⟩
  · exact asD_D
  · exact asD_C h2
theorem Dat.list {M H : Hp} {v : V} {ds : List PyData} (h : Dat K C p (.list ds)) (k : Ok K M C H) (hv : p.p M v) : ∃ a xs, v = .ref a ∧ SqL K H a xs ∧ DpAll K M xs ds := by
  rcases h with rfl | ⟨a, es, rfl, h2, h3⟩
  · obtain ⟨a, xs, rfl, h1, h2⟩ := d_lst hv
    exact ⟨a, xs, rfl, k.fz.seq h1, h2⟩
  · cases h3
    have hv' : v = .ref a := hv
    obtain ⟨xs, h1, h2⟩ := k.lst h2
    exact ⟨a, xs, hv', .inl (.inl h1), h2⟩
theorem Dat.tup {M H : Hp} {v : V} {ds : List PyData} (h : Dat K C p (.tuple ds)) (k : Ok K M C H) (hv : p.p M v) : ∃ a xs, v = .ref a ∧ SqT K M a xs ∧ DpAll K M xs ds := by
  rcases h with rfl | ⟨a, es, rfl, h2, h3⟩
  · exact d_tup hv
  · cases h3
theorem Dat.pd {d : PyData} (h : Dat K C p d) (hd : ∀ ds, d ≠ .list ds) : p = pD K d := by
  rcases h with h | ⟨a, es, rfl, h2, h3⟩
  · exact h
  · exact absurd h3 (hd es)
/-! rules by it -/
theorem er_ixA {ds : List PyData} {i : Int} {d : PyData} (h : Dat K C p (.list ds)) (e : atI ds i = some d) : Er K (rIxL K) C p (pD K (.int i)) (pD K d) C := fun x y H M Q k hx hy z => by
  obtain ⟨a, xs, rfl, h1, h2⟩ := h.list k hx
  have := d_int hy; subst this
  obtain ⟨v, q1, q2⟩ := atI_dp h2 e
  exact ⟨a, xs, i, v, rfl, rfl, h1, q1, z v H M (Same.refl M) k q2⟩
theorem ek_lenA {ds : List PyData} (hd : Dat K C p (.list ds)) : Ek K (fun xs H Q => ∃ p ys, xs = [.ref p] ∧ (SqL K H p ys ∨ SqT K H p ys) ∧ Q (.int ys.length) H) C [p] (pD K (.int ds.length)) C := fun xs H M Q k h z => by
  match xs, h with
  | [v], ⟨h, _⟩ =>
    obtain ⟨a, ys, rfl, h1, h2⟩ := hd.list k h
    exact ⟨a, ys, rfl, .inl h1, by rw [dpAll_len h2]; exact z _ H M (Same.refl _) k (.int _)⟩
theorem ek_isiA {d : PyData} {n : String} {b : Bool} (hd : Dat K C p d) (hb : kitB (dTy d) n = some b) : Ek K (rIsi K) C [p, pV (.ty n)] (pD K (.bool b)) C := fun xs H M Q k h z => by
  match xs, h with
  | [v, u], ⟨h, h2, _⟩ =>
    have h2' : u = .ty n := h2
    subst h2'
    exact ⟨v, .ty n, _, _, b, rfl, .ty n, ty_of (Same.refl _) (hd.as M H v k h), kit_ty hb, z _ H M (Same.refl _) k (.bl b)⟩
theorem ek_isIA {d : PyData} (hd : Dat K C p d) : Ek K (rIsi K) C [p, pV (.ty "int")] (pD K (.bool (isI d))) C := ek_isiA hd (by cases d <;> (dsimp only [dTy, isI]; decide +kernel))
theorem ek_isBA {d : PyData} (hd : Dat K C p d) : Ek K (rIsi K) C [p, pV (.ty "bool")] (pD K (.bool (isB d))) C := ek_isiA hd (by cases d <;> (dsimp only [dTy, isB]; decide +kernel))
theorem ek_isSA {d : PyData} (hd : Dat K C p d) : Ek K (rIsi K) C [p, pV (.ty "str")] (pD K (.bool (isS d))) C := ek_isiA hd (by cases d <;> (dsimp only [dTy, isS]; decide +kernel))
theorem ek_isLA {d : PyData} (hd : Dat K C p d) : Ek K (rIsi K) C [p, pV (.ty "list")] (pD K (.bool (isL d))) C := ek_isiA hd (by cases d <;> (dsimp only [dTy, isL]; decide +kernel))
theorem ek_isTA {d : PyData} (hd : Dat K C p d) : Ek K (rIsi K) C [p, pV (.ty "tuple")] (pD K (.bool (isT d))) C := ek_isiA hd (by cases d <;> (dsimp only [dTy, isT]; decide +kernel))
theorem ew_slA {tl th : TO} {ds : List PyData} {lo hi : Option Int} (h : Ec K te ρ C p C1) (h1 : Eo K tl ρ C1 lo C2) (h2 : Eo K th ρ C2 hi C3) (hd : Dat K C3 p (.list ds)) : Ew K (tSl (rSlL K) te tl th) ρ C (.lst (cutP ds lo hi)) C3 := fun σ H M Q e k z =>
  h σ H M _ e k fun v H1 M1 e1 k1 hv => h1 σ H1 M1 _ (e.mono e1) k1 fun H2 M2 e2 k2 => h2 σ H2 M2 _ ((e.mono e1).mono e2) k2 fun H3 M3 e3 k3 => by
    obtain ⟨a, xs, rfl, q1, q2⟩ := hd.list k3 (p.mono e3 (p.mono e2 hv))
    refine ⟨a, xs, rfl, q1, fun p hp => ?_⟩
    obtain ⟨s, k4⟩ := k3.cell (c := .lst (cutP ds lo hi)) (o := .lst (cutV xs lo hi)) hp (cut_dp q2)
    exact z _ _ _ ((e1.trans e2).trans e3) s k4
theorem ei_A {ds : List PyData} (h : Ec K tl ρ C p C1) (hd : Dat K C1 p (.list ds)) : Ei K (iList K tl) ρ C ds.length (fun i => pD K (ds.getD i .none)) C1 (fun C => Dat K C p (.list ds)) := fun σ H M R e k z =>
  h σ H M _ e k fun v H1 M1 e1 k1 hv => by
    obtain ⟨a, xs, rfl, q1, _⟩ := hd.list k1 hv
    refine ⟨a, rfl, ⟨xs, q1⟩, z _ H1 M1 e1 k1 fun C2 H2 M2 s2 k2 g2 => ?_⟩
    obtain ⟨a', xs, e', q3, q2⟩ := g2.list k2 (p.mono s2 hv)
    cases e'
    refine ⟨⟨xs, q3, by rw [dpAll_len q2]; exact Nat.le_refl _⟩, fun i hi => ⟨⟨xs, xs[i]'(by rw [dpAll_len q2]; exact hi), q3, List.getElem?_eq_getElem _⟩, fun x H3 y => ?_⟩⟩
    obtain ⟨rfl, y⟩ := y
    obtain ⟨d, e1, e2⟩ := dpAll_getV q2 (y xs q3)
    exact ⟨M2, Same.refl _, k2, by
      show Dp K M2 x (ds.getD i .none)
      rw [List.getD_eq_getElem?_getD, e1]; exact e2⟩
theorem ewk_listA {ds : List PyData} (hd : Dat K C p (.list ds)) : EkW K (fun xs H Q => ∃ p ys, xs = [.ref p] ∧ (SqL K H p ys ∨ SqT K H p ys) ∧ ∀ l, H l = none → Q (.ref l) (upd H l (.lst ys))) C [p] (.lst ds) C := fun xs H M Q k h z => by
  match xs, h with
  | [v], ⟨h, _⟩ =>
    obtain ⟨a, ys, rfl, h1, h2⟩ := hd.list k h
    refine ⟨a, ys, rfl, .inl h1, fun l hl => ?_⟩
    obtain ⟨n, k2⟩ := k.cell (c := .lst ds) (o := .lst ys) hl h2
    exact z l _ M (Same.refl _) n k2
/-- a new pair -/
theorem pair_new {M H : Hp} {T : Addr} {x y : V} {d e : PyData} (k : Ok K M C H) (hT : H T = none) (hx : Dp K M x d) (hy : Dp K M y e) : ∃ M', Same M M' ∧ Ok K M' C (upd H T (.tup [x, y])) ∧ Dp K M' (.ref T) (.tuple [d, e]) := by
  obtain ⟨s, k2⟩ := k.new (o := .tup [x, y]) hT
  exact ⟨_, s, k2, Dp.tup (.inl (.inl upd_same)) (.cons (dp_mono s hx) (.cons (dp_mono s hy) .nil))⟩
theorem ei_zip {ds es : List PyData} (h : Ea K ta ρ C [p, q] C1) (hp : Dat K C1 p (.list ds)) (hq : Dat K C1 q (.list es)) (hl : es.length = ds.length) :
    Ei K (RZ.iZipA K ta) ρ C ds.length (fun i => pD K (.tuple [ds.getD i .none, es.getD i .none])) C1 (fun C => Dat K C p (.list ds) ∧ Dat K C q (.list es)) := fun σ H M R e k z =>
  h σ H M _ e k fun vs H1 M1 e1 k1 hv => by
    match vs, hv with
    | [v, u], ⟨hv, hu, _⟩ =>
      obtain ⟨a, xs, rfl, q1, _⟩ := hp.list k1 hv
      obtain ⟨b, ys, rfl, q2, _⟩ := hq.list k1 hu
      refine ⟨a, b, xs, ys, rfl, .inl ⟨q1, q2, z _ H1 M1 e1 k1 fun C2 H2 M2 s2 k2 g2 => ?_⟩⟩
      obtain ⟨a', xs, e', r1, r2⟩ := g2.1.list k2 (p.mono s2 hv)
      cases e'
      obtain ⟨b', ys, e', t1, t2⟩ := g2.2.list k2 (q.mono s2 hu)
      cases e'
      have l1 := dpAll_len r2
      have l2 := dpAll_len t2
      refine ⟨⟨xs, ys, r1, t1, .inl (by omega)⟩, fun i hi => ⟨⟨xs, ys, xs[i]'(by omega), ys[i]'(by omega), r1, t1, List.getElem?_eq_getElem _, List.getElem?_eq_getElem _⟩, fun x H3 y => ?_⟩⟩
      obtain ⟨T, x1, y1, rfl, hT, rfl, f1, f2⟩ := y
      obtain ⟨d, d1, d2⟩ := dpAll_getV r2 (f1 xs r1)
      obtain ⟨e, e1, e2⟩ := dpAll_getV t2 (f2 ys t1)
      obtain ⟨M3, s3, k3, h3⟩ := pair_new k2 hT d2 e2
      refine ⟨M3, s3, k3, ?_⟩
      show Dp K M3 _ (.tuple [ds.getD i .none, es.getD i .none])
      rw [List.getD_eq_getElem?_getD, List.getD_eq_getElem?_getD, d1, e1]; exact h3
theorem ei_zipT {ds es : List PyData} (h : Ea K ta ρ C [pD K (.tuple ds), pD K (.tuple es)] C1) (hl : es.length = ds.length) :
    Ei K (RZ.iZipA K ta) ρ C ds.length (fun i => pD K (.tuple [ds.getD i .none, es.getD i .none])) C1 (fun _ => True) := fun σ H M R e k z =>
  h σ H M _ e k fun vs H1 M1 e1 k1 hv => by
    match vs, hv with
    | [v, u], ⟨hv, hu, _⟩ =>
      obtain ⟨a, xs, rfl, q1, r2⟩ := d_tup hv
      obtain ⟨b, ys, rfl, q2, t2⟩ := d_tup hu
      refine ⟨a, b, xs, ys, rfl, .inr ⟨sqT_mono k1.fz q1, sqT_mono k1.fz q2, z _ H1 M1 e1 k1 fun C2 H2 M2 s2 k2 _ => ?_⟩⟩
      have r1 := sqT_mono k2.fz (sqT_mono s2 q1)
      have t1 := sqT_mono k2.fz (sqT_mono s2 q2)
      have l1 := dpAll_len r2
      have l2 := dpAll_len t2
      refine ⟨⟨xs, ys, r1, t1, .inl (by omega)⟩, fun i hi => ⟨⟨xs, ys, xs[i]'(by omega), ys[i]'(by omega), r1, t1, List.getElem?_eq_getElem _, List.getElem?_eq_getElem _⟩, fun x H3 y => ?_⟩⟩
      obtain ⟨T, x1, y1, rfl, hT, rfl, f1, f2⟩ := y
      obtain ⟨d, d1, d2⟩ := dpAll_getV (dpAll_mono s2 r2) (f1 xs r1)
      obtain ⟨e, e1, e2⟩ := dpAll_getV (dpAll_mono s2 t2) (f2 ys t1)
      obtain ⟨M3, s3, k3, h3⟩ := pair_new k2 hT d2 e2
      refine ⟨M3, s3, k3, ?_⟩
      show Dp K M3 _ (.tuple [ds.getD i .none, es.getD i .none])
      rw [List.getD_eq_getElem?_getD, List.getD_eq_getElem?_getD, d1, e1]; exact h3
theorem ei_enum {ds : List PyData} (h : Ea K ta ρ C [p] C1) (hp : Dat K C1 p (.list ds)) : Ei K (iEnum K ta) ρ C ds.length (fun i => pD K (.tuple [.int (i : Int), ds.getD i .none])) C1 (fun C => Dat K C p (.list ds)) := fun σ H M R e k z =>
  h σ H M _ e k fun vs H1 M1 e1 k1 hv => by
    match vs, hv with
    | [v], ⟨hv, _⟩ =>
      obtain ⟨a, xs, rfl, q1, _⟩ := hp.list k1 hv
      refine ⟨a, xs, rfl, q1, z _ H1 M1 e1 k1 fun C2 H2 M2 s2 k2 g2 => ?_⟩
      obtain ⟨a', xs, e', r1, r2⟩ := g2.list k2 (p.mono s2 hv)
      cases e'
      have l1 := dpAll_len r2
      refine ⟨⟨xs, r1, by omega⟩, fun i hi => ⟨⟨xs, xs[i]'(by omega), r1, List.getElem?_eq_getElem _⟩, fun x H3 y => ?_⟩⟩
      obtain ⟨T, x1, rfl, hT, rfl, f1⟩ := y
      obtain ⟨d, d1, d2⟩ := dpAll_getV r2 (f1 xs r1)
      obtain ⟨M3, s3, k3, h3⟩ := pair_new k2 hT (Dp.int (i : Int)) d2
      refine ⟨M3, s3, k3, ?_⟩
      show Dp K M3 _ (.tuple [.int (i : Int), ds.getD i .none])
      rw [List.getD_eq_getElem?_getD, d1]; exact h3
/-- range(lo, hi, -1) -/
theorem ei_down {lo j : Int} (h : Ea K ta ρ C [pD K (.int lo), pD K (.int j), pD K (.int (-1))] C1) (h0 : -(2 ^ 62) ≤ lo) (h1 : lo < 2 ^ 62) (h2 : -(2 ^ 62) ≤ j) (h3 : j < 2 ^ 62) : Ei K (iRng3 ta) ρ C (lo - j).toNat (fun i => pD K (.int (lo - (i : Int)))) C1 (fun _ => True) := fun σ H M R e k z =>
  h σ H M _ e k fun vs H1 M1 e1 k1 hv => by
    match vs, hv with
    | [v, u, w], ⟨hv, hu, hw, _⟩ =>
      have := d_int hv; subst this
      have := d_int hu; subst this
      have := d_int hw; subst this
      refine ⟨lo, j, -1, _, rfl, RgC.neg h0 h1 h2 h3, z _ H1 M1 e1 k1 fun C2 H2 M2 _ k2 _ => ⟨Nat.le_refl _, fun i hi => ⟨hi, fun x H3 y => ?_⟩⟩⟩
      obtain ⟨rfl, rfl⟩ := y
      refine ⟨M2, Same.refl _, k2, ?_⟩
      have e : lo + (i : Nat) * (-1) = lo - (i : Int) := by omega
      rw [e]; exact Dp.int _
/-! targets of two -/
theorem egv_pair {i j : Nat} {vs : List Nat} {d e : PyData} (hi : i ∈ vs) (hj : j ∈ vs) : Egv K (gTup K 2 (gCons (gName i) (gCons (gName j) gNil))) ρ vs C (pD K (.tuple [d, e])) ((ρ.set i (some (pD K d))).set j (some (pD K e))) := fun v σ H M Q en k hv z => by
  obtain ⟨a, xs, rfl, h1, h2⟩ := d_tup hv
  cases h2 with
  | cons hx h2 =>
    cases h2 with
    | cons hy h2 =>
      cases h2
      exact ⟨a, _, rfl, sqT_mono k.fz h1, rfl, _, _, rfl, _, _, rfl, rfl, z _ H M (Same.refl _) (by rw [wipe_set hj, wipe_set hi]) ((en.set hx i).set hy j) k⟩
theorem eg_pair {i j : Nat} {d e : PyData} : Eg K (gTup K 2 (gCons (gName i) (gCons (gName j) gNil))) ρ C (pD K (.tuple [d, e])) ((ρ.set i (some (pD K d))).set j (some (pD K e))) C := fun v σ H M Q en k hv z => by
  obtain ⟨a, xs, rfl, h1, h2⟩ := d_tup hv
  cases h2 with
  | cons hx h2 =>
    cases h2 with
    | cons hy h2 =>
      cases h2
      exact ⟨a, _, rfl, sqT_mono k.fz h1, rfl, _, _, rfl, _, _, rfl, rfl, z _ H M (Same.refl _) ((en.set hx i).set hy j) k⟩
/-! more built-ins -/
theorem ek_all {bs : List Bool} : Ek K (rAll K) C [pD K (.list (bs.map PyData.bool))] (pD K (.bool (bs.all id))) C := fun xs H M Q k h z => by
  match xs, h with
  | [v], ⟨h, _⟩ =>
    obtain ⟨a, ys, rfl, h1, h2⟩ := d_lst h
    have := dpAll_bools h2; subst this
    exact ⟨a, bs, rfl, k.fz.seq h1, z _ H M (Same.refl _) k (.bl _)⟩
theorem ek_intB {b : Bool} : Ek K (fun xs H Q => (∃ i, xs = [.int i] ∧ Q (.int i) H) ∨ ∃ k, xs = [.bl k] ∧ Q (.int (if k then 1 else 0)) H) C [pD K (.bool b)] (pD K (.int (if b then 1 else 0))) C := fun xs H M Q k h z => by
  match xs, h with
  | [v], ⟨h, _⟩ => have := d_bl h; subst this; exact .inr ⟨b, rfl, z _ H M (Same.refl _) k (.int _)⟩
def isNone : PyData → Bool | .none => true | _ => false
theorem er_isN {d : PyData} : Er K (fun x y H Q => y = .non ∧ Q (.bl (decide (x = .non))) H) C (pD K d) (pD K .none) (pD K (.bool (isNone d))) C := fun x y H M Q k hx hy z => by
  have := d_non hy; subst this
  refine ⟨rfl, ?_⟩
  have e : decide (x = .non) = isNone d := by
    cases hx <;> simp [isNone]
  rw [e]
  exact z _ H M (Same.refl _) k (.bl _)
theorem er_isNA {d : PyData} (hd : Dat K C p d) : Er K (fun x y H Q => y = .non ∧ Q (.bl (decide (x = .non))) H) C p (pD K .none) (pD K (.bool (isNone d))) C := fun x y H M Q k hx hy z => by
  have := d_non hy; subst this
  refine ⟨rfl, ?_⟩
  have e : decide (x = .non) = isNone d := by
    have := hd.as M H x k hx
    cases this <;> simp [isNone]
  rw [e]
  exact z _ H M (Same.refl _) k (.bl _)
/-- x.clear(), x a list -/
theorem ec_clear {a : Addr} {ds : List PyData} (ho : Ec K to ρ C (pRef a) C1) (hc : C1 a = some (.lst ds)) : Ec K (tBM0 K "list" rClear to) ρ C (pD K .none) (updC C1 a (.lst [])) := fun σ H M Q e k z =>
  ho σ H M _ e k fun x H1 M1 e1 k1 hx => by
    have hx' : x = .ref a := hx
    subst hx'
    obtain ⟨xs, q1, q2⟩ := k1.lst hc
    exact ⟨.inl ⟨rfl, xs, .inl (.inl q1)⟩, a, xs, rfl, rfl, q1, z _ _ M1 e1 (k1.set hc (show DpAll K M1 [] [] from .nil)) .non⟩
end
theorem fn_never {P : Program} {w : World} {K : PySem.W.Frag} {mg : Str → Option Value} {base : Heap} {CX : CXT} {k : Nat} {f : Addr} {fd : FuncData} {ps : List Str} {sp : Sp} (h : ∀ vs H Q E, ¬ sp vs H Q E) : FnOk P w K mg base CX k f fd ps sp :=
  ⟨fun vs H Q E q => (h vs H Q E q).elim, fun _ _ _ _ _ _ _ _ _ _ _ _ _ q => (h _ _ _ _ q).elim⟩
theorem er_ipI {K : PySem.W.Frag} {C : Cs} {f : Int → Int → Int} {i j n : Int} (h : f i j = n) : Er K (ipI f) C (pD K (.int i)) (pD K (.int j)) (pD K (.int n)) C := by
  subst h
  exact er_scal (fun _ _ => d_int) (fun _ _ => d_int) (fun _ => .int _) fun H Q q => ⟨i, j, rfl, rfl, q⟩
/-! two cells -/
theorem upd2 {C : Cs} {a b : Addr} {p x y : Cell} (h : a ≠ b) : updC (updC (updC C b x) a p) b y = updC (updC C b y) a p := by
  rw [updC_comm (Ne.symm h), updC_updC]
  exact updC_comm h
theorem get2 {C : Cs} {a b : Addr} {p : Cell} (h : b ≠ a) {x : Option Cell} (e : C b = x) : updC C a p b = x := by
  rw [updC_ne h]; exact e
theorem none_ne {C : Cs} {a b : Addr} {p : Cell} (h : updC C a p b = none) : b ≠ a ∧ C b = none := by
  have : b ≠ a := fun e => by subst e; rw [updC_same] at h; cases h
  exact ⟨this, by rw [updC_ne this] at h; exact h⟩
theorem ec_neg {K : PySem.W.Frag} {ρ : En} {C C1 : Cs} {ta : TE} {i : Int} (h : Ec K ta ρ C (pD K (.int i)) C1) : Ec K (tUn (rU fun i => .int (-i)) ta) ρ C (pD K (.int (-i))) C1 :=
  ec_un h fun x H M Q k hx z => by have := d_int hx; subst this; exact ⟨_, rfl, z _ H M (Same.refl _) k (.int _)⟩
/-! ### tracked lists; sums of lists -/
section
variable {K : PySem.W.Frag} {ρ : En} {C C1 C2 C3 : Cs} {tl te to t : TE} {ta : TA} {p q : Pd} {M0 : Hp} {D : Ends} {u : TS} {c c' : Cell}
def pLP (K : PySem.W.Frag) (ds : List PyData) (M : Hp) (v : V) : Prop := ∃ (a : Addr) (xs : List V), v = .ref a ∧ M a = some (.lst xs) ∧ DpAll K M xs ds
/-- a frozen list that is tracked -/
def pL (K : PySem.W.Frag) (ds : List PyData) : Pd := ⟨pLP K ds, fun e ⟨a, xs, h1, h2, h3⟩ => ⟨a, xs, h1, e _ _ h2, dpAll_mono e h3⟩⟩
def Trk (K : PySem.W.Frag) (C : Cs) (p : Pd) (ds : List PyData) : Prop := ∀ (M H : Hp) (v : V), Ok K M C H → p.p M v → ∃ (a : Addr) (xs : List V), v = .ref a ∧ H a = some (.lst xs) ∧ DpAll K M xs ds
theorem trk_L {ds : List PyData} : Trk K C (pL K ds) ds := fun M H v k ⟨a, xs, h1, h2, h3⟩ => ⟨a, xs, h1, k.fz _ _ h2, h3⟩
theorem trk_C {a : Addr} {ds : List PyData} (h : C a = some (.lst ds)) : Trk K C (pRef a) ds := fun M H v k hv => by
  obtain ⟨xs, h1, h2⟩ := k.lst h
  exact ⟨a, xs, hv, h1, h2⟩
theorem Ew.listL {ds : List PyData} (h : Ew K t ρ C (.lst ds) C1) : Ec K t ρ C (pL K ds) C1 := fun σ H M Q e k z => h σ H M Q e k fun a H' M' s n k' => by
  obtain ⟨o, h1, h2, h3, h4⟩ := k'.freeze n
  cases o <;> first | exact False.elim h2 | skip
  rename_i xs
  exact z (.ref a) H' _ (s.trans h3) h4 ⟨a, xs, rfl, upd_same, dpAll_mono h3 h2⟩
theorem pL_D {ds : List PyData} (M : Hp) (v : V) (h : (pL K ds).p M v) : (pD K (.list ds)).p M v := by
  obtain ⟨a, xs, rfl, h2, h3⟩ := h
  exact Dp.lst (.inl (.inl h2)) h3
theorem er_cat {ds es : List PyData} (hp : Trk K C p ds) (hq : Trk K C q es) (hl : ds.length + es.length ≤ sizeLine) : ErW K rCat C p q (.lst (ds ++ es)) C := fun x y H M Q k hx hy z => by
  obtain ⟨a, xs, rfl, h1, h2⟩ := hp M H x k hx
  obtain ⟨b, ys, rfl, g1, g2⟩ := hq M H y k hy
  refine ⟨a, b, xs, ys, rfl, rfl, h1, g1, by rw [dpAll_len h2, dpAll_len g2]; exact hl, fun l hl => ?_⟩
  obtain ⟨n, k2⟩ := k.cell (c := .lst (ds ++ es)) (o := .lst (xs ++ ys)) hl (dpAll_append h2 g2)
  exact z l _ M (Same.refl _) n k2
theorem er_repL {ds : List PyData} {n : Int} (hp : Trk K C p ds) (h0 : -(2 ^ 63) ≤ n) (h1 : n < 2 ^ 63) (hl : ds.length * n.toNat ≤ sizeLine) : ErW K rRep C p (pD K (.int n)) (.lst (List.replicate n.toNat ds).flatten) C := fun x y H M Q k hx hy z => by
  obtain ⟨a, xs, rfl, q1, q2⟩ := hp M H x k hx
  have := d_int hy; subst this
  refine ⟨a, n, xs, rfl, rfl, q1, h0, h1, by rw [dpAll_len q2]; exact hl, fun l hl => ?_⟩
  obtain ⟨m, k2⟩ := k.cell (c := .lst (List.replicate n.toNat ds).flatten) (o := .lst (List.replicate n.toNat xs).flatten) hl (dpAll_flatrep q2 _)
  exact z l _ M (Same.refl _) m k2
/-! a new cell as an argument -/
theorem ek_sp {γ : Type} {A : γ → List Pd} {pre : γ → Cs → Prop} {r : γ → Pd} {eff : γ → Cs → Cs} {E : XK} (g : γ) (hp : pre g C) : Ek K (fun vs H Q => spF K A pre r eff vs H Q E) C (A g) (r g) (eff g C) := fun xs H M Q k h z => ⟨g, M, C, k, h, hp, fun v H' M' s k' hv => z v H' M' s k' hv⟩
theorem ec_call1W {sp : Sp} {E : XK} (h : Ew K te ρ C c C1) (hk : ∀ a, C1 a = none → Ek K (fun vs H Q => sp vs H Q E) (updC C1 a c) [pRef a] p (updC C1 a c')) : Ec K (tCall sp [] E (tCons te tNil)) ρ C p C1 := fun σ H M Q e k z =>
  h σ H M _ e k fun a H1 M1 e1 n1 k1 => by
    show sp ([.ref a] ++ []) H1 Q E
    rw [List.append_nil]
    exact hk a n1 [.ref a] H1 M1 Q k1 ⟨rfl, trivial⟩ fun v H2 M2 s2 k2 hv => z v H2 M2 (e1.trans s2) (k2.less (Sub.upd n1)) hv
/-! range by a step -/
theorem ei_step {j st : Int} (h : Ea K ta ρ C [pD K (.int 0), pD K (.int j), pD K (.int st)] C1) (h0 : 0 ≤ j) (h1 : j < 2 ^ 60) (h2 : 0 < st) (h3 : st < 1000) : Ei K (iRng3 ta) ρ C ((j + st - 1) / st).toNat (fun i => pD K (.int ((i : Int) * st))) C1 (fun _ => True) := fun σ H M R e k z =>
  h σ H M _ e k fun vs H1 M1 e1 k1 hv => by
    match vs, hv with
    | [v, u, w], ⟨hv, hu, hw, _⟩ =>
      have := d_int hv; subst this
      have := d_int hu; subst this
      have := d_int hw; subst this
      have b0 : 0 ≤ (j - 0 - 1) / st + 1 ∨ j = 0 := by
        by_cases hj : j = 0
        · exact .inr hj
        · have := Int.ediv_nonneg (show 0 ≤ j - 0 - 1 by omega) (show 0 ≤ st by omega)
          exact .inl (by omega)
      have hsz : Builtin.Range.rangeSize 0 j st = (((j + st - 1) / st).toNat : Int) := by
        unfold Builtin.Range.rangeSize
        rw [if_pos h2]
        by_cases hj : j = 0
        · subst hj
          have e0 : (0 + st - 1) / st = 0 := Int.ediv_eq_zero_of_lt (by omega) (by omega)
          rw [if_neg (by omega), e0]; rfl
        · have e0 : (j + st - 1) / st = (j - 0 - 1) / st + 1 := by
            rw [show j + st - 1 = (j - 0 - 1) + 1 * st by omega, Int.add_mul_ediv_right _ _ (by omega)]
          rw [if_pos (by omega), e0]
          rcases b0 with b | b <;> omega
      have hle : (j - 0 - 1) / st ≤ j := by
        by_cases hj : j = 0
        · subst hj; exact Int.le_trans (Int.ediv_le_ediv h2 (show (0 : Int) - 0 - 1 ≤ 0 by omega)) (by simp)
        · exact Int.le_trans (Int.ediv_le_self _ (by omega)) (by omega)
      have hsm : Builtin.Range.small 0 j st = true := by
        have hn : 0 ≤ (((j + st - 1) / st).toNat : Int) ∧ (((j + st - 1) / st).toNat : Int) ≤ j + 1 := by
          rw [← hsz]
          unfold Builtin.Range.rangeSize
          rw [if_pos h2]
          split
          · rcases b0 with b | b <;> omega
          · omega
        have hmul : (((j + st - 1) / st).toNat : Int) * st ≤ (j + 1) * 1000 := Int.mul_le_mul hn.2 (by omega) (by omega) (by omega)
        have hmul0 : 0 ≤ (((j + st - 1) / st).toNat : Int) * st := Int.mul_nonneg hn.1 (by omega)
        unfold Builtin.Range.small
        rw [hsz]
        simp only [Builtin.Range.rangeFitsLong, Bool.and_eq_true, Bool.or_eq_true, decide_eq_true_eq, beq_iff_eq]
        refine ⟨⟨⟨⟨⟨by omega, by omega⟩, by omega, by omega⟩, by omega, by omega⟩, by omega, by omega⟩, .inr ?_⟩
        rw [if_pos h2, decide_eq_true (by omega), decide_eq_true (by omega)]; rfl
      refine ⟨0, j, st, _, rfl, ⟨by omega, by omega, hsm, hsz⟩, z _ H1 M1 e1 k1 fun C2 H2 M2 _ k2 _ => ⟨Nat.le_refl _, fun i hi => ⟨hi, fun x H3 y => ?_⟩⟩⟩
      obtain ⟨rfl, rfl⟩ := y
      refine ⟨M2, Same.refl _, k2, ?_⟩
      rw [Int.zero_add]; exact Dp.int _
/-! cuts -/
theorem cut_to {α : Type} (l : List α) (m : Nat) : (l.drop (HT.sIx l.length 0 none)).take (HT.sIx l.length l.length (some (m : Int)) - HT.sIx l.length 0 none) = l.take m := by
  rw [HT.sIx_none, HT.sIx_nat, List.drop_zero, Nat.sub_zero]
  by_cases h : m ≤ l.length
  · rw [Nat.min_eq_left h]
  · rw [Nat.min_eq_right (by omega), List.take_length, List.take_of_length_le (by omega)]
theorem cut_from {α : Type} (l : List α) (m : Nat) : (l.drop (HT.sIx l.length 0 (some (m : Int)))).take (HT.sIx l.length l.length none - HT.sIx l.length 0 (some (m : Int))) = l.drop m := by
  rw [HT.sIx_none, HT.sIx_nat]
  by_cases h : m ≤ l.length
  · rw [Nat.min_eq_left h, List.take_of_length_le (by rw [List.length_drop]; omega)]
  · rw [Nat.min_eq_right (by omega), List.drop_of_length_le (Nat.le_refl _), List.drop_of_length_le (by omega), List.take_nil]
theorem cut_mid {α : Type} (l : List α) (p m : Nat) : (l.drop (HT.sIx l.length 0 (some (p : Int)))).take (HT.sIx l.length l.length (some ((p : Int) + (m : Int))) - HT.sIx l.length 0 (some (p : Int))) = (l.drop p).take m := by
  rw [HT.sIx_nat, show ((p : Int) + (m : Int)) = ((p + m : Nat) : Int) by omega, HT.sIx_nat]
  by_cases h : p ≤ l.length
  · rw [Nat.min_eq_left h]
    by_cases h2 : p + m ≤ l.length
    · rw [Nat.min_eq_left h2]; congr 1; omega
    · rw [Nat.min_eq_right (by omega), List.take_of_length_le (by rw [List.length_drop]; omega), List.take_of_length_le (by rw [List.length_drop]; omega)]
  · rw [Nat.min_eq_right (by omega), Nat.min_eq_right (by omega), List.drop_of_length_le (Nat.le_refl _), List.drop_of_length_le (by omega), List.take_nil, List.take_nil]
theorem cut_init {α : Type} (l : List α) : (l.drop (HT.sIx l.length 0 none)).take (HT.sIx l.length l.length (some (-1)) - HT.sIx l.length 0 none) = l.dropLast := by
  have e : HT.sIx l.length l.length (some (-1)) = l.length - 1 := by
    show (if (-1 : Int) < 0 then ((-1 : Int) + (l.length : Int)).toNat else min (-1 : Int).toNat l.length) = _
    rw [if_pos (by decide)]; omega
  rw [e, HT.sIx_none, List.drop_zero, Nat.sub_zero, List.dropLast_eq_take]
/-! texts' methods -/
end
/-- x * n, texts -/
def rMulS : R2 := fun x y H Q => ∃ a n, x = .str a ∧ y = .int n ∧ MulOk a n ∧ Q (.str (Txt.mul a n)) H
theorem op_mulS {X : Cx} : OpR X (binaryOp .Mult) rMulS := by
  intro pins s σ H x y v u Q I rx ry h
  obtain ⟨a, n, rfl, rfl, hok, q⟩ := h
  obtain ⟨t, rfl⟩ := rx
  obtain ⟨t', rfl⟩ := ry
  exact SB.mul hok fun t2 k => ⟨.str _, H, I.tok _, ⟨_, rfl⟩, q⟩
theorem er_mulS {K : PySem.W.Frag} {C : Cs} {x : Str} {n : Int} (h : MulOk x n) : Er K rMulS C (pD K (.str x)) (pD K (.int n)) (pD K (.str (Txt.mul x n))) C :=
  er_scal (fun _ _ => d_str) (fun _ _ => d_int) (fun _ => .str _) fun H Q q => ⟨x, n, rfl, rfl, h, q⟩
/-- s.m(t): a method of a text with one text -/
theorem ec_strM {K : PySem.W.Frag} {ρ : En} {C C1 C2 : Cs} {to te : TE} {a b : Str} {d : PyData} {r : V → List V → Hp → VK → Prop} (ho : Ec K to ρ C (pD K (.str a)) C1) (he : Ec K te ρ C1 (pD K (.str b)) C2) {z0 : V} (hz : ∀ M, Dp K M z0 d) (hr : ∀ H Q, Q z0 H → r (.str a) [.str b] H Q) :
    Ec K (tBM K "str" r to (tCons te tNil)) ρ C (pD K d) C2 := fun σ H M Q e k z =>
  ho σ H M _ e k fun x H1 M1 e1 k1 hx => by
    have := d_str hx; subst this
    refine ⟨rfl, he σ H1 M1 _ (e.mono e1) k1 fun y H2 M2 e2 k2 hy => ?_⟩
    have := d_str hy; subst this
    exact hr H2 Q (z _ H2 M2 (e1.trans e2) k2 (hz M2))
/-! garbage is dropped at the end -/
theorem Sub.none {C C1 : Cs} {a : Addr} (s : Sub C C1) (h : C1 a = Option.none) : C a = Option.none := by
  cases e : C a with
  | none => rfl
  | some c => rw [s a c e] at h; cases h
theorem RtW.less {K : PySem.W.Frag} {M0 : Hp} {R : VK} {c : Cell} {C C1 : Cs} (s : Sub C C1) (h : RtW K M0 R c C) : RtW K M0 R c C1 := fun a H M s1 n o => h a H M s1 (s.none n) (o.less s.both)
theorem Rt.less {K : PySem.W.Frag} {M0 : Hp} {R : VK} {p : Pd} {C C1 : Cs} (s : Sub C C1) (h : Rt K M0 R p C) : Rt K M0 R p C1 := fun v H M s1 o hv => h v H M s1 (o.less s) hv
/-! ### data that are not told word by word -/
/-- some datum with φ -/
def pE (K : PySem.W.Frag) (φ : PyData → Prop) : Pd := ⟨fun M v => ∃ d, φ d ∧ Dp K M v d, fun e ⟨d, h, h'⟩ => ⟨d, h, dp_mono e h'⟩⟩
/-- some whole number with φ -/
def pI (φ : Int → Prop) : Pd := ⟨fun _ v => ∃ i, φ i ∧ v = .int i, fun _ h => h⟩
def pBl (φ : Bool → Prop) : Pd := ⟨fun _ v => ∃ i, φ i ∧ v = .bl i, fun _ h => h⟩
def isZ (φ : Int → Prop) : PyData → Prop := fun d => ∃ i, d = .int i ∧ φ i
def isLs (φ : List PyData → Prop) : PyData → Prop := fun d => ∃ ds, d = .list ds ∧ φ ds
def isTx (φ : List Nat → Prop) : PyData → Prop := fun d => ∃ l, d = .str (sL l) ∧ φ l
/-- one int in a list -/
def pZ : Pd := pI fun _ => True
def purse : Cell := .lstP [pZ]
def EtE (K : PySem.W.Frag) (t : TT) (ρ : En) (C : Cs) (φ : Bool → Prop) (C' : Cs) : Prop := ∀ (σ : L2.St) (H M : Hp) (Q : Bool → Hp → Prop), EnvOk M ρ σ → Ok K M C H → (∀ b H' M', Same M M' → Ok K M' C' H' → φ b → Q b H') → t σ H Q
def EwE (K : PySem.W.Frag) (t : TE) (ρ : En) (C : Cs) (Φ : Cell → Prop) (C' : Cs) : Prop := ∀ (σ : L2.St) (H M : Hp) (Q : VK), EnvOk M ρ σ → Ok K M C H → (∀ a c H' M', Same M M' → Φ c → C' a = none → Ok K M' (updC C' a c) H' → Q (.ref a) H') → t σ H Q
def EoE (K : PySem.W.Frag) (t : TO) (ρ : En) (C : Cs) (φ : Option Int → Prop) (C' : Cs) : Prop := ∀ (σ : L2.St) (H M : Hp) (Q : Option Int → Hp → Prop), EnvOk M ρ σ → Ok K M C H → (∀ o H' M', Same M M' → Ok K M' C' H' → φ o → Q o H') → t σ H Q
section
variable {K : PySem.W.Frag} {M0 : Hp} {t u : TS} {te ta tb : TE} {D : Ends} {ρ ρ' : En} {C C1 C2 C' : Cs} {p q s : Pd} {c : Cell} {φ ψ : PyData → Prop} {f g : Int → Prop}
theorem Ec.toE {d : PyData} (h : Ec K te ρ C (pD K d) C') (hd : φ d) : Ec K te ρ C (pE K φ) C' := h.imp fun M v hv => ⟨d, hd, hv⟩
theorem Ec.mapE (h : Ec K te ρ C (pE K φ) C') (m : ∀ d, φ d → ψ d) : Ec K te ρ C (pE K ψ) C' := h.imp fun M v ⟨d, hd, hv⟩ => ⟨d, m d hd, hv⟩
theorem Ec.toI {i : Int} (h : Ec K te ρ C (pD K (.int i)) C') (hd : f i) : Ec K te ρ C (pI f) C' := h.imp fun M v hv => ⟨i, hd, d_int hv⟩
theorem Ec.mapI (h : Ec K te ρ C (pI f) C') (m : ∀ i, f i → g i) : Ec K te ρ C (pI g) C' := h.imp fun M v ⟨i, hd, hv⟩ => ⟨i, m i hd, hv⟩
theorem Ec.I_E (h : Ec K te ρ C (pI f) C') (m : ∀ i, f i → φ (.int i)) : Ec K te ρ C (pE K φ) C' := h.imp fun M v ⟨i, hd, hv⟩ => ⟨.int i, m i hd, by rw [hv]; exact .int i⟩
theorem Ec.E_I (h : Ec K te ρ C (pE K φ) C') (m : ∀ d, φ d → ∃ i, d = .int i ∧ f i) : Ec K te ρ C (pI f) C' := h.imp fun M v ⟨d, hd, hv⟩ => by
  obtain ⟨i, rfl, hf⟩ := m d hd
  exact ⟨i, hf, d_int hv⟩
theorem ec_op' {r : R2} (ha : Ec K ta ρ C p C1) (hb : Ec K tb ρ C1 q C2) (hr : Er K r C2 p q s C2) : Ec K (tOp r ta tb) ρ C s C2 := ec_op ha hb hr
theorem er_exL {r : R2} (h : ∀ d, φ d → Er K r C (pD K d) q s C') : Er K r C (pE K φ) q s C' := fun x y H M Q k ⟨d, hd, hx⟩ hy z => h d hd x y H M Q k hx hy z
theorem er_exR {r : R2} (h : ∀ d, φ d → Er K r C p (pD K d) s C') : Er K r C p (pE K φ) s C' := fun x y H M Q k hx ⟨d, hd, hy⟩ z => h d hd x y H M Q k hx hy z
theorem er_iL {r : R2} (h : ∀ i, f i → Er K r C (pD K (.int i)) q s C') : Er K r C (pI f) q s C' := fun x y H M Q k ⟨i, hi, hx⟩ hy z => h i hi x y H M Q k (by rw [hx]; exact .int i) hy z
theorem er_iR {r : R2} (h : ∀ i, f i → Er K r C p (pD K (.int i)) s C') : Er K r C p (pI f) s C' := fun x y H M Q k hx ⟨i, hi, hy⟩ z => h i hi x y H M Q k hx (by rw [hy]; exact .int i) z
theorem Er.toE {r : R2} {d : PyData} (h : Er K r C p q (pD K d) C') (hd : φ d) : Er K r C p q (pE K φ) C' := fun x y H M Q k hx hy z => h x y H M Q k hx hy fun v H' M' s' k' hv => z v H' M' s' k' ⟨d, hd, hv⟩
theorem Er.toI {r : R2} {i : Int} (h : Er K r C p q (pD K (.int i)) C') (hd : f i) : Er K r C p q (pI f) C' := fun x y H M Q k hx hy z => h x y H M Q k hx hy fun v H' M' s' k' hv => z v H' M' s' k' ⟨i, hd, d_int hv⟩
theorem Er.toB {r : R2} {b : Bool} {f : Bool → Prop} (h : Er K r C p q (pD K (.bool b)) C') (hd : f b) : Er K r C p q (pBl f) C' := fun x y H M Q k hx hy z => h x y H M Q k hx hy fun v H' M' s' k' hv => z v H' M' s' k' ⟨b, hd, d_bl hv⟩
/-- an operator on a number that isn't told -/
theorem ec_opI {r : R2} {n : Int → Int} (ha : Ec K ta ρ C p C1) (hb : Ec K tb ρ C1 (pI f) C2) (hr : ∀ i, f i → Er K r C2 p (pD K (.int i)) (pD K (.int (n i))) C2) : Ec K (tOp r ta tb) ρ C (pI fun m => ∃ i, f i ∧ m = n i) C2 :=
  ec_op ha hb (er_iR fun i hi => (hr i hi).toI ⟨i, hi, rfl⟩)
theorem ec_opIL {r : R2} {n : Int → Int} (ha : Ec K ta ρ C (pI f) C1) (hb : Ec K tb ρ C1 q C2) (hr : ∀ i, f i → Er K r C2 (pD K (.int i)) q (pD K (.int (n i))) C2) : Ec K (tOp r ta tb) ρ C (pI fun m => ∃ i, f i ∧ m = n i) C2 :=
  ec_op ha hb (er_iL fun i hi => (hr i hi).toI ⟨i, hi, rfl⟩)
theorem ec_opII {r : R2} {n : Int → Int → Int} (ha : Ec K ta ρ C (pI f) C1) (hb : Ec K tb ρ C1 (pI g) C2) (hr : ∀ i j, f i → g j → Er K r C2 (pD K (.int i)) (pD K (.int j)) (pD K (.int (n i j))) C2) : Ec K (tOp r ta tb) ρ C (pI fun m => ∃ i j, f i ∧ g j ∧ m = n i j) C2 :=
  ec_op ha hb (er_iL fun i hi => er_iR fun j hj => (hr i j hi hj).toI ⟨i, j, hi, hj, rfl⟩)
theorem ec_cmpI {r : R2} {n : Int → Bool} (ha : Ec K ta ρ C (pI f) C1) (hb : Ec K tb ρ C1 q C2) (hr : ∀ i, f i → Er K r C2 (pD K (.int i)) q (pD K (.bool (n i))) C2) : Ec K (tOp r ta tb) ρ C (pBl fun b => ∃ i, f i ∧ b = n i) C2 :=
  ec_op ha hb (er_iL fun i hi => (hr i hi).toB ⟨i, hi, rfl⟩)
theorem ec_cmpE {r : R2} {n : PyData → Bool} (ha : Ec K ta ρ C (pE K φ) C1) (hb : Ec K tb ρ C1 q C2) (hr : ∀ i, φ i → Er K r C2 (pD K i) q (pD K (.bool (n i))) C2) : Ec K (tOp r ta tb) ρ C (pBl fun b => ∃ i, φ i ∧ b = n i) C2 :=
  ec_op ha hb (er_exL fun i hi => (hr i hi).toB ⟨i, hi, rfl⟩)
/-! rules of lists of values -/
theorem ec_callK {ta : TA} {ps : List Pd} {sp : Sp} {E : XK} (h : Ea K ta ρ C ps C1) (hk : Ek K (fun vs H Q => sp vs H Q E) C1 ps s C2) : Ec K (tCall sp [] E ta) ρ C s C2 := fun σ H M Q e k z =>
  h σ H M _ e k fun vs H1 M1 e1 k1 h1 => by
    rw [List.append_nil]
    exact hk vs H1 M1 Q k1 h1 fun v H2 M2 s2 k2 hv => z v H2 M2 (e1.trans s2) k2 hv
theorem ek_ex0 {r : List V → Hp → VK → Prop} {ps : List Pd} (h : ∀ d, φ d → Ek K r C (pD K d :: ps) s C') : Ek K r C (pE K φ :: ps) s C' := fun xs H M Q k hx z => by
  match xs, hx with
  | x :: xs, ⟨⟨d, hd, h1⟩, h2⟩ => exact h d hd (x :: xs) H M Q k ⟨h1, h2⟩ z
theorem ek_ex1 {r : List V → Hp → VK → Prop} {ps : List Pd} (h : ∀ d, φ d → Ek K r C (p :: pD K d :: ps) s C') : Ek K r C (p :: pE K φ :: ps) s C' := fun xs H M Q k hx z => by
  match xs, hx with
  | x :: y :: xs, ⟨h0, ⟨d, hd, h1⟩, h2⟩ => exact h d hd (x :: y :: xs) H M Q k ⟨h0, h1, h2⟩ z
theorem ek_ex2 {r : List V → Hp → VK → Prop} {ps : List Pd} (h : ∀ d, φ d → Ek K r C (p :: q :: pD K d :: ps) s C') : Ek K r C (p :: q :: pE K φ :: ps) s C' := fun xs H M Q k hx z => by
  match xs, hx with
  | x :: y :: w :: xs, ⟨h0, h00, ⟨d, hd, h1⟩, h2⟩ => exact h d hd (x :: y :: w :: xs) H M Q k ⟨h0, h00, h1, h2⟩ z
theorem ek_i0 {r : List V → Hp → VK → Prop} {ps : List Pd} (h : ∀ i, f i → Ek K r C (pD K (.int i) :: ps) s C') : Ek K r C (pI f :: ps) s C' := fun xs H M Q k hx z => by
  match xs, hx with
  | x :: xs, ⟨⟨i, hi, h1⟩, h2⟩ => exact h i hi (x :: xs) H M Q k ⟨by rw [h1]; exact .int i, h2⟩ z
theorem ek_i1 {r : List V → Hp → VK → Prop} {ps : List Pd} (h : ∀ i, f i → Ek K r C (p :: pD K (.int i) :: ps) s C') : Ek K r C (p :: pI f :: ps) s C' := fun xs H M Q k hx z => by
  match xs, hx with
  | x :: y :: xs, ⟨h0, ⟨i, hi, h1⟩, h2⟩ => exact h i hi (x :: y :: xs) H M Q k ⟨h0, by rw [h1]; exact .int i, h2⟩ z
theorem ek_b0 {r : List V → Hp → VK → Prop} {ps : List Pd} {f : Bool → Prop} (h : ∀ i, f i → Ek K r C (pD K (.bool i) :: ps) s C') : Ek K r C (pBl f :: ps) s C' := fun xs H M Q k hx z => by
  match xs, hx with
  | x :: xs, ⟨⟨i, hi, h1⟩, h2⟩ => exact h i hi (x :: xs) H M Q k ⟨by rw [h1]; exact .bl i, h2⟩ z
theorem Ek.toI {r : List V → Hp → VK → Prop} {ps : List Pd} {i : Int} (h : Ek K r C ps (pD K (.int i)) C') (hd : f i) : Ek K r C ps (pI f) C' := fun xs H M Q k hx z => h xs H M Q k hx fun v H' M' s' k' hv => z v H' M' s' k' ⟨i, hd, d_int hv⟩
theorem Ek.mapI {r : List V → Hp → VK → Prop} {ps : List Pd} (h : Ek K r C ps (pI f) C') (m : ∀ i, f i → g i) : Ek K r C ps (pI g) C' := fun xs H M Q k hx z => h xs H M Q k hx fun v H' M' s' k' ⟨i, hi, hv⟩ => z v H' M' s' k' ⟨i, m i hi, hv⟩
theorem Ek.toE {r : List V → Hp → VK → Prop} {ps : List Pd} {d : PyData} (h : Ek K r C ps (pD K d) C') (hd : φ d) : Ek K r C ps (pE K φ) C' := fun xs H M Q k hx z => h xs H M Q k hx fun v H' M' s' k' hv => z v H' M' s' k' ⟨d, hd, hv⟩
theorem Ek.mapE {r : List V → Hp → VK → Prop} {ps : List Pd} (h : Ek K r C ps (pE K φ) C') (m : ∀ d, φ d → ψ d) : Ek K r C ps (pE K ψ) C' := fun xs H M Q k hx z => h xs H M Q k hx fun v H' M' s' k' ⟨i, hi, hv⟩ => z v H' M' s' k' ⟨i, m i hi, hv⟩
/-! displays -/
def AllD : List (PyData → Prop) → List PyData → Prop
  | [], [] => True
  | φ :: r, d :: ds => φ d ∧ AllD r ds
  | _, _ => False
theorem allE_data {M : Hp} : ∀ {φs : List (PyData → Prop)} {vs : List V}, AllP M (φs.map (pE K)) vs → ∃ ds, AllD φs ds ∧ DpAll K M vs ds
  | [], [], _ => ⟨[], trivial, .nil⟩
  | _ :: _, _ :: _, ⟨⟨d, hd, h⟩, t⟩ => by
    obtain ⟨ds, h1, h2⟩ := allE_data t
    exact ⟨d :: ds, ⟨hd, h1⟩, .cons h h2⟩
theorem allD_len : ∀ {φs : List (PyData → Prop)} {ds : List PyData}, AllD φs ds → ds.length = φs.length
  | [], [], _ => rfl
  | _ :: _, _ :: _, ⟨_, t⟩ => by rw [List.length_cons, List.length_cons, allD_len t]
def EaE (K : PySem.W.Frag) (t : TA) (ρ : En) (C : Cs) (φs : List (PyData → Prop)) (C' : Cs) : Prop := Ea K t ρ C (φs.map (pE K)) C'
theorem eae_nil : EaE K tNil ρ C [] C := ea_nil
theorem eae_cons {tr : TA} {φs : List (PyData → Prop)} (ha : Ec K ta ρ C (pE K φ) C1) (hr : EaE K tr ρ C1 φs C2) : EaE K (tCons ta tr) ρ C (φ :: φs) C2 := ea_cons ha hr
theorem ewe_lst {ta : TA} {φs : List (PyData → Prop)} (h : EaE K ta ρ C φs C1) (hl : φs.length ≤ sizeLine := by exact Nat.le_of_ble_eq_true rfl) : EwE K (tLst ta) ρ C (fun c => ∃ ds, c = .lst ds ∧ AllD φs ds) C1 := fun σ H M Q e k z =>
  h σ H M _ e k fun vs H1 M1 e1 k1 h1 => by
    obtain ⟨ds, a1, a2⟩ := allE_data h1
    have hl' : ds.length ≤ sizeLine := by rw [allD_len a1]; exact hl
    refine ⟨by rw [dpAll_len a2]; exact hl', fun p hp => ?_⟩
    obtain ⟨n, k2⟩ := k1.cell (c := .lst ds) (o := .lst vs) hp (show DpAll K M1 vs ds from a2)
    exact z p _ _ M1 e1 ⟨ds, rfl, a1⟩ n k2
theorem EwE.list {Φ : Cell → Prop} {φ : List PyData → Prop} (h : EwE K te ρ C Φ C') (m : ∀ c, Φ c → ∃ ds, c = .lst ds ∧ φ ds) : Ec K te ρ C (pE K (isLs φ)) C' := fun σ H M Q e k z => h σ H M Q e k fun a c H' M' s hc n k' => by
  obtain ⟨ds, rfl, hds⟩ := m c hc
  obtain ⟨o, h1, h2, h3, h4⟩ := k'.freeze n
  cases o <;> first | exact False.elim h2 | skip
  rename_i xs
  exact z (.ref a) H' _ (s.trans h3) h4 ⟨_, ⟨ds, rfl, hds⟩, Dp.lst (.inl (.inl upd_same)) (dpAll_mono h3 h2)⟩
theorem Ew.toE {Φ : Cell → Prop} (h : Ew K te ρ C c C') (hc : Φ c) : EwE K te ρ C Φ C' := fun σ H M Q e k z => h σ H M Q e k fun a H' M' s n k' => z a c H' M' s hc n k'
theorem EwE.map {Φ Ψ : Cell → Prop} (h : EwE K te ρ C Φ C') (m : ∀ c, Φ c → Ψ c) : EwE K te ρ C Ψ C' := fun σ H M Q e k z => h σ H M Q e k fun a c H' M' s hc n k' => z a c H' M' s (m c hc) n k'
/-! tests -/
theorem ete_test {t : TE} {f : Bool → Prop} (h : Ec K t ρ C (pBl f) C') : EtE K (tTest t) ρ C f C' := fun σ H M Q e k z => h σ H M _ e k fun v H' M' s k' ⟨b, hb, hv⟩ => ⟨b, hv, z b H' M' s k' hb⟩
theorem Et.toE {t : TT} {b : Bool} {f : Bool → Prop} (h : Et K t ρ C b C') (hb : f b) : EtE K t ρ C f C' := fun σ H M Q e k z => h σ H M _ e k fun H' M' s k' => z b H' M' s k' hb
theorem ete_not {t : TT} {f : Bool → Prop} (h : EtE K t ρ C f C1) : EtE K (tNot t) ρ C (fun b => f !b) C1 := fun σ H M Q e k z => h σ H M _ e k fun b H1 M1 s k1 hb => z (!b) H1 M1 s k1 (by show f (!!b); rw [Bool.not_not]; exact hb)
/-! statements -/
theorem ex_asgE {i : Nat} (h : Ec K te ρ C (pE K φ) C1) (k : ∀ d, φ d → Nx K M0 D.nx (ρ.set i (some (pD K d))) C1) : Ex K M0 (tAsg te (gName i)) D ρ C := fun σ H M s e o =>
  h σ H M _ e o fun v H1 M1 s1 o1 ⟨d, hd, hv⟩ => k d hd _ H1 M1 (s.trans s1) ((e.mono s1).set (p := pD K d) hv i) o1
theorem ex_asgI {i : Nat} (h : Ec K te ρ C (pI f) C1) (k : ∀ n, f n → Nx K M0 D.nx (ρ.set i (some (pD K (.int n)))) C1) : Ex K M0 (tAsg te (gName i)) D ρ C := fun σ H M s e o =>
  h σ H M _ e o fun v H1 M1 s1 o1 ⟨n, hd, hv⟩ => k n hd _ H1 M1 (s.trans s1) ((e.mono s1).set (p := pD K (.int n)) (by rw [hv]; exact .int n) i) o1
theorem ex_asgWE {i : Nat} {Φ : Cell → Prop} (h : EwE K te ρ C Φ C1) (k : ∀ a c, Φ c → C1 a = none → Nx K M0 D.nx (ρ.set i (some (pRef a))) (updC C1 a c)) : Ex K M0 (tAsg te (gName i)) D ρ C := fun σ H M s e o =>
  h σ H M _ e o fun a c H1 M1 s1 hc n1 o1 => k a c hc n1 _ H1 M1 (s.trans s1) ((e.mono s1).set (show (pRef a).p M1 (.ref a) from rfl) i) o1
theorem ex_sasgE {i : Nat} (h : Ec K te ρ C (pE K φ) C1) (k : ∀ d, φ d → Ex K M0 u D (ρ.set i (some (pD K d))) C1) : Ex K M0 (tSeq (tAsg te (gName i)) u) D ρ C := ex_seq (ex_asgE h k)
theorem ex_sasgI {i : Nat} (h : Ec K te ρ C (pI f) C1) (k : ∀ n, f n → Ex K M0 u D (ρ.set i (some (pD K (.int n)))) C1) : Ex K M0 (tSeq (tAsg te (gName i)) u) D ρ C := ex_seq (ex_asgI h k)
theorem ex_sasgWE {i : Nat} {Φ : Cell → Prop} (h : EwE K te ρ C Φ C1) (k : ∀ a c, Φ c → C1 a = none → Ex K M0 u D (ρ.set i (some (pRef a))) (updC C1 a c)) : Ex K M0 (tSeq (tAsg te (gName i)) u) D ρ C := ex_seq (ex_asgWE h k)
theorem ex_ifE {tc : TT} {f : Bool → Prop} (h : EtE K tc ρ C f C1) (h1 : f true → Ex K M0 t D ρ C1) (h2 : f false → Ex K M0 u D ρ C1) : Ex K M0 (tIfS tc t u) D ρ C := fun σ H M s e o =>
  h σ H M _ e o fun b H1 M1 s1 o1 hb => by
    cases b with
    | true => rw [if_pos rfl]; exact h1 hb σ H1 M1 (s.trans s1) (e.mono s1) o1
    | false => rw [if_neg Bool.false_ne_true]; exact h2 hb σ H1 M1 (s.trans s1) (e.mono s1) o1
theorem ex_sif0E {tc : TT} {f : Bool → Prop} (h : EtE K tc ρ C f C1) (h1 : f true → Ex K M0 t { D with nx := u D } ρ C1) (h2 : f false → Ex K M0 u D ρ C1) : Ex K M0 (tSeq (tIfS tc t tNext) u) D ρ C := ex_seq (ex_ifE h h1 h2)
theorem ec_ifEE {t : TT} {f : Bool → Prop} (h : EtE K t ρ C f C1) (h1 : f true → Ec K ta ρ C1 p C2) (h2 : f false → Ec K tb ρ C1 p C2) : Ec K (tIf t ta tb) ρ C p C2 := fun σ H M Q e k z => h σ H M _ e k fun b H1 M1 s k1 hb => by
  cases b with
  | true => rw [if_pos rfl]; exact h1 hb σ H1 M1 Q (e.mono s) k1 fun v H2 M2 s2 k2 hv => z v H2 M2 (s.trans s2) k2 hv
  | false => rw [if_neg Bool.false_ne_true]; exact h2 hb σ H1 M1 Q (e.mono s) k1 fun v H2 M2 s2 k2 hv => z v H2 M2 (s.trans s2) k2 hv
theorem Rt.ofE {R : VK} {d : PyData} (h : Rt K M0 R (pE K φ) C) (hd : φ d) : Rt K M0 R (pD K d) C := fun v H M s o hv => h v H M s o ⟨d, hd, hv⟩
theorem Rt.ofI {R : VK} {i : Int} (h : Rt K M0 R (pI f) C) (hd : f i) : Rt K M0 R (pD K (.int i)) C := fun v H M s o hv => h v H M s o ⟨i, hd, d_int hv⟩
theorem Rt.imp {R : VK} (h : Rt K M0 R p C) (m : ∀ M v, q.p M v → p.p M v) : Rt K M0 R q C := fun v H M s o hv => h v H M s o (m M v hv)
/-! a loop over what isn't told -/
def EiX {ι : Type} (K : PySem.W.Frag) (wi : TI) (ρ : En) (C : Cs) (φ : ι → Prop) (n : ι → Nat) (item : ι → Nat → Pd) (C' : Cs) (G : ι → Cs → Prop) : Prop := ∀ (σ : L2.St) (H M : Hp) (R : It → Hp → Prop), EnvOk M ρ σ → Ok K M C H →
  (∀ x, φ x → ∀ J H' M', Same M M' → Ok K M' C' H' →
    (∀ C2 H2 M2, Same M' M2 → Ok K M2 C2 H2 → G x C2 → J.stop (n x) H2 ∧ ∀ i, i < n x → J.go i H2 ∧ ∀ y H3, J.yld i H2 y H3 → ∃ M3, Same M2 M3 ∧ Ok K M3 C2 H3 ∧ (item x i).p M3 y) → R J H') → wi σ H R
structure ForOb (K : PySem.W.Frag) (M0 : Hp) (g : TG) (tb : TS) (D : Ends) (n : Nat) (item : Nat → Pd) (G : Cs → Prop) (ρ : En) (C1 : Cs) : Prop where
  ob : ∃ (I : Nat → En → Cs → Prop) (ρ0 : En) (C0 : Cs), EnvLe ρ ρ0 ∧ Sub C0 C1 ∧ I 0 ρ0 C0 ∧ (∀ i ρ C, i ≤ n → I i ρ C → G C) ∧
    (∀ M1, Same M0 M1 → ∀ i ρ C, i < n → I i ρ C → ∃ ρ2 C2, Eg K g ρ C (item i) ρ2 C2 ∧ Ex K M1 tb { D with nx := NI K M1 (I (i + 1)), ct := NI K M1 (I (i + 1)), bk := D.nx } ρ2 C2) ∧
    (∀ ρ C, I n ρ C → Nx K M0 D.nx ρ C)
theorem for_ob {g : TG} {tb : TS} {n : Nat} {item : Nat → Pd} {G : Cs → Prop} (I : Nat → En → Cs → Prop) {ρ0 : En} {C0 : Cs} (he : EnvLe ρ ρ0) (hc : Sub C0 C1) (h0 : I 0 ρ0 C0) (hG : ∀ i ρ C, i ≤ n → I i ρ C → G C)
    (turn : ∀ M1, Same M0 M1 → ∀ i ρ C, i < n → I i ρ C → ∃ ρ2 C2, Eg K g ρ C (item i) ρ2 C2 ∧ Ex K M1 tb { D with nx := NI K M1 (I (i + 1)), ct := NI K M1 (I (i + 1)), bk := D.nx } ρ2 C2)
    (done : ∀ ρ C, I n ρ C → Nx K M0 D.nx ρ C) : ForOb K M0 g tb D n item G ρ C1 := ⟨I, ρ0, C0, he, hc, h0, hG, turn, done⟩
theorem ex_forX {ι : Type} {wi : TI} {g : TG} {tb : TS} {φ : ι → Prop} {n : ι → Nat} {item : ι → Nat → Pd} {G : ι → Cs → Prop} (hi : EiX K wi ρ C φ n item C1 G) (ob : ∀ x, φ x → ForOb K M0 g tb D (n x) (item x) (G x) ρ C1) : Ex K M0 (tFor wi g tb) D ρ C := fun σ H M s e o => by
  refine hi σ H M _ e o fun x hx J H1 M1 s1 o1 hw => ?_
  obtain ⟨I, ρ0, C0, he, hc, h0, hG, turn, done⟩ := (ob x hx).ob
  refine ⟨fun i m σ H => m = n x - i ∧ i ≤ n x ∧ NI K M1 (I i) σ H, ⟨n x, by simp, Nat.zero_le _, ρ0, C0, M1, h0, Same.refl _, he _ _ (e.mono s1), o1.less hc⟩, ?_⟩
  rintro i m σ H ⟨rfl, hin, ρ2, C2, M2, hI, s12, e2, o2⟩
  obtain ⟨w1, w2⟩ := hw C2 H M2 s12 o2 (hG i ρ2 C2 hin hI)
  by_cases hlt : i < n x
  · obtain ⟨w3, w4⟩ := w2 i hlt
    refine .inr ⟨w3, NI K M1 (I (i + 1)), fun σ' H' h => ⟨n x - (i + 1), by omega, rfl, hlt, h⟩, fun y H' hy => ?_⟩
    obtain ⟨M3, s3, o3, hx⟩ := w4 y H' hy
    obtain ⟨ρ4, C4, hg, hb⟩ := turn M1 (s.trans s1) i ρ2 C2 hlt hI
    exact hg y σ H' M3 _ (e2.mono s3) o3 hx fun σ' H4 M4 s4 e4 o4 => hb σ' H4 M4 ((s12.trans s3).trans s4) e4 o4
  · have e' : i = n x := by omega
    subst e'
    exact .inl ⟨w1, done ρ2 C2 hI σ H M2 ((s.trans s1).trans s12) e2 o2⟩
/-- a loop over a list that isn't told -/
theorem eiX_list {φ : List PyData → Prop} (h : Ec K te ρ C (pE K (isLs φ)) C1) : EiX K (iList K te) ρ C φ List.length (fun ds i => pD K (ds.getD i .none)) C1 (fun _ _ => True) := fun σ H M R e k z =>
  h σ H M _ e k fun v H1 M1 s1 k1 ⟨d, ⟨ds, hd, hds⟩, hv⟩ => by
    subst hd
    obtain ⟨a, xs, rfl, q1, q2⟩ := d_lst hv
    refine ⟨a, rfl, ⟨xs, k1.fz.seq q1⟩, z ds hds _ H1 M1 s1 k1 fun C2 H2 M2 s2 k2 _ => ?_⟩
    have q3 : SqL K H2 a xs := k2.fz.seq (s2.seq q1)
    refine ⟨⟨xs, q3, by rw [dpAll_len q2]; exact Nat.le_refl _⟩, fun i hi => ⟨⟨xs, xs[i]'(by rw [dpAll_len q2]; exact hi), q3, List.getElem?_eq_getElem _⟩, fun x H3 y => ?_⟩⟩
    obtain ⟨rfl, y⟩ := y
    obtain ⟨d, e1, e2⟩ := dpAll_getV q2 (y xs q3)
    exact ⟨M2, Same.refl _, k2, by
      show Dp K M2 x (ds.getD i .none)
      rw [List.getD_eq_getElem?_getD, e1]; exact dp_mono s2 e2⟩
/-- a comprehension of things that aren't told -/
theorem ewe_lc {wi : TI} {g : TG} {tt : TT} {te : TE} {vs : List Nat} {n : Nat} {item : Nat → Pd} {G : Cs → Prop} (hi : Ei K wi ρ C n item C1 G) (φ : Nat → PyData → Prop) (hG : ∀ B, Sub C1 B → G B) (hn : n < sizeLine)
    (turn : ∀ i, i < n → ∀ B, Sub C1 B → ∃ ρ2, Egv K g (wipeR ρ vs) vs B (item i) ρ2 ∧ Et K tt ρ2 B true B ∧ Ec K te ρ2 B (pE K (φ i)) B) :
    EwE K (tLc wi g tt te vs) ρ C (fun c => ∃ ds, c = .lst ds ∧ ds.length = n ∧ ∀ i d, ds[i]? = some d → φ i d) C1 := fun σ H M Q e k z => by
  refine hi σ H M _ e k fun J H1 M1 s1 k1 hw D hD => ?_
  have hC1 : C1 D = none := (k1.free hD).2
  have P0 : Ok K M1 (updC C1 D (.lst [])) (upd H1 D (.lst [])) := (k1.cell (c := .lst []) (o := .lst []) hD (show DpAll K M1 [] [] from .nil)).2
  refine ⟨fun i m H => m = n - i ∧ i ≤ n ∧ ∃ M2 ds, ds.length = i ∧ (∀ j d, ds[j]? = some d → φ j d) ∧ Same M1 M2 ∧ Ok K M2 (updC C1 D (.lst ds)) H, ⟨n, by simp, Nat.zero_le _, M1, [], rfl, fun j d hd => by simp at hd, Same.refl _, P0⟩, ?_⟩
  rintro i m H2 ⟨rfl, hin, M2, ds, hl, hds, s2, k2⟩
  have hsub : Sub C1 (updC C1 D (.lst ds)) := Sub.upd hC1
  obtain ⟨w1, w2⟩ := hw _ H2 M2 s2 k2 (hG _ hsub)
  by_cases hlt : i < n
  · obtain ⟨w3, w4⟩ := w2 i hlt
    refine .inr ⟨w3, fun H' => ∃ M3 ds, ds.length = i + 1 ∧ (∀ j d, ds[j]? = some d → φ j d) ∧ Same M1 M3 ∧ Ok K M3 (updC C1 D (.lst ds)) H', fun H' h => ⟨n - (i + 1), by omega, rfl, hlt, h⟩, fun x H3 y => ?_⟩
    obtain ⟨M3, s3, k3, hx⟩ := w4 x H3 y
    obtain ⟨ρ2, t1, t2, t3⟩ := turn i hlt _ hsub
    refine t1 x _ H3 M3 _ ((((e.mono s1).mono s2).mono s3).wipe vs) k3 hx fun σ4 H4 M4 s4 hwp e4 k4 => ⟨by rw [hwp, wipe_wipe], ?_⟩
    refine t2 σ4 H4 M4 _ e4 k4 fun H5 M5 s5 k5 => ?_
    rw [if_pos rfl]
    refine t3 σ4 H5 M5 _ (e4.mono s5) k5 fun v H6 M6 s6 k6 ⟨d, hd, hv⟩ => ?_
    obtain ⟨acc, a1, a2⟩ := k6.lst updC_same
    refine ⟨acc, a1, by rw [dpAll_len a2, hl]; omega, M6, ds ++ [d], by rw [List.length_append, hl]; rfl, fun j e he => ?_, ((((s2.trans s3).trans s4).trans s5).trans s6), ?_⟩
    · by_cases hj : j < ds.length
      · rw [List.getElem?_append_left hj] at he; exact hds j e he
      · rw [List.getElem?_append_right (by omega)] at he
        have hj2 : j - ds.length = 0 := by
          rcases Nat.eq_zero_or_pos (j - ds.length) with h | h
          · exact h
          · rw [List.getElem?_eq_none (by simp only [List.length_cons, List.length_nil]; omega)] at he; cases he
        rw [hj2] at he
        have he : d = e := by simpa using he
        subst he
        rw [show j = i by omega]; exact hd
    · have := k6.set (c' := .lst (ds ++ [d])) (o := .lst (acc ++ [v])) updC_same (by
        show DpAll K M6 (acc ++ [v]) (ds ++ [d])
        exact dpAll_append a2 (.cons hv .nil))
      rw [updC_updC] at this
      exact this
  · have e' : i = n := by omega
    subst e'
    exact .inl ⟨w1, z D _ H2 M2 (s1.trans s2) ⟨ds, rfl, hl, hds⟩ hC1 k2⟩
/-- the purse opened and closed -/
theorem Ok.recell {M H : Hp} {a : Addr} {o : HO} (k : Ok K M C H) (hM : M a = none) (hH : H a = some o) (ho : CellOk K M c o) : Ok K M (updC C a c) H := ⟨k.fz, fun b d e => by
  by_cases hb : b = a
  · subst hb; rw [updC_same] at e; cases e; exact ⟨hM, o, hH, ho⟩
  · rw [updC_ne hb] at e; exact k.cs b d e⟩
theorem Ok.unpurse {M H : Hp} {a : Addr} (k : Ok K M C H) (h : C a = some purse) : ∃ i : Int, Ok K M (updC C a (.lst [.int i])) H := by
  obtain ⟨hM, o, h1, h2⟩ := k.cs a _ h
  cases o <;> first | exact False.elim h2 | skip
  rename_i xs
  match xs, h2 with
  | [x], ⟨⟨i, _, hx⟩, _⟩ =>
    subst hx
    exact ⟨i, k.recell hM h1 (show DpAll K M [.int i] [.int i] from .cons (.int i) .nil)⟩
theorem Ok.shut {M H : Hp} {a : Addr} {i : Int} (k : Ok K M (updC C a (.lst [.int i])) H) (h : C a = some purse) : Ok K M C H := by
  obtain ⟨hM, o, h1, h2⟩ := k.cs a _ updC_same
  cases o <;> first | exact False.elim h2 | skip
  rename_i xs
  have e : xs = [.int i] := dpAll_ints (ns := [i]) h2
  subst e
  have := k.recell (c := purse) hM h1 (show AllP M [pZ] [.int i] from ⟨⟨i, trivial, rfl⟩, trivial⟩)
  rw [updC_updC, updC_self h] at this
  exact this
theorem ex_open {a : Addr} (h : C a = some purse) (k : ∀ i : Int, Ex K M0 t D ρ (updC C a (.lst [.int i]))) : Ex K M0 t D ρ C := fun σ H M s e o => by
  obtain ⟨i, o'⟩ := o.unpurse h
  exact k i σ H M s e o'
theorem Rt.open {R : VK} {a : Addr} {i : Int} (k : Rt K M0 R p C) (h : C a = some purse) : Rt K M0 R p (updC C a (.lst [.int i])) := fun v H M s o hv => k v H M s (o.shut h) hv
theorem RtW.imp {R : VK} {c' : Cell} (k : RtW K M0 R c C) (m : ∀ M o, CellOk K M c' o → CellOk K M c o) : RtW K M0 R c' C := fun a H M s n o => k a H M s n (by
  obtain ⟨hM, ob, h1, h2⟩ := o.cs a _ updC_same
  have := o.recell (c := c) hM h1 (m M ob h2)
  rw [updC_updC] at this
  exact this)
theorem purse_of {i : Int} (M : Hp) (o : HO) (h : CellOk K M (.lst [.int i]) o) : CellOk K M purse o := by
  cases o <;> first | exact False.elim h | skip
  rename_i xs
  have e : xs = [.int i] := dpAll_ints (ns := [i]) h
  subst e
  exact ⟨⟨i, trivial, rfl⟩, trivial⟩
theorem ec_orVE {f g : Bool → Prop} (h1 : Ec K ta ρ C (pBl f) C1) (h2 : Ec K tb ρ C1 (pBl g) C1) : Ec K (tOrV ta tb) ρ C (pBl fun _ => True) C1 := fun σ H M Q e k z => h1 σ H M _ e k fun v H1 M1 s k1 ⟨a, _, hv⟩ => ⟨a, hv, by
  cases a with
  | false => rw [if_neg Bool.false_ne_true]; exact h2 σ H1 M1 Q (e.mono s) k1 fun v2 H2 M2 s2 k2 ⟨b, _, hv2⟩ => z v2 H2 M2 (s.trans s2) k2 ⟨b, trivial, hv2⟩
  | true => rw [if_pos rfl]; exact z _ H1 M1 s k1 ⟨true, trivial, rfl⟩⟩
theorem ec_andVE {f g : Bool → Prop} (h1 : Ec K ta ρ C (pBl f) C1) (h2 : Ec K tb ρ C1 (pBl g) C1) : Ec K (tAndV ta tb) ρ C (pBl fun _ => True) C1 := fun σ H M Q e k z => h1 σ H M _ e k fun v H1 M1 s k1 ⟨a, _, hv⟩ => ⟨a, hv, by
  cases a with
  | true => rw [if_pos rfl]; exact h2 σ H1 M1 Q (e.mono s) k1 fun v2 H2 M2 s2 k2 ⟨b, _, hv2⟩ => z v2 H2 M2 (s.trans s2) k2 ⟨b, trivial, hv2⟩
  | false => rw [if_neg Bool.false_ne_true]; exact z _ H1 M1 s k1 ⟨false, trivial, rfl⟩⟩
theorem Ec.toB {b : Bool} {f : Bool → Prop} (h : Ec K te ρ C (pD K (.bool b)) C') (hd : f b) : Ec K te ρ C (pBl f) C' := h.imp fun M v hv => ⟨b, hd, d_bl hv⟩
/-- int(b) -/
theorem ec_intBE {f : Bool → Prop} (h : Ec K te ρ C (pBl f) C1) : Ec K (tCB (fun xs H Q => (∃ i, xs = [.int i] ∧ Q (.int i) H) ∨ ∃ k, xs = [.bl k] ∧ Q (.int (if k then 1 else 0)) H) (tCons te tNil)) ρ C (pI fun i => i = 0 ∨ i = 1) C1 :=
  ec_cb (ea_cons h ea_nil) (ek_b0 fun b _ => ek_intB.toI (by cases b; exact .inl rfl; exact .inr rfl))
theorem allD_rep {φ : PyData → Prop} : ∀ {n : Nat} {ds : List PyData}, AllD (List.replicate n φ) ds → ∀ i, i < n → ∃ d, ds[i]? = some d ∧ φ d
  | 0, _, _, i, hi => by omega
  | n + 1, d :: ds, ⟨h, _⟩, 0, _ => ⟨d, rfl, h⟩
  | n + 1, d :: ds, ⟨_, t⟩, i + 1, hi => allD_rep (n := n) t i (by omega)
theorem eae_rep {tr : TA} {n : Nat} (ha : Ec K ta ρ C (pE K φ) C1) (hr : EaE K tr ρ C1 (List.replicate n φ) C2) : EaE K (tCons ta tr) ρ C (List.replicate (n + 1) φ) C2 := eae_cons ha hr
/-- [..][i] of numbers that aren't told -/
theorem ec_pick {ta : TA} {n : Nat} (ha : EaE K ta ρ C (List.replicate n φ) C1) (hn : n ≤ 1000) (hb : Ec K tb ρ C1 (pI g) C2) (hg : ∀ i, g i → 0 ≤ i ∧ i < (n : Int)) : Ec K (tOp (rIxL K) (tLst ta) tb) ρ C (pE K φ) C2 := by
  refine ec_op (EwE.list (φ := AllD (List.replicate n φ)) (ewe_lst ha (by rw [List.length_replicate]; exact Nat.le_trans hn (by decide))) fun c h => h) hb (er_exL fun d hd => er_iR fun i hi => ?_)
  obtain ⟨ds, rfl, hds⟩ := hd
  obtain ⟨d, h1, h2⟩ := allD_rep hds i.toNat (by have := hg i hi; omega)
  have e := atI_nat (j := i.toNat) h1
  rw [show ((i.toNat : Nat) : Int) = i by have := hg i hi; omega] at e
  exact (er_ixL e).toE h2
end
end Fz

open PySem PySem.Spec PyProof.Rows L2 Fz in
local macro_rules | `(tactic| walk_at "ev") => `(tactic| repeat' (first
  | with_reducible exact Fz.ec_int
  | ((with_reducible apply Fz.ec_var); exact rfl)
  | with_reducible exact Fz.ec_str
  | with_reducible exact Fz.ec_bl
  | with_reducible exact Fz.ec_non
  | with_reducible apply Fz.ec_op
  | with_reducible apply Fz.ec_neg
  | with_reducible exact Fz.er_add
  | with_reducible exact Fz.er_sub
  | with_reducible apply Fz.er_mul
  | with_reducible apply Fz.er_mod
  | with_reducible apply Fz.er_div
  | with_reducible apply Fz.er_divW
  | with_reducible apply Fz.er_pow
  | with_reducible exact Fz.er_lt
  | with_reducible exact Fz.er_le
  | with_reducible exact Fz.er_gt
  | with_reducible exact Fz.er_ge
  | with_reducible exact Fz.er_eqI
  | with_reducible exact Fz.er_neI
  | with_reducible exact Fz.er_eqS
  | with_reducible exact Fz.er_neS
  | with_reducible exact Fz.er_eqB
  | with_reducible exact Fz.er_neB
  | with_reducible apply Fz.er_ixC
  | with_reducible apply Fz.er_ixT
  | with_reducible apply Fz.er_ixL
  | with_reducible apply Fz.er_rep1
  | with_reducible apply Fz.er_catT
  | with_reducible apply Fz.ec_tupD
  | with_reducible apply Fz.ec_lstD
  | with_reducible exact Fz.ead_nil
  | with_reducible apply Fz.ead_cons
  | with_reducible exact Fz.ea_nil
  | with_reducible apply Fz.ea_cons
  | with_reducible apply Fz.ec_cb
  | with_reducible exact Fz.ek_abs
  | with_reducible exact Fz.ek_max2
  | with_reducible exact Fz.ek_min2
  | with_reducible exact Fz.ek_lenL
  | with_reducible exact Fz.ek_lenT
  | with_reducible apply Fz.ek_lenC
  | with_reducible apply Fz.ek_lenS
  | with_reducible exact Fz.ek_isI
  | with_reducible exact Fz.ek_isB
  | with_reducible exact Fz.ek_isS
  | with_reducible exact Fz.ek_isL
  | with_reducible exact Fz.ek_isT
  | with_reducible exact Fz.ec_val
  | with_reducible apply Fz.et_test
  | with_reducible apply Fz.et_B
  | with_reducible apply Fz.et_not
  | with_reducible apply Fz.ec_chain
  | with_reducible exact Fz.er_inS
  | with_reducible exact Fz.er_notInS
  | with_reducible apply Fz.et_or
  | with_reducible apply Fz.et_and
  | with_reducible apply Fz.ec_orV
  | with_reducible apply Fz.ec_andV
  | with_reducible apply Fz.ec_notV
  | with_reducible exact Fz.eo_none
  | with_reducible apply Fz.eo_some
  | with_reducible apply Fz.ec_slT
  | ((with_reducible show _ ≤ PySem.sizeLine); exact Nat.le_of_ble_eq_true rfl)
  | ((with_reducible show _ = _ → _); intro _)
  | ((with_reducible show _ = some _); (first | assumption | exact Fz.updC_same))
  | exact L2.atI_nat (j := 0) rfl
  | exact L2.atI_nat (j := 1) rfl
  | exact L2.atI_nat (j := 2) rfl
  | exact L2.atI_nat (j := 3) rfl
  | exact L2.atI_nat (j := 4) rfl
  | exact L2.atI_nat (j := 5) rfl))
open PySem PySem.Spec PyProof.Rows L2 Fz in
local macro_rules | `(tactic| walk_at "evc") => `(tactic| ((first | with_reducible apply Fz.Ec.conv | with_reducible apply Fz.Et.conv | with_reducible apply Fz.Ea.conv | with_reducible apply Fz.EaD.conv); (walk_at "ev"); (all_goals (try exact rfl))))
local macro_rules | `(tactic| walk_at "le") => `(tactic| repeat (first | exact Fz.EnvLe.nil | apply Fz.EnvLe.same | apply Fz.EnvLe.drop))

namespace Cd
open PySem PySem.Spec PyProof.Rows L2 Fz
def topS (i : Nat) : Stmt := PySem.Challenge.pw_chaindisk_k22_pieces_of_words.main.body.getD i (.Pass ⟨0, 0, 0, 0⟩)
abbrev s_code_of : Stmt := topS 4
theorem sc_code_of : FnScope ["piece", "code", "place"] ["piece"] (defScope s_code_of) := ⟨rfl, rfl, rfl, by decide +kernel, rfl, by decide +kernel, by decide +kernel⟩
abbrev s_piece_of : Stmt := topS 5
theorem sc_piece_of : FnScope ["word", "left", "piece", "turn", "figure"] ["word"] (defScope s_piece_of) := ⟨rfl, rfl, rfl, by decide +kernel, rfl, by decide +kernel, by decide +kernel⟩
abbrev s__law_digits : Stmt := topS 7
theorem sc__law_digits : FnScope ["_law_script", "_law_k", "_law_cell", "_law_total", "_law_number", "_law_turn"] ["_law_script", "_law_k"] (defScope s__law_digits) := ⟨rfl, rfl, rfl, by decide +kernel, rfl, by decide +kernel, by decide +kernel⟩
abbrev s__law_take : Stmt := topS 8
theorem sc__law_take : FnScope ["_law_held", "_law_many", "_law_drawn_here"] ["_law_held", "_law_many"] (defScope s__law_take) := ⟨rfl, rfl, rfl, by decide +kernel, rfl, by decide +kernel, by decide +kernel⟩
abbrev s__law_whole : Stmt := topS 9
theorem sc__law_whole : FnScope ["_law_thing"] ["_law_thing"] (defScope s__law_whole) := ⟨rfl, rfl, rfl, by decide +kernel, rfl, by decide +kernel, by decide +kernel⟩
abbrev s__law_alike : Stmt := topS 10
theorem sc__law_alike : FnScope ["_law_told", "_law_due", "_law_one", "_law_other"] ["_law_told", "_law_due"] (defScope s__law_alike) := ⟨rfl, rfl, rfl, by decide +kernel, rfl, by decide +kernel, by decide +kernel⟩
abbrev s__law_signs : Stmt := topS 11
theorem sc__law_signs : FnScope [] [] (defScope s__law_signs) := ⟨rfl, rfl, rfl, by decide +kernel, rfl, by decide +kernel, by decide +kernel⟩
abbrev s__law_piece : Stmt := topS 12
theorem sc__law_piece : FnScope ["_law_word", "_law_text", "_law_left", "_law_turn", "_law_piece_here"] ["_law_word"] (defScope s__law_piece) := ⟨rfl, rfl, rfl, by decide +kernel, rfl, by decide +kernel, by decide +kernel⟩
abbrev s__law_drawn : Stmt := topS 13
theorem sc__law_drawn : FnScope ["_law_held", "_law_total", "_law_full", "_law_k", "_law_figure"] ["_law_held"] (defScope s__law_drawn) := ⟨rfl, rfl, rfl, by decide +kernel, rfl, by decide +kernel, by decide +kernel⟩
abbrev s__law_right : Stmt := topS 14
theorem sc__law_right : FnScope ["_law_word", "_law_due"] ["_law_word"] (defScope s__law_right) := ⟨rfl, rfl, rfl, by decide +kernel, rfl, by decide +kernel, by decide +kernel⟩
abbrev s_law : Stmt := topS 15
theorem sc_law : FnScope ["_law_script", "_law_k", "_law_held", "_law_word", "_law_one"] ["_law_script"] (defScope s_law) := ⟨rfl, rfl, rfl, by decide +kernel, rfl, by decide +kernel, by decide +kernel⟩
structure Txt (K : PySem.W.Frag) (mg : Str → Option Value) : Prop where
  b_all : mg "all" = none
  b_bool : mg "bool" = none
  b_divmod : mg "divmod" = none
  b_int : mg "int" = none
  b_isinstance : mg "isinstance" = none
  b_len : mg "len" = none
  b_list : mg "list" = none
  b_max : mg "max" = none
  b_min : mg "min" = none
  b_range : mg "range" = none
  b_str : mg "str" = none
  b_tuple : mg "tuple" = none
  b_zip : mg "zip" = none
  c_SIGNS : ∃ t, mg "SIGNS" = some (.str "abcdefghijklmnopqrstuvwxyz0123456789" t)
  c_PIECE : ∃ t, mg "PIECE" = some (.int 6 t)
  c_BASE : ∃ t, mg "BASE" = some (.int 37 t)
section
variable {P : Program} {w : World} {K : PySem.W.Frag} {mg : Str → Option Value} {base : Heap}
/-! ### code_of -/
/-! common: signs -/
def signs : List Nat := (Str.ofString "abcdefghijklmnopqrstuvwxyz0123456789").cps.toList
def idx (c : Nat) : Nat := signs.idxOf c
theorem signs_len : signs.length = 36 := by decide +kernel
theorem signs_ok : ∀ c ∈ signs, c < 1114112 := by decide +kernel
theorem idx_occ : ∀ c ∈ signs, Builtin.Str.occurrences (Str.ofString "abcdefghijklmnopqrstuvwxyz0123456789") ⟨#[c]⟩ 0 (Str.ofString "abcdefghijklmnopqrstuvwxyz0123456789").length 1 = [idx c] := by decide +kernel
theorem idx_lt {c : Nat} (h : c ∈ signs) : idx c < 36 := by
  have := List.idxOf_lt_length_of_mem h
  rw [signs_len] at this
  exact this
theorem idx_get {c : Nat} (h : c ∈ signs) : signs[idx c]? = some c := by
  have hl := List.idxOf_lt_length_of_mem h
  unfold idx
  rw [List.getElem?_eq_getElem hl, List.getElem_idxOf hl]
theorem signs_at {i : Int} (h0 : 0 ≤ i) (h1 : i < 36) : atI (Str.ofString "abcdefghijklmnopqrstuvwxyz0123456789").cps.toList i = some (signs.getD i.toNat 0) ∧ signs.getD i.toNat 0 ∈ signs := by
  have hl := signs_len
  have h2 : i.toNat < signs.length := by omega
  have e : ((i.toNat : Nat) : Int) = i := by omega
  have q : atI signs ((i.toNat : Nat) : Int) = some signs[i.toNat] := atI_nat (j := i.toNat) (by simp)
  rw [e] at q
  have g : signs.getD i.toNat 0 = signs[i.toNat] := by rw [List.getD_eq_getElem?_getD, List.getElem?_eq_getElem h2]; rfl
  rw [g]
  exact ⟨q, List.getElem_mem h2⟩
theorem sgn_app (c : Nat) (p : List Nat) : sgn c ++ sL p = sL (c :: p) := by
  rw [sgn_sL, sL_app]; rfl
theorem sL_nil {p : List Nat} : decide (sL p = Str.ofString "") = decide (p = []) := by
  apply Bool.eq_iff_iff.mpr
  rw [decide_eq_true_iff, decide_eq_true_iff]
  have e : Str.ofString "" = sL [] := by decide +kernel
  rw [e]
  constructor
  · intro h
    have := congrArg (fun x => x.cps.toList) h
    simpa [sL] using this
  · intro h; rw [h]
theorem empty_sL : Str.ofString "" = sL [] := by decide +kernel
/-- all signs are signs of names -/
def Nm (l : List Nat) : Prop := ∀ c ∈ l, c ∈ signs
theorem Nm.at {l : List Nat} (h : Nm l) {n : Nat} (hn : n < l.length) : l.getD n 0 ∈ signs := by
  rw [List.getD_eq_getElem?_getD, List.getElem?_eq_getElem hn]; exact h _ (List.getElem_mem hn)
theorem Nm.ok {l : List Nat} (h : Nm l) : TOk (sL l) := fun c hc => by
  rw [sL_cps] at hc
  exact signs_ok c (h c hc)
theorem Nm.take {l : List Nat} (h : Nm l) (n : Nat) : Nm (l.take n) := fun c hc => h c (List.mem_of_mem_take hc)
theorem Nm.drop {l : List Nat} (h : Nm l) (n : Nat) : Nm (l.drop n) := fun c hc => h c (List.mem_of_mem_drop hc)

/-! common: code -/
--needs signs
/-- the figure at a place -/
def figA (l : List Nat) (n : Nat) : Int := if n < l.length then 1 + (idx (l.getD n 0) : Int) else 0
def codeF (l : List Nat) : Nat → Int
  | 0 => 0
  | n + 1 => codeF l n * 37 + figA l n
def codeL (l : List Nat) : Int := codeF l 6
theorem figA_ok {l : List Nat} (h : Nm l) (n : Nat) : 0 ≤ figA l n ∧ figA l n ≤ 36 := by
  unfold figA
  split
  · rename_i hn
    have := idx_lt (h.at hn)
    omega
  · omega
theorem codeF_ok {l : List Nat} (h : Nm l) : ∀ n, 0 ≤ codeF l n ∧ codeF l n < 37 ^ n
  | 0 => ⟨Int.le_refl _, by show (0 : Int) < 1; decide⟩
  | n + 1 => by
    have ih := codeF_ok h n
    have f := figA_ok h n
    unfold codeF
    rw [Int.pow_succ]
    omega
theorem codeL_ok {l : List Nat} (h : Nm l) : 0 ≤ codeL l ∧ codeL l < 2565726409 := codeF_ok h 6

def sp_code_of (K : PySem.W.Frag) : Sp := spF (γ := List Nat) K (fun l => [pD K (.str (sL l))]) (fun l _ => Nm l ∧ l.length ≤ 1000) (fun l => pD K (.int (codeL l))) (fun _ C => C)
/-- SIGNS.index(x[n]) -/
theorem ec_idx {K : PySem.W.Frag} {ρ : En} {C : Cs} {to te : TE} {c : Nat} (ho : Ec K to ρ C (pD K (.str "abcdefghijklmnopqrstuvwxyz0123456789")) C) (he : Ec K te ρ C (pD K (.str (sgn c))) C) (hc : c ∈ signs) :
    Ec K (tBM K "str" (fun x xs H Q => ∃ a b i rest, x = .str a ∧ xs = [.str b] ∧ Builtin.Str.occurrences a b 0 a.length 1 = i :: rest ∧ Q (.int (i : Nat)) H) to (tCons te tNil)) ρ C (pD K (.int (idx c : Int))) C :=
  ec_strM ho he (fun _ => .int _) fun H Q q => ⟨_, _, idx c, [], rfl, rfl, idx_occ c hc, q⟩

theorem ok_code_of {f : Addr} {fd : FuncData} (D : Def K mg "code_of" s_code_of ["piece"] f fd) (T : Txt K mg) : Cal P w K mg base CX0 "code_of" 1 ["piece"] (sp_code_of K) f fd := by
  refine ⟨okF D.F sc_code_of (fun _ => rfl) (fun cdv Ar outer s H E hr => ⟨_, (pss_cons (ps_set (i := 1) sc_code_of.nd rfl (by first | exact .inl rfl | exact .inr rfl) pe_int)
  (pss_cons (ps_for PassesOwn.never rfl (pi_range1 (by rfl) T.b_range (pa_cons (pe_glob (v := .int 6) (by rfl) T.c_PIECE.choose_spec ⟨_, rfl⟩) pa_nil)) (pg_name (i := 2) sc_code_of.nd rfl (by first | exact .inl rfl | exact .inr rfl))
  (pss_cons (ps_set (i := 1) sc_code_of.nd rfl (by first | exact .inl rfl | exact .inr rfl) (pe_op op_mul (pv 1) (pe_glob (v := .int 37) (by rfl) T.c_BASE.choose_spec ⟨_, rfl⟩)))
  (pss_one (ps_if (pt_cmpR op_lt (pv 2) (pe_callB call_len_str (by rfl) T.b_len PySem.boot_len (pa_cons (pv 0) pa_nil)) (nomark _))
  (pss_one (ps_aug (i := 1) sc_code_of.nd rfl (by first | exact .inl rfl | exact .inr rfl) (pe_op op_add pe_int (pe_bm PySem.F.plainAttrs_str PySem.F.slot_str_index PySem.F.type_str_index mt_sindex (pe_glob (v := .str "abcdefghijklmnopqrstuvwxyz0123456789") (by rfl) T.c_SIGNS.choose_spec ⟨_, rfl⟩) (pa_cons (pe_ix ix_str (pv 0) (pv 2) (fun _ _ => rfl)) pa_nil))) ip_add)) pss_nil))))
  (pss_one (ps_ret (pv 1))))), fun g C M0 R hp hR => ?_⟩), D.g, D.F.kp, D.b⟩
  try dsimp only [cxOf, Cx.nox, Cx.wish]
  show Ex K M0 _ _ [some _, none, none] C
  obtain ⟨hn, hl⟩ := hp
  have hz : (sL g).length ≤ sizeLine := by rw [sL_len]; exact Nat.le_trans hl (by decide)
  refine ex_sasg ec_int ?_
  refine ex_sfor (n := 6) (item := fun i => pD K (.int (i : Int))) (G := fun _ => True) (C1 := C) (ei_rng1 (j := 6) (ea_cons ec_int ea_nil) (by decide) (by decide))
    (fun i ρ' C' => ρ' = [some (pD K (.str (sL g))), some (pD K (.int (codeF g i))), none] ∧ C = C') (EnvLe.refl _) (Sub.refl _) ⟨rfl, rfl⟩ (fun _ _ _ _ _ => trivial) ?_ ?_
  · rintro M1 s1 i ρ' C' hi ⟨rfl, rfl⟩
    refine ⟨_, _, eg_name, ex_sasg (C1 := C) (p := pD K (.int (codeF g i * 37))) ?_ ?_⟩
    · walk_at "ev"
      exact .inr ⟨by decide, by decide⟩
    refine ex_if (C1 := C) (b := decide ((i : Int) < (g.length : Int))) ?_ (fun hb => ?_) (fun hb => ?_)
    · exact et_test (ec_op (ec_var rfl) (Ec.conv (ec_cb (ea_cons (ec_var rfl) ea_nil) (ek_lenS hz)) (by rw [sL_len])) er_lt)
    · have hb : i < g.length := by have := of_decide_eq_true hb; omega
      refine ex_aug (C1 := C) (C2 := C) rfl (ec_op ec_int (ec_idx ec_str (ec_op (ec_var rfl) (ec_var rfl) (er_ixS (c := g.getD i 0) hz ?_)) (hn.at hb)) er_add) (s' := pD K (.int (codeF g (i + 1)))) (er_ipI ?_) (nx_Iw (ρ' := [some (pD K (.str (sL g))), some (pD K (.int (codeF g (i + 1)))), none]) (by walk_at "le") (Sub.refl _) ⟨rfl, rfl⟩)
      · rw [sL_cps]
        exact atI_nat (j := i) (by rw [List.getD_eq_getElem?_getD, List.getElem?_eq_getElem hb]; rfl)
      · show codeF g i * 37 + _ = codeF g i * 37 + figA g i
        unfold figA
        rw [if_pos hb]
    · have hb : ¬ i < g.length := by have := of_decide_eq_false hb; omega
      have e : codeF g i * 37 = codeF g (i + 1) := by
        show codeF g i * 37 = codeF g i * 37 + figA g i
        unfold figA
        rw [if_neg hb]; omega
      rw [e]
      exact ex_next (nx_Iw (by walk_at "le") (Sub.refl _) ⟨rfl, rfl⟩)
  · rintro ρ' C' ⟨rfl, rfl⟩
    exact ex_ret (ec_var rfl) hR

/-! ### piece_of -/
/-! common: piece -/
--needs signs
/-- so many turns more -/
def poGo : Nat → Int → List Nat → Option (Int × List Nat)
  | 0, left, p => some (left, p)
  | n + 1, left, p => if 0 < left % 37 then poGo n (left / 37) (signs.getD (left % 37 - 1).toNat 0 :: p) else if p = [] then poGo n (left / 37) p else none
def pieceOf (w : Int) : Option (List Nat) := match poGo 6 w [] with
  | some (left, p) => if 0 < left ∨ p = [] then none else some p
  | none => none
def dOpt : Option (List Nat) → PyData
  | some p => .str (sL p)
  | none => .none

def sp_piece_of (K : PySem.W.Frag) : Sp := spF (γ := Int) K (fun w => [pD K (.int w)]) (fun w _ => 0 ≤ w) (fun w => pD K (dOpt (pieceOf w))) (fun _ C => C)
/-- left, figure = divmod(left, 37) -/
theorem ek_divmod {K : PySem.W.Frag} {C : Cs} {i j : Int} (h : CDiv i j) : Ek K (fun xs H Q => ∃ i j, xs = [.int i, .int j] ∧ CDiv i j ∧ ∀ p, H p = none → Q (.ref p) (upd H p (.tup [.int (i / j), .int (i % j)]))) C [pD K (.int i), pD K (.int j)] (pD K (.tuple [.int (i / j), .int (i % j)])) C := fun xs H M Q k hx z => by
  match xs, hx with
  | [v, u], ⟨h1, h2, _⟩ =>
    have := d_int h1; subst this
    have := d_int h2; subst this
    refine ⟨i, j, rfl, h, fun p hp => ?_⟩
    obtain ⟨M', s, k', hd⟩ := pair_new k hp (Dp.int (i / j)) (Dp.int (i % j))
    exact z _ _ M' s k' hd

theorem ok_piece_of {f : Addr} {fd : FuncData} (D : Def K mg "piece_of" s_piece_of ["word"] f fd) (T : Txt K mg) : Cal P w K mg base CX0 "piece_of" 1 ["word"] (sp_piece_of K) f fd := by
  refine ⟨okF D.F sc_piece_of (fun _ => rfl) (fun cdv Ar outer s H E hr => ⟨_, (pss_cons (ps_set (i := 1) sc_piece_of.nd rfl (by first | exact .inl rfl | exact .inr rfl) (pv 0))
  (pss_cons (ps_set (i := 2) sc_piece_of.nd rfl (by first | exact .inl rfl | exact .inr rfl) pe_str)
  (pss_cons (ps_for PassesOwn.never rfl (pi_range1 (by rfl) T.b_range (pa_cons (pe_glob (v := .int 6) (by rfl) T.c_PIECE.choose_spec ⟨_, rfl⟩) pa_nil)) (pg_name (i := 3) sc_piece_of.nd rfl (by first | exact .inl rfl | exact .inr rfl))
  (pss_cons (ps_asg (pe_callB call_divmod (by rfl) T.b_divmod (by decide +kernel) (pa_cons (pv 1) (pa_cons (pe_glob (v := .int 37) (by rfl) T.c_BASE.choose_spec ⟨_, rfl⟩) pa_nil))) (pg_tup rfl (pgs_cons (pg_name (i := 1) sc_piece_of.nd rfl (by first | exact .inl rfl | exact .inr rfl)) (pgs_cons (pg_name (i := 4) sc_piece_of.nd rfl (by first | exact .inl rfl | exact .inr rfl)) pgs_nil))))
  (pss_one (ps_if (pt_cmpR op_gt (pv 4) pe_int (nomark _))
  (pss_one (ps_set (i := 2) sc_piece_of.nd rfl (by first | exact .inl rfl | exact .inr rfl) (pe_op op_add_str (pe_ix ix_str (pe_glob (v := .str "abcdefghijklmnopqrstuvwxyz0123456789") (by rfl) T.c_SIGNS.choose_spec ⟨_, rfl⟩) (pe_op op_sub (pv 4) pe_int) (fun _ _ => rfl)) (pv 2)))) (pss_one (ps_if (pt_cmpR op_ne (pv 2) pe_str (nomark _))
  (pss_one (ps_ret pe_non)) pss_nil))))))
  (pss_cons (ps_if (pw_or (pt_cmpR op_gt (pv 1) pe_int (nomark _)) (pw_or1 (pt_cmpR op_eq (pv 2) pe_str (nomark _)))).pt
  (pss_one (ps_ret pe_non)) pss_nil)
  (pss_one (ps_ret (pv 2))))))), fun g C M0 R hp hR => ?_⟩), D.g, D.F.kp, D.b⟩
  try dsimp only [cxOf, Cx.nox, Cx.wish]
  show Ex K M0 _ _ [some _, none, none, none, none] C
  refine ex_sasg (C1 := C) (ec_var rfl) (ex_sasg (C1 := C) (p := pD K (.str (sL []))) (Ec.conv ec_str (congrArg (fun x => pD K (.str x)) empty_sL)) ?_)
  refine ex_sfor (n := 6) (item := fun i => pD K (.int (i : Int))) (G := fun _ => True) (C1 := C) (ei_rng1 (j := 6) (ea_cons ec_int ea_nil) (by decide) (by decide))
    (fun i ρ' C' => ∃ (left : Int) (p : List Nat), 0 ≤ left ∧ p.length ≤ i ∧ poGo 6 g [] = poGo (6 - i) left p ∧ ρ' = [some (pD K (.int g)), some (pD K (.int left)), some (pD K (.str (sL p))), none, none] ∧ C = C') (by walk_at "le") (Sub.refl _) ⟨g, [], hp, Nat.le_refl _, rfl, rfl, rfl⟩ (fun _ _ _ _ _ => trivial) ?_ ?_
  · rintro M1 s1 i ρ' C' hi ⟨left, p, h0, hl, he, rfl, rfl⟩
    have e6 : 6 - i = (6 - (i + 1)) + 1 := by omega
    rw [e6] at he
    have hz : ∀ {n : Nat}, n ≤ 1000 → n ≤ sizeLine := fun h => Nat.le_trans h (by decide)
    refine ⟨_, _, eg_name, ex_sasgG (C1 := C) (ec_cb (ea_cons (ec_var rfl) (ea_cons ec_int ea_nil)) (ek_divmod ⟨by decide, by decide⟩)) eg_pair ?_⟩
    refine ex_if (C1 := C) (b := decide (0 < left % 37)) (by walk_at "ev") (fun hb => ?_) (fun hb => ?_)
    · have hb := of_decide_eq_true hb
      have hs := signs_at (i := left % 37 - 1) (by omega) (by omega)
      refine ex_asg (C1 := C) (p := pD K (.str (sL (signs.getD (left % 37 - 1).toNat 0 :: p)))) (Ec.conv (ec_op (ec_op ec_str (ec_op (ec_var rfl) ec_int er_sub) (er_ixS (by decide +kernel) hs.1)) (ec_var rfl) (er_addS (hz (by rw [sL_len]; show 1 + _ ≤ _; omega)))) (by rw [sgn_app])) ?_
      refine nx_Iw (by walk_at "le") (Sub.refl _) ⟨left / 37, _, by omega, ?_, ?_, rfl, rfl⟩
      · rw [List.length_cons]; omega
      · rw [he]
        show (if 0 < left % 37 then _ else _) = _
        rw [if_pos hb]
    · have hb := of_decide_eq_false hb
      refine ex_if (C1 := C) (b := !decide (p = [])) ?_ (fun h2 => ?_) (fun h2 => ?_)
      · apply Et.conv
        · exact et_test (ec_op (ec_var rfl) ec_str er_neS)
        · rw [sL_nil]
      · have h2 : ¬ p = [] := by simpa using h2
        have e : pieceOf g = none := by
          have e1 : poGo ((6 - (i + 1)) + 1) left p = none := by
            show (if 0 < left % 37 then _ else if p = [] then _ else none) = none
            rw [if_neg hb, if_neg h2]
          unfold pieceOf
          rw [he, e1]
        rw [e] at hR
        exact ex_ret ec_non (hR.up s1)
      · have h2 : p = [] := by simpa using h2
        refine ex_next (nx_Iw (by walk_at "le") (Sub.refl _) ⟨left / 37, p, by omega, by omega, ?_, rfl, rfl⟩)
        rw [he]
        show (if 0 < left % 37 then _ else if p = [] then _ else none) = _
        rw [if_neg hb, if_pos h2]
  · rintro ρ' C' ⟨left, p, h0, hl, he, rfl, rfl⟩
    have he : poGo 6 g [] = some (left, p) := he
    refine ex_sif0 (b := decide (0 < left) || decide (p = [])) ?_ (fun hb => ?_) (fun hb => ?_)
    · refine et_or (et_test (ec_op (ec_var rfl) ec_int er_gt)) (fun _ => et_test (Ec.conv (ec_op (ec_var rfl) ec_str er_eqS) (by rw [sL_nil])))
    · have e : pieceOf g = none := by
        unfold pieceOf
        rw [he]
        show (if 0 < left ∨ p = [] then none else some p) = none
        rw [if_pos (by simpa using hb)]
      rw [e] at hR
      exact ex_ret ec_non hR
    · have e : pieceOf g = some p := by
        unfold pieceOf
        rw [he]
        show (if 0 < left ∨ p = [] then none else some p) = some p
        rw [if_neg (by simpa using hb)]
      rw [e] at hR
      exact ex_ret (ec_var rfl) hR

/-! ### _law_digits -/
/-- a cell of the script, 0 where there is none -/
def cellN (ns : List Int) (k : Nat) : Int := ns.getD k 0
def dgNum (n : Int) (i : Nat) : Int := (n * n + 48271 * n + (i : Int)) % 2147483629
def dgRun (n : Int) : Nat → Int × Int
  | 0 => (n, 0)
  | i + 1 => (dgNum (dgRun n i).1 i, (dgRun n i).2 * 2147483587 + dgNum (dgRun n i).1 i * 69621 % 2147483587)
def dig0 (c : Int) (k : Nat) : Int := if 1000000000000000000 ≤ c then c - 1000000000000000000 else (dgRun ((c * 48271 + 7919 * (k : Int) + 11) % 2147483647) 80).2
theorem dgRun_ok {n : Int} (h0 : 0 ≤ n) (h1 : n < 2147483647) : ∀ i, 0 ≤ (dgRun n i).1 ∧ (dgRun n i).1 < 2147483647 ∧ 0 ≤ (dgRun n i).2
  | 0 => ⟨h0, h1, Int.le_refl _⟩
  | i + 1 => by
    have ih := dgRun_ok h0 h1 i
    have a1 : 0 ≤ dgNum (dgRun n i).1 i := Int.emod_nonneg _ (by decide)
    have a2 : dgNum (dgRun n i).1 i < 2147483629 := Int.emod_lt_of_pos _ (by decide)
    refine ⟨a1, by show dgNum (dgRun n i).1 i < _; omega, ?_⟩
    show 0 ≤ (dgRun n i).2 * 2147483587 + dgNum (dgRun n i).1 i * 69621 % 2147483587
    omega
theorem dig0_ok (c : Int) (k : Nat) : 0 ≤ dig0 c k := by
  unfold dig0
  split
  · omega
  · exact (dgRun_ok (by omega) (by omega) 80).2.2
/-- a purse -/
def dPurse (h : Int) : Cell := .lst [.int h]
def sp__law_digits (K : PySem.W.Frag) : Sp := spW (γ := List Int × Nat) K (fun g => [pD K (.list (g.1.map PyData.int)), pD K (.int (g.2 : Int))]) (fun g _ => g.2 ≤ 1000)
  (fun _ => purse) (fun _ C => C)

theorem ok__law_digits {f : Addr} {fd : FuncData} (D : Def K mg "_law_digits" s__law_digits ["_law_script", "_law_k"] f fd) (T : Txt K mg) : Cal P w K mg base CX0 "_law_digits" 1 ["_law_script", "_law_k"] (sp__law_digits K) f fd := by
  refine ⟨okW D.F sc__law_digits (fun _ => rfl) (fun cdv Ar outer s H E hr => ⟨_, (pss_cons (ps_set (i := 2) sc__law_digits.nd rfl (by first | exact .inl rfl | exact .inr rfl) (pe_ifExp (pt_cmpR op_lt (pv 1) (pe_callB call_len_seq (by rfl) T.b_len PySem.boot_len (pa_cons (pv 0) pa_nil)) (nomark _)) (pe_ix ix_list (pv 0) (pv 1) (fun _ _ => rfl)) pe_int))
  (pss_cons (ps_if (pt_cmpR op_ge (pv 2) (pe_op op_pow pe_int pe_int) (nomark _))
  (pss_one (ps_ret (pe_lst (pa_cons (pe_op op_sub (pv 2) (pe_op op_pow pe_int pe_int)) pa_nil)))) pss_nil)
  (pss_cons (ps_set (i := 3) sc__law_digits.nd rfl (by first | exact .inl rfl | exact .inr rfl) pe_int)
  (pss_cons (ps_set (i := 4) sc__law_digits.nd rfl (by first | exact .inl rfl | exact .inr rfl) (pe_op op_mod (pe_op op_add (pe_op op_add (pe_op op_mul (pv 2) pe_int) (pe_op op_mul pe_int (pv 1))) pe_int) pe_int))
  (pss_cons (ps_for PassesOwn.never rfl (pi_range1 (by rfl) T.b_range (pa_cons pe_int pa_nil)) (pg_name (i := 5) sc__law_digits.nd rfl (by first | exact .inl rfl | exact .inr rfl))
  (pss_cons (ps_set (i := 4) sc__law_digits.nd rfl (by first | exact .inl rfl | exact .inr rfl) (pe_op op_mod (pe_op op_add (pe_op op_add (pe_op op_mul (pv 4) (pv 4)) (pe_op op_mul pe_int (pv 4))) (pv 5)) pe_int))
  (pss_one (ps_set (i := 3) sc__law_digits.nd rfl (by first | exact .inl rfl | exact .inr rfl) (pe_op op_add (pe_op op_mul (pv 3) pe_int) (pe_op op_mod (pe_op op_mul (pv 4) pe_int) pe_int))))))
  (pss_one (ps_ret (pe_lst (pa_cons (pv 3) pa_nil))))))))), fun g C M0 R hp hR => ?_⟩), D.g, D.F.kp, D.b⟩
  try dsimp only [cxOf, Cx.nox, Cx.wish]
  show Ex K M0 _ _ [some _, some _, none, none, none, none] C
  obtain ⟨ns, k⟩ := g
  dsimp only at hp hR ⊢
  replace hR : RtW K M0 R (dPurse (dig0 (cellN ns k) k)) C := hR.imp purse_of
  refine ex_sasg (p := pD K (.int (cellN ns k))) (C1 := C) (ec_ifE (b := decide ((k : Int) < ((ns.map PyData.int).length : Int))) (C1 := C) (by walk_at "ev") (fun hb => ?_) (fun hb => ?_)) ?_
  · have h : (k : Int) < ((ns.map PyData.int).length : Int) := of_decide_eq_true hb
    rw [List.length_map] at h
    have h' : k < ns.length := by omega
    refine ec_op (ec_var rfl) (ec_var rfl) (er_ixL (atI_nat (j := k) ?_))
    rw [List.getElem?_map, List.getElem?_eq_getElem h']
    show some (PyData.int ns[k]) = some (PyData.int (cellN ns k))
    unfold cellN
    rw [List.getD_eq_getElem?_getD, List.getElem?_eq_getElem h']; rfl
  · have h : ¬ (k : Int) < ((ns.map PyData.int).length : Int) := of_decide_eq_false hb
    rw [List.length_map] at h
    have e : cellN ns k = 0 := by
      unfold cellN
      rw [List.getD_eq_getElem?_getD, List.getElem?_eq_none (by omega)]; rfl
    rw [e]
    exact ec_int
  generalize hc : cellN ns k = c at hR ⊢
  refine ex_sif0 (b := decide (1000000000000000000 ≤ c)) ?_ (fun hb => ?_) (fun hb => ?_)
  · walk_at "evc"
    exact ⟨by decide, by decide, by decide⟩
  · have hb := of_decide_eq_true hb
    unfold dig0 at hR
    rw [if_pos hb] at hR
    refine ex_retW (C1 := C) (ew_lstD ?_) hR
    walk_at "evc"
    exact ⟨by decide, by decide, by decide⟩
  · have hb := of_decide_eq_false hb
    unfold dig0 at hR
    rw [if_neg hb] at hR
    have b0 : 0 ≤ (c * 48271 + 7919 * (k : Int) + 11) % 2147483647 := Int.emod_nonneg _ (by decide)
    have b1 : (c * 48271 + 7919 * (k : Int) + 11) % 2147483647 < 2147483647 := Int.emod_lt_of_pos _ (by decide)
    refine ex_sasg ec_int (ex_sasg (C1 := C) (p := pD K (.int ((c * 48271 + 7919 * (k : Int) + 11) % 2147483647))) ?_ ?_)
    · walk_at "ev"
      · exact .inr ⟨by decide, by decide⟩
      · exact .inl ⟨by decide, by decide⟩
      · decide
    generalize hn : (c * 48271 + 7919 * (k : Int) + 11) % 2147483647 = n at hR b0 b1 ⊢
    have ok := dgRun_ok b0 b1
    refine ex_sfor (n := 80) (item := fun i => pD K (.int (i : Int))) (G := fun _ => True) (C1 := C) (ei_rng1 (j := 80) (ea_cons ec_int ea_nil) (by decide) (by decide))
      (fun i ρ' C' => ρ' = [some (pD K (.list (ns.map PyData.int))), some (pD K (.int k)), some (pD K (.int c)), some (pD K (.int (dgRun n i).2)), some (pD K (.int (dgRun n i).1)), none] ∧ C = C') (EnvLe.refl _) (Sub.refl _) ⟨rfl, rfl⟩ (fun _ _ _ _ _ => trivial) ?_ ?_
    · rintro M1 s1 i ρ' C' hi ⟨rfl, rfl⟩
      have oki := ok i
      refine ⟨_, _, eg_name, ex_sasg (C1 := C) (p := pD K (.int (dgNum (dgRun n i).1 i))) ?_ (ex_asg (C1 := C) (p := pD K (.int (dgRun n (i + 1)).2)) ?_ (nx_Iw (ρ' := [some (pD K (.list (ns.map PyData.int))), some (pD K (.int k)), some (pD K (.int c)), some (pD K (.int (dgRun n (i + 1)).2)), some (pD K (.int (dgRun n (i + 1)).1)), none]) (by walk_at "le") (Sub.refl _) ⟨rfl, rfl⟩))⟩
      · walk_at "evc"
        · exact .inl ⟨by omega, by omega⟩
        · exact .inl ⟨by decide, by decide⟩
        · decide
      · have a1 : 0 ≤ dgNum (dgRun n i).1 i := Int.emod_nonneg _ (by decide)
        have a2 : dgNum (dgRun n i).1 i < 2147483629 := Int.emod_lt_of_pos _ (by decide)
        walk_at "evc"
        · exact .inr ⟨by decide, by decide⟩
        · exact .inr ⟨by decide, by decide⟩
        · decide
    · rintro ρ' C' ⟨rfl, rfl⟩
      exact ex_retW (C1 := C) (ew_lstD (ead_cons (ec_var rfl) ead_nil)) hR

/-! ### _law_take -/
def sp__law_take (K : PySem.W.Frag) : Sp := spF (γ := Addr × Int) K (fun g => [pRef g.1, pD K (.int g.2)]) (fun g C => C g.1 = some purse ∧ 0 < g.2 ∧ g.2 ≤ 1000000000000)
  (fun g => pI (fun i => 0 ≤ i ∧ i < g.2)) (fun _ C => C)
theorem ec_takeI {K : PySem.W.Frag} {ρ : En} {C : Cs} {a : Addr} {f : Int → Prop} {tv tm : TE} {E : XK} (hv : Ec K tv ρ C (pRef a) C) (hc : C a = some purse) (hm : Ec K tm ρ C (pI f) C)
    (h0 : ∀ m, f m → 0 < m ∧ m ≤ 1000000000000) : Ec K (tCall (sp__law_take K) [] E (tCons tv (tCons tm tNil))) ρ C (pI fun i => ∃ m, f m ∧ 0 ≤ i ∧ i < m) C :=
  ec_callK (ea_cons hv (ea_cons hm ea_nil)) (ek_i1 fun m hm => (ek_sp (a, m) ⟨hc, h0 m hm⟩).mapI fun i hi => ⟨m, hm, hi⟩)
theorem ec_take {K : PySem.W.Frag} {ρ : En} {C : Cs} {a : Addr} {m : Int} {tv tm : TE} {E : XK} (hv : Ec K tv ρ C (pRef a) C) (hm : Ec K tm ρ C (pD K (.int m)) C) (hc : C a = some purse)
    (h0 : 0 < m) (h1 : m ≤ 1000000000000) : Ec K (tCall (sp__law_take K) [] E (tCons tv (tCons tm tNil))) ρ C (pI fun i => 0 ≤ i ∧ i < m) C :=
  ec_call (ps := []) (a, m) (ea_cons hv (ea_cons hm ea_nil)) ⟨hc, h0, h1⟩

theorem ok__law_take {f : Addr} {fd : FuncData} (D : Def K mg "_law_take" s__law_take ["_law_held", "_law_many"] f fd) (T : Txt K mg) : Cal P w K mg base CX0 "_law_take" 1 ["_law_held", "_law_many"] (sp__law_take K) f fd := by
  refine ⟨okF D.F sc__law_take (fun _ => rfl) (fun cdv Ar outer s H E hr => ⟨_, (pss_cons (ps_set (i := 2) sc__law_take.nd rfl (by first | exact .inl rfl | exact .inr rfl) (pe_op op_mod (pe_ix ix_list (pv 0) pe_int (fun _ _ => rfl)) (pv 1)))
  (pss_cons (ps_asg (pe_op op_fdivW (pe_ix ix_list (pv 0) pe_int (fun _ _ => rfl)) (pv 1)) (pg_sub (pv 0) pe_int set_list))
  (pss_one (ps_ret (pv 2))))), fun g C M0 R hp hR => ?_⟩), D.g, D.F.kp, D.b⟩
  try dsimp only [cxOf, Cx.nox, Cx.wish]
  show Ex K M0 _ _ [some _, some _, none] C
  obtain ⟨a, m⟩ := g
  dsimp only at hp hR ⊢
  obtain ⟨hc, h0, h1⟩ := hp
  refine ex_open hc fun h => ?_
  refine ex_sasg (C1 := updC C a (.lst [.int h])) (p := pD K (.int (h % m))) ?_ (ex_ssetL (C' := updC C a (.lst [.int (h / m)])) (d := .int (h / m)) (j := 0) ?_ (ec_var rfl) ec_int updC_same rfl updC_updC (ex_ret (ec_var rfl) ((hR.open hc).ofI ⟨Int.emod_nonneg _ (by omega), Int.emod_lt_of_pos _ h0⟩)))
  · have hc : updC C a (.lst [.int h]) a = some (.lst [.int h]) := updC_same
    walk_at "ev"
    exact h0
  · have hc : updC C a (.lst [.int h]) a = some (.lst [.int h]) := updC_same
    walk_at "ev"
    exact wide_div (b := 40) h0 (by omega) (by decide) (by decide)

/-! ### _law_whole -/
def sp__law_whole (K : PySem.W.Frag) : Sp := spF (γ := PyData) K (fun d => [pD K d]) (fun _ _ => True) (fun d => pD K (.bool (isI d && !isB d))) (fun _ C => C)

theorem ok__law_whole {f : Addr} {fd : FuncData} (D : Def K mg "_law_whole" s__law_whole ["_law_thing"] f fd) (T : Txt K mg) : Cal P w K mg base CX0 "_law_whole" 1 ["_law_thing"] (sp__law_whole K) f fd := by
  refine ⟨okF D.F sc__law_whole (fun _ => rfl) (fun cdv Ar outer s H E hr => ⟨_, (pss_one (ps_ret (pe_and (pe_callB call_isi (by rfl) T.b_isinstance (by decide +kernel) (pa_cons (pv 0) (pa_cons (pe_bltn (v := .ty "int") (u := .type "int") (by rfl) T.b_int (by decide +kernel) rfl) pa_nil))) (pe_one (pe_not (pe_callB call_isi (by rfl) T.b_isinstance (by decide +kernel) (pa_cons (pv 0) (pa_cons (pe_bltn (v := .ty "bool") (u := .type "bool") (by rfl) T.b_bool (by decide +kernel) rfl) pa_nil)))))))), fun g C M0 R hp hR => ?_⟩), D.g, D.F.kp, D.b⟩
  try dsimp only [cxOf, Cx.nox, Cx.wish]
  show Ex K M0 _ _ [some _] C
  refine ex_ret (ec_andV (a := isI g) (b := !isB g) (C1 := C) ?_ (fun _ => ec_notV ?_)) hR
  · walk_at "ev"
  · walk_at "ev"

/-! ### _law_alike -/
/-- data that may be asked whether they are alike -/
def Al : Nat → PyData → Prop
  | _, .int _ => True
  | _, .str x => TOk x
  | _, .none => True
  | n + 1, .list ds => ds.length < 100000 ∧ ∀ d ∈ ds, Al n d
  | n + 1, .tuple ds => ds.length < 100000 ∧ ∀ d ∈ ds, Al n d
  | _, _ => False
def spn__law_alike : Nat → PySem.W.Frag → Sp
  | 0, K => spF (γ := Pd × Pd × PyData) K (fun g => [g.1, g.2.1]) (fun _ _ => False) (fun _ => pD K (.bool true)) (fun _ C => C)
  | n + 1, K => spF (γ := Pd × Pd × PyData) K (fun g => [g.1, g.2.1]) (fun g C => Dat K C g.1 g.2.2 ∧ Dat K C g.2.1 g.2.2 ∧ Al n g.2.2) (fun _ => pD K (.bool true)) (fun _ C => C)
def sp__law_alike (K : PySem.W.Frag) : Sp := spn__law_alike 4 K
theorem al_all {n : Nat} : coll (fun _ => true) (fun _ => .bool true) n = (List.replicate n true).map PyData.bool := by
  rw [coll_map, List.map_const', List.length_range, List.map_replicate]

theorem st__law_alike (n : Nat) {f : Addr} {fd : FuncData} (D : Def K mg "_law_alike" s__law_alike ["_law_told", "_law_due"] f fd) (T : Txt K mg) {f__law_whole : Addr} {fd__law_whole : FuncData} (c__law_whole : Cal P w K mg base CX0 "_law_whole" 1 ["_law_thing"] (sp__law_whole K) f__law_whole fd__law_whole) (c__law_alike : Cal P w K mg base CX0 "_law_alike" (1 + n) ["_law_told", "_law_due"] (spn__law_alike n K) f fd) : Cal P w K mg base CX0 "_law_alike" (1 + n + 1) ["_law_told", "_law_due"] (spn__law_alike (n + 1) K) f fd := by
  refine ⟨okF D.F sc__law_alike (fun _ => rfl) (fun cdv Ar outer s H E hr => ⟨_, (pss_cons (ps_if (pw_or (pt_val (pe_callB call_isi (by rfl) T.b_isinstance (by decide +kernel) (pa_cons (pv 1) (pa_cons (pe_bltn (v := .ty "tuple") (u := .type "tuple") (by rfl) T.b_tuple (by decide +kernel) rfl) pa_nil)))) (pw_or1 (pt_val (pe_callB call_isi (by rfl) T.b_isinstance (by decide +kernel) (pa_cons (pv 1) (pa_cons (pe_bltn (v := .ty "list") (u := .type "list") (by rfl) T.b_list (by decide +kernel) rfl) pa_nil)))))).pt
  (pss_cons (ps_if (pw_or (pt_cmpR op_ne (pe_callB call_isi (by rfl) T.b_isinstance (by decide +kernel) (pa_cons (pv 0) (pa_cons (pe_bltn (v := .ty "tuple") (u := .type "tuple") (by rfl) T.b_tuple (by decide +kernel) rfl) pa_nil))) (pe_callB call_isi (by rfl) T.b_isinstance (by decide +kernel) (pa_cons (pv 1) (pa_cons (pe_bltn (v := .ty "tuple") (u := .type "tuple") (by rfl) T.b_tuple (by decide +kernel) rfl) pa_nil))) (nomark _)) (pw_or1 (pt_cmpR op_ne (pe_callB call_isi (by rfl) T.b_isinstance (by decide +kernel) (pa_cons (pv 0) (pa_cons (pe_bltn (v := .ty "list") (u := .type "list") (by rfl) T.b_list (by decide +kernel) rfl) pa_nil))) (pe_callB call_isi (by rfl) T.b_isinstance (by decide +kernel) (pa_cons (pv 1) (pa_cons (pe_bltn (v := .ty "list") (u := .type "list") (by rfl) T.b_list (by decide +kernel) rfl) pa_nil))) (nomark _)))).pt
  (pss_one (ps_ret pe_bl)) pss_nil)
  (pss_cons (ps_if (pt_cmpR op_ne (pe_callB call_len_seq (by rfl) T.b_len PySem.boot_len (pa_cons (pv 0) pa_nil)) (pe_callB call_len_seq (by rfl) T.b_len PySem.boot_len (pa_cons (pv 1) pa_nil)) (nomark _))
  (pss_one (ps_ret pe_bl)) pss_nil)
  (pss_one (ps_ret (pe_callB (cr_all rfl) (by rfl) T.b_all (by decide +kernel) (pa_cons (pe_lc (own := [("_law_one", 2), ("_law_other", 3)]) (g := gTup K 2 (gCons (gName 2) (gCons (gName 3) gNil))) rfl sc__law_alike.nd (RZ.pi_zipA (by rfl) T.b_zip (pa_cons (pv 0) (pa_cons (pv 1) pa_nil))) (blkOk_by (N := ["_law_told", "_law_due", "_law_one", "_law_other"]) (sc := defScope s__law_alike) (by decide +kernel)) (fun _ _ _ _ _ => (pg_tup rfl (pgs_cons (pg_name (i := 2) sc__law_alike.nd rfl (Or.inl rfl) (Or.inr rfl)) (pgs_cons (pg_name (i := 3) sc__law_alike.nd rfl (Or.inl rfl) (Or.inr rfl)) pgs_nil)))) (fun _ _ _ _ _ => pts_nil) (fun _ _ _ _ _ => (pe_call c__law_alike.G (hr.mono (by omega)) (by rfl) c__law_alike.g c__law_alike.kp c__law_alike.b .nil pass0 (pa_cons (pv 2) (pa_cons (pv 3) pa_nil))))) pa_nil)))))) pss_nil)
  (pss_cons (ps_if (pw_or (pt_val (pe_callB call_isi (by rfl) T.b_isinstance (by decide +kernel) (pa_cons (pv 1) (pa_cons (pe_bltn (v := .ty "str") (u := .type "str") (by rfl) T.b_str (by decide +kernel) rfl) pa_nil)))) (pw_or1 (pt_cmpR op_isN (pv 1) pe_non (nomark _)))).pt
  (pss_one (ps_ret (pe_and (pe_cmpR op_eq (pe_callB call_isi (by rfl) T.b_isinstance (by decide +kernel) (pa_cons (pv 0) (pa_cons (pe_bltn (v := .ty "str") (u := .type "str") (by rfl) T.b_str (by decide +kernel) rfl) pa_nil))) (pe_callB call_isi (by rfl) T.b_isinstance (by decide +kernel) (pa_cons (pv 1) (pa_cons (pe_bltn (v := .ty "str") (u := .type "str") (by rfl) T.b_str (by decide +kernel) rfl) pa_nil))) (nomark _)) (pe_one (pe_cmpR (op_eqD hr.units) (pv 0) (pv 1) (nomark _)))))) pss_nil)
  (pss_one (ps_ret (pe_and (pe_call c__law_whole.G (hr.mono (by omega)) (by rfl) c__law_whole.g c__law_whole.kp c__law_whole.b .nil pass0 (pa_cons (pv 0) pa_nil)) (pe_one (pe_cmpR (op_eqD hr.units) (pv 0) (pv 1) (nomark _)))))))), fun g C M0 R hp hR => ?_⟩), D.g, D.F.kp, D.b⟩
  try dsimp only [cxOf, Cx.nox, Cx.wish]
  show Ex K M0 _ _ [some _, some _, none, none] C
  obtain ⟨p, q, d⟩ := g
  obtain ⟨hp1, hp2, hd⟩ := hp
  dsimp only at hp1 hp2 hd hR ⊢
  refine ex_sif0 (b := isT d || isL d) ?_ (fun hb => ?_) (fun hb => ?_)
  · refine et_or (et_B ?_) (fun _ => et_B ?_)
    · exact ec_cb (ea_cons (ec_var rfl) (ea_cons ec_val ea_nil)) (ek_isTA hp2)
    · exact ec_cb (ea_cons (ec_var rfl) (ea_cons ec_val ea_nil)) (ek_isLA hp2)
  · obtain ⟨ds, m, hd', hl, hal⟩ : ∃ ds m, (d = .list ds ∨ d = .tuple ds) ∧ ds.length < 100000 ∧ n = m + 1 ∧ ∀ x ∈ ds, Al m x := by
      cases n with
      | zero => cases d <;> simp_all [Al, isT, isL]
      | succ m =>
        cases d with
        | list ds => exact ⟨ds, m, .inl rfl, hd.1, rfl, hd.2⟩
        | tuple ds => exact ⟨ds, m, .inr rfl, hd.1, rfl, hd.2⟩
        | _ => simp [isT, isL] at hb
    obtain ⟨rfl, hal⟩ := hal
    refine ex_sif0 (b := (!decide (isT d = isT d)) || (!decide (isL d = isL d))) ?_ (fun h => ?_) (fun _ => ?_)
    · refine et_or (et_test (ec_op (C1 := C) ?_ ?_ er_neB)) (fun _ => et_test (ec_op (C1 := C) ?_ ?_ er_neB))
      · exact ec_cb (ea_cons (ec_var rfl) (ea_cons ec_val ea_nil)) (ek_isTA hp1)
      · exact ec_cb (ea_cons (ec_var rfl) (ea_cons ec_val ea_nil)) (ek_isTA hp2)
      · exact ec_cb (ea_cons (ec_var rfl) (ea_cons ec_val ea_nil)) (ek_isLA hp1)
      · exact ec_cb (ea_cons (ec_var rfl) (ea_cons ec_val ea_nil)) (ek_isLA hp2)
    · rw [decide_eq_true rfl, decide_eq_true rfl] at h; cases h
    refine ex_sif0 (b := !decide ((ds.length : Int) = (ds.length : Int))) ?_ (fun h => ?_) (fun _ => ?_)
    · rcases hd' with rfl | rfl
      · exact et_test (ec_op (ec_cb (ea_cons (ec_var rfl) ea_nil) (ek_lenA hp1)) (ec_cb (ea_cons (ec_var rfl) ea_nil) (ek_lenA hp2)) er_neI)
      · have e1 := hp1.pd (fun _ h => nomatch h)
        have e2 := hp2.pd (fun _ h => nomatch h)
        subst e1 e2
        exact et_test (ec_op (ec_cb (ea_cons (ec_var rfl) ea_nil) ek_lenT) (ec_cb (ea_cons (ec_var rfl) ea_nil) ek_lenT) er_neI)
    · rw [decide_eq_true rfl] at h; cases h
    have rr : (pD K (.bool true)) = pD K (.bool ((List.replicate ds.length true).all id)) := by simp
    have turn : ∀ i, i < ds.length → ∀ B : Cs, ∀ ρ2 : En, ρ2[2]? = some (some (pD K (ds.getD i .none))) → ρ2[3]? = some (some (pD K (ds.getD i .none))) →
        Ec K (tCall (spn__law_alike (m + 1) K) [] E0 (tCons (tVar 2) (tCons (tVar 3) tNil))) ρ2 B (pD K (.bool true)) B := fun i hi B ρ2 h2 h3 =>
      ec_call (ps := []) (pD K (ds.getD i .none), pD K (ds.getD i .none), ds.getD i .none) (ea_cons (ec_var h2) (ea_cons (ec_var h3) ea_nil)) ⟨dat_D, dat_D, by
        have : ds.getD i .none ∈ ds := by rw [List.getD_eq_getElem?_getD, List.getElem?_eq_getElem hi]; exact List.getElem_mem hi
        exact hal _ this⟩
    refine ex_ret (C1 := C) (p := pD K (.bool ((List.replicate ds.length true).all id))) (ec_cb (ea_cons (p := pD K (.list ((List.replicate ds.length true).map PyData.bool))) (C1 := C) ?_ ea_nil) ek_all) (by rw [← rr]; exact hR)
    rw [← al_all]
    rcases hd' with rfl | rfl
    · exact Ew.list (ew_lcP (ei_zip (ea_cons (ec_var rfl) (ea_cons (ec_var rfl) ea_nil)) hp1 hp2 rfl) (fun _ => true) (fun _ => .bool true) (fun B hB => ⟨hp1.sub hB, hp2.sub hB⟩) (Nat.lt_trans hl (by decide))
        fun i hi B hB => ⟨_, egv_pair (by simp) (by simp), et_yes, fun _ => turn i hi B _ rfl rfl⟩)
    · have e1 := hp1.pd (fun _ h => nomatch h)
      have e2 := hp2.pd (fun _ h => nomatch h)
      subst e1 e2
      exact Ew.list (ew_lcP (ei_zipT (ea_cons (ec_var rfl) (ea_cons (ec_var rfl) ea_nil)) rfl) (fun _ => true) (fun _ => .bool true) (fun B hB => trivial) (Nat.lt_trans hl (by decide))
        fun i hi B hB => ⟨_, egv_pair (by simp) (by simp), et_yes, fun _ => turn i hi B _ rfl rfl⟩)
  · have hnl : ∀ ds, d ≠ .list ds := fun ds e => by subst e; simp [isT, isL] at hb
    have e1 := hp1.pd hnl
    have e2 := hp2.pd hnl
    subst e1 e2
    have hs : Shp 0 d := by
      cases d with
      | none => exact shp_none
      | int i => exact shp_int
      | str x => exact shp_str (by cases n <;> exact hd)
      | bool b => cases n <;> exact hd.elim
      | dict b => cases n <;> exact hd.elim
      | list b => simp [isT, isL] at hb
      | tuple b => simp [isT, isL] at hb
    have he : PyData.eqv d d = true := eqv_of_shaped hs.shaped
    refine ex_sif0 (b := isS d || isNone d) ?_ (fun hb2 => ?_) (fun hb2 => ?_)
    · refine et_or (et_B ?_) (fun _ => et_test (ec_op (ec_var rfl) ec_non er_isN))
      exact ec_cb (ea_cons (ec_var rfl) (ea_cons ec_val ea_nil)) ek_isS
    · refine ex_ret (C1 := C) (p := pD K (.bool (decide (isS d = isS d) && PyData.eqv d d))) (ec_andV (ec_op (C1 := C) ?_ ?_ er_eqB) (fun _ => ec_op (ec_var rfl) (ec_var rfl) (er_eqD asD_D asD_D hs.shaped hs.shaped))) ?_
      · exact ec_cb (ea_cons (ec_var rfl) (ea_cons ec_val ea_nil)) ek_isS
      · exact ec_cb (ea_cons (ec_var rfl) (ea_cons ec_val ea_nil)) ek_isS
      · rw [he, decide_eq_true rfl]; exact hR
    · refine ex_ret (C1 := C) (p := pD K (.bool ((isI d && !isB d) && PyData.eqv d d))) (ec_andV (ec_call (ps := []) d (ea_cons (ec_var rfl) ea_nil) trivial) (fun _ => ec_op (ec_var rfl) (ec_var rfl) (er_eqD asD_D asD_D hs.shaped hs.shaped))) ?_
      have : (isI d && !isB d) = true := by
        cases d with
        | int i => rfl
        | none => simp [isS, isNone] at hb2
        | str x => simp [isS, isNone] at hb2
        | bool b => cases n <;> exact hd.elim
        | dict b => cases n <;> exact hd.elim
        | list b => simp [isT, isL] at hb
        | tuple b => simp [isT, isL] at hb
      rw [this, he]; exact hR

theorem ok__law_alike {f : Addr} {fd : FuncData} (D : Def K mg "_law_alike" s__law_alike ["_law_told", "_law_due"] f fd) (T : Txt K mg) {f__law_whole : Addr} {fd__law_whole : FuncData} (c__law_whole : Cal P w K mg base CX0 "_law_whole" 1 ["_law_thing"] (sp__law_whole K) f__law_whole fd__law_whole) : Cal P w K mg base CX0 "_law_alike" 5 ["_law_told", "_law_due"] (sp__law_alike K) f fd := by
  have h : ∀ n, Cal P w K mg base CX0 "_law_alike" (1 + n) ["_law_told", "_law_due"] (spn__law_alike n K) f fd := fun n => by
    induction n with
    | zero => exact ⟨fn_never (by rintro vs H Q E ⟨g, M, C, _, _, h, _⟩; exact h.elim), D.g, D.F.kp, D.b⟩
    | succ n ih => exact st__law_alike n D T c__law_whole ih
  exact h 4
/-! ### _law_signs -/
def sp__law_signs (K : PySem.W.Frag) : Sp := spF (γ := Unit) K (fun _ => []) (fun _ _ => True) (fun _ => pD K (.str "abcdefghijklmnopqrstuvwxyz0123456789")) (fun _ C => C)

theorem ok__law_signs {f : Addr} {fd : FuncData} (D : Def K mg "_law_signs" s__law_signs [] f fd) (T : Txt K mg) : Cal P w K mg base CX0 "_law_signs" 1 [] (sp__law_signs K) f fd := by
  refine ⟨okF D.F sc__law_signs (fun _ => rfl) (fun cdv Ar outer s H E hr => ⟨_, (pss_one (ps_ret pe_str)), fun g C M0 R hp hR => ?_⟩), D.g, D.F.kp, D.b⟩
  try dsimp only [cxOf, Cx.nox, Cx.wish]
  show Ex K M0 _ _ [] C
  exact ex_ret ec_str hR

/-! ### _law_piece -/
/-! common: pieces -/
/-- the texts of six signs -/
def piecesL (l : List Nat) : List (List Nat) := (List.range ((l.length + 5) / 6)).map fun i => (l.drop (6 * i)).take 6
abbrev dStr (l : List Nat) : PyData := .str (sL l)

/-! common: pcode -/
--needs code piece pieces
theorem poGo_code {l : List Nat} (h : Nm l) : ∀ t, poGo t (codeF l t) (l.drop t) = some (0, l)
  | 0 => rfl
  | t + 1 => by
    have f := figA_ok h t
    have ih := poGo_code h t
    have e1 : codeF l (t + 1) % 37 = figA l t := by show (codeF l t * 37 + figA l t) % 37 = _; omega
    have e2 : codeF l (t + 1) / 37 = codeF l t := by show (codeF l t * 37 + figA l t) / 37 = _; omega
    show (if 0 < codeF l (t + 1) % 37 then _ else if l.drop (t + 1) = [] then _ else none) = _
    rw [e1, e2]
    by_cases hl : t < l.length
    · have e3 : figA l t = 1 + (idx (l.getD t 0) : Int) := by unfold figA; rw [if_pos hl]
      have e4 : signs.getD (figA l t - 1).toNat 0 = l.getD t 0 := by
        rw [e3, show (1 + (idx (l.getD t 0) : Int) - 1).toNat = idx (l.getD t 0) by omega, List.getD_eq_getElem?_getD, idx_get (h.at hl)]; rfl
      rw [if_pos (by omega), e4]
      have e5 : l.getD t 0 :: l.drop (t + 1) = l.drop t := by
        rw [List.drop_eq_getElem_cons hl, List.getD_eq_getElem?_getD, List.getElem?_eq_getElem hl]; rfl
      rw [e5]; exact ih
    · have e3 : figA l t = 0 := by unfold figA; rw [if_neg hl]
      have e4 : l.drop (t + 1) = [] := List.drop_of_length_le (by omega)
      have e5 : l.drop t = [] := List.drop_of_length_le (by omega)
      rw [e3, if_neg (by omega), if_pos e4, e4]
      rw [e5] at ih; exact ih
theorem piece_code {l : List Nat} (h : Nm l) (h0 : 1 ≤ l.length) (h1 : l.length ≤ 6) : pieceOf (codeL l) = some l := by
  have := poGo_code h 6
  rw [List.drop_of_length_le h1] at this
  unfold pieceOf codeL
  rw [this]
  show (if (0 : Int) < 0 ∨ l = [] then none else some l) = some l
  rw [if_neg]
  rintro (h | h)
  · omega
  · subst h; simp at h0
theorem mem_pieces {l p : List Nat} (h : Nm l) (hp : p ∈ piecesL l) : Nm p ∧ 1 ≤ p.length ∧ p.length ≤ 6 := by
  unfold piecesL at hp
  obtain ⟨i, hi, rfl⟩ := List.mem_map.mp hp
  rw [List.mem_range] at hi
  refine ⟨(h.drop _).take _, ?_, ?_⟩
  · rw [List.length_take, List.length_drop]; omega
  · rw [List.length_take]; omega
theorem pieces_three {l : List Nat} (h0 : 1 ≤ l.length) (h1 : l.length ≤ 18) : [l.take 6, (l.drop 6).take 6, l.drop 12].filter (fun p => !decide (p = [])) = piecesL l := by
  unfold piecesL
  have e : (l.length + 5) / 6 = 1 ∨ (l.length + 5) / 6 = 2 ∨ (l.length + 5) / 6 = 3 := by omega
  have nz : ∀ p : List Nat, 1 ≤ p.length → (!decide (p = [])) = true := fun p hp => by
    cases p with
    | nil => simp at hp
    | cons a b => rfl
  have z : ∀ p : List Nat, p.length = 0 → ¬ (!decide (p = [])) = true := fun p hp => by
    cases p with
    | nil => simp
    | cons a b => simp at hp
  have k1 : 1 ≤ (l.take 6).length := by rw [List.length_take]; omega
  rw [List.filter_cons_of_pos (p := fun p => !decide (p = [])) (nz _ k1)]
  rcases e with e | e | e
  · have k2 : ((l.drop 6).take 6).length = 0 := by rw [List.length_take, List.length_drop]; omega
    have k3 : (l.drop 12).length = 0 := by rw [List.length_drop]; omega
    rw [e, List.filter_cons_of_neg (p := fun p => !decide (p = [])) (z _ k2), List.filter_cons_of_neg (p := fun p => !decide (p = [])) (z _ k3)]; rfl
  · have k2 : 1 ≤ ((l.drop 6).take 6).length := by rw [List.length_take, List.length_drop]; omega
    have k3 : (l.drop 12).length = 0 := by rw [List.length_drop]; omega
    rw [e, List.filter_cons_of_pos (p := fun p => !decide (p = [])) (nz _ k2), List.filter_cons_of_neg (p := fun p => !decide (p = [])) (z _ k3)]; rfl
  · have k2 : 1 ≤ ((l.drop 6).take 6).length := by rw [List.length_take, List.length_drop]; omega
    have k3 : 1 ≤ (l.drop 12).length := by rw [List.length_drop]; omega
    have k4 : (l.drop 12).take 6 = l.drop 12 := List.take_of_length_le (by rw [List.length_drop]; omega)
    rw [e, List.filter_cons_of_pos (p := fun p => !decide (p = [])) (nz _ k2), List.filter_cons_of_pos (p := fun p => !decide (p = [])) (nz _ k3)]
    show _ = [(l.drop 0).take 6, (l.drop 6).take 6, (l.drop 12).take 6]
    rw [k4]; rfl
theorem pieces_len {l : List Nat} (h1 : l.length ≤ 18) : (piecesL l).length ≤ 3 := by
  unfold piecesL
  rw [List.length_map, List.length_range]; omega
theorem pieces_cnt {l : List Nat} : (piecesL l).length = (l.length + 5) / 6 := by
  unfold piecesL
  rw [List.length_map, List.length_range]

/-! common: pword -/
--needs pcode
theorem idx_signs {k : Nat} (h : k < 36) : idx (signs.getD k 0) = k := by
  have : ∀ k < 36, idx (signs.getD k 0) = k := by decide +kernel
  exact this k h
theorem poGo_nm : ∀ {t : Nat} {left left' : Int} {p l : List Nat}, poGo t left p = some (left', l) → 0 ≤ left → Nm p → Nm l ∧ 0 ≤ left'
  | 0, left, left', p, l, h, h0, hp => by
    have h : some (left, p) = some (left', l) := h
    injection h with h
    injection h with h1 h2
    subst h1; subst h2
    exact ⟨hp, h0⟩
  | t + 1, left, left', p, l, h, h0, hp => by
    have h : (if 0 < left % 37 then poGo t (left / 37) (signs.getD (left % 37 - 1).toNat 0 :: p) else if p = [] then poGo t (left / 37) p else none) = some (left', l) := h
    by_cases c : 0 < left % 37
    · rw [if_pos c] at h
      refine poGo_nm h (by omega) fun x hx => ?_
      rcases List.mem_cons.mp hx with rfl | hx
      · exact (signs_at (i := left % 37 - 1) (by omega) (by omega)).2
      · exact hp x hx
    · rw [if_neg c] at h
      by_cases c2 : p = []
      · rw [if_pos c2] at h
        exact poGo_nm h (by omega) hp
      · rw [if_neg c2] at h; cases h
theorem poGo_val : ∀ {t : Nat} {left left' : Int} {p l : List Nat}, poGo t left p = some (left', l) → l.drop t = p ∧ left = left' * 37 ^ t + codeF l t
  | 0, left, left', p, l, h => by
    have h : some (left, p) = some (left', l) := h
    injection h with h
    injection h with h1 h2
    subst h1; subst h2
    refine ⟨rfl, ?_⟩
    show left = left * 1 + 0
    omega
  | t + 1, left, left', p, l, h => by
    have h : (if 0 < left % 37 then poGo t (left / 37) (signs.getD (left % 37 - 1).toNat 0 :: p) else if p = [] then poGo t (left / 37) p else none) = some (left', l) := h
    have fin : ∀ f : Int, left / 37 = left' * 37 ^ t + codeF l t → figA l t = left % 37 → left = left' * 37 ^ (t + 1) + codeF l (t + 1) := fun f h1 h2 => by
      show left = left' * 37 ^ (t + 1) + (codeF l t * 37 + figA l t)
      rw [h2, Int.pow_succ, ← Int.mul_assoc]
      omega
    by_cases c : 0 < left % 37
    · rw [if_pos c] at h
      obtain ⟨h1, h2⟩ := poGo_val h
      have hl : t < l.length := by
        rcases Nat.lt_or_ge t l.length with h | h
        · exact h
        · rw [List.drop_of_length_le h] at h1; cases h1
      rw [List.drop_eq_getElem_cons hl] at h1
      injection h1 with h3 h4
      refine ⟨h4, fin 0 h2 ?_⟩
      unfold figA
      rw [if_pos hl, List.getD_eq_getElem?_getD, List.getElem?_eq_getElem hl]
      show 1 + ((idx l[t] : Nat) : Int) = _
      rw [h3, idx_signs (by omega)]
      omega
    · rw [if_neg c] at h
      by_cases c2 : p = []
      · rw [if_pos c2] at h
        obtain ⟨h1, h2⟩ := poGo_val h
        subst c2
        have hl : ¬ t < l.length := fun hl => by
          rw [List.drop_eq_getElem_cons hl] at h1; cases h1
        refine ⟨List.drop_of_length_le (by omega), fin 0 h2 ?_⟩
        unfold figA
        rw [if_neg hl]; omega
      · rw [if_neg c2] at h; cases h
theorem pieceOf_word {w : Int} {p : List Nat} (h0 : 0 ≤ w) (h : pieceOf w = some p) : Nm p ∧ 1 ≤ p.length ∧ p.length ≤ 6 ∧ codeL p = w := by
  unfold pieceOf at h
  cases e : poGo 6 w [] with
  | none => rw [e] at h; cases h
  | some x =>
    obtain ⟨left, l⟩ := x
    rw [e] at h
    have h : (if 0 < left ∨ l = [] then none else some l) = some p := h
    by_cases c : 0 < left ∨ l = []
    · rw [if_pos c] at h; cases h
    · rw [if_neg c] at h
      injection h with h
      subst h
      obtain ⟨n1, n2⟩ := poGo_nm e h0 (fun _ hx => by simp at hx)
      obtain ⟨v1, v2⟩ := poGo_val e
      have hz : left = 0 := by
        have : ¬ 0 < left := fun q => c (.inl q)
        omega
      have hl : ¬ l = [] := fun q => c (.inr q)
      refine ⟨n1, ?_, ?_, ?_⟩
      · cases l with
        | nil => exact absurd rfl hl
        | cons a b => simp
      · rcases Nat.lt_or_ge 6 l.length with q | q
        · rw [List.drop_eq_getElem_cons q] at v1; cases v1
        · exact q
      · unfold codeL
        rw [v2, hz]; omega

def sp__law_piece (K : PySem.W.Frag) : Sp := spF (γ := Int) K (fun w => [pD K (.int w)]) (fun w _ => 0 ≤ w) (fun w => pD K (dOpt (pieceOf w))) (fun _ C => C)
/-- what is left without the blanks behind -/
def rsL (q : List Nat) : List Nat := (q.reverse.dropWhile (fun c => c == 32)).reverse
theorem rsL_cons (c : Nat) (q : List Nat) : rsL (c :: q) = if rsL q = [] ∧ c = 32 then [] else c :: rsL q := by
  unfold rsL
  rw [List.reverse_cons, List.dropWhile_append]
  cases e : q.reverse.dropWhile (fun c => c == 32) with
  | nil =>
    by_cases hc : c = 32
    · subst hc; rfl
    · have h2 : (c == 32) = false := by simpa using hc
      simp only [List.isEmpty_nil, if_true, List.reverse_nil, true_and, if_neg hc, List.dropWhile_cons, h2]; rfl
  | cons a b =>
    have : ¬ ((a :: b).reverse = [] ∧ c = 32) := fun ⟨h, _⟩ => by simp at h
    rw [if_neg this]
    simp
theorem rsL_take (q : List Nat) : q.take (q.length - (q.reverse.takeWhile (fun c => c == 32)).length) = rsL q := by
  unfold rsL
  have h := List.takeWhile_append_dropWhile (p := fun c => c == 32) (l := q.reverse)
  have h2 : q = (q.reverse.dropWhile (fun c => c == 32)).reverse ++ (q.reverse.takeWhile (fun c => c == 32)).reverse := by
    rw [← List.reverse_append, h, List.reverse_reverse]
  generalize hd : (q.reverse.dropWhile (fun c => c == 32)).reverse = d at h2 ⊢
  generalize ht : q.reverse.takeWhile (fun c => c == 32) = t at h2 ⊢
  rw [h2, List.length_append, List.length_reverse, Nat.add_sub_cancel, List.take_left']
  rfl
theorem rstrip_sL (q : List Nat) : PySem.Txt.rstripChars (sL q) (Str.ofString " ") = sL (rsL q) := by
  have hg : ((Str.ofString " ").cps.contains : Nat → Bool) = fun c => c == 32 := by
    funext c
    have : (Str.ofString " ").cps = #[32] := by decide +kernel
    rw [this]
    simp only [List.contains_toArray, List.contains_cons, List.contains_nil, Bool.or_false]
  have hi : stripHi (fun c => c == 32) true (sL q) 0 = q.length - (q.reverse.takeWhile (fun c => c == 32)).length := by
    show (sL q).length - (((sL q).cps.toList.drop 0).reverse.takeWhile _).length = _
    rw [sL_len, sL_cps, List.drop_zero]
  unfold PySem.Txt.rstripChars PySem.Txt.stripBy
  rw [hg]
  split
  · rename_i h
    have h : (0 == 0 && stripHi (fun c => c == 32) true (sL q) 0 == (sL q).length) = true := h
    rw [hi, sL_len] at h
    have h : q.length - (q.reverse.takeWhile (fun c => c == 32)).length = q.length := by simpa using h
    rw [← rsL_take, h, List.take_length]
  · show Builtin.Str.strSub (sL q) 0 (stripHi (fun c => c == 32) true (sL q) 0) = _
    rw [hi, ← rsL_take]
    show (⟨q.toArray.extract 0 _⟩ : Str) = ⟨(q.take _).toArray⟩
    rw [List.extract_toArray, List.extract_eq_take_drop, List.drop_zero, Nat.sub_zero]
theorem blank_at {i : Int} (h0 : 0 ≤ i) (h1 : i < 37) : atI (Str.ofString " abcdefghijklmnopqrstuvwxyz0123456789").cps.toList i = some ((32 :: signs).getD i.toNat 0) := by
  have : ∀ k < 37, atI (Str.ofString " abcdefghijklmnopqrstuvwxyz0123456789").cps.toList ((k : Nat) : Int) = some ((32 :: signs).getD k 0) := by decide +kernel
  have := this i.toNat (by omega)
  rw [show ((i.toNat : Nat) : Int) = i by omega] at this
  exact this
theorem blank_app : (Str.ofString " " ++ Str.ofString "abcdefghijklmnopqrstuvwxyz0123456789") = Str.ofString " abcdefghijklmnopqrstuvwxyz0123456789" := by decide +kernel
/-- the text of all figures, and what piece_of sees -/
structure Pst (w : Int) (i : Nat) (left : Int) (t : List Nat) : Prop where
  h0 : 0 ≤ left
  len : t.length = i
  yes : 32 ∉ rsL t → poGo 6 w [] = poGo (6 - i) left (rsL t)
  no : 32 ∈ rsL t → poGo 6 w [] = none
theorem Pst.step {w : Int} {i : Nat} {left : Int} {t : List Nat} (h : Pst w i left t) (hi : i < 6) : Pst w (i + 1) (left / 37) ((32 :: signs).getD (left % 37).toNat 0 :: t) := by
  have h0 := h.h0
  have e6 : 6 - i = (6 - (i + 1)) + 1 := by omega
  have n32 : 32 ∉ signs := by decide +kernel
  by_cases c : 0 < left % 37
  · have e : (32 :: signs).getD (left % 37).toNat 0 = signs.getD (left % 37 - 1).toNat 0 := by
      rw [show (left % 37).toNat = (left % 37 - 1).toNat + 1 by omega]; rfl
    have hs := (signs_at (i := left % 37 - 1) (by omega) (by omega)).2
    rw [e]
    have hc : signs.getD (left % 37 - 1).toNat 0 ≠ 32 := fun q => n32 (q ▸ hs)
    have er : rsL (signs.getD (left % 37 - 1).toNat 0 :: t) = signs.getD (left % 37 - 1).toNat 0 :: rsL t := by rw [rsL_cons, if_neg (fun q => hc q.2)]
    refine ⟨by omega, by rw [List.length_cons, h.len], fun q => ?_, fun q => ?_⟩
    · rw [er] at q ⊢
      rw [h.yes (fun z => q (List.mem_cons_of_mem _ z)), e6]
      show (if 0 < left % 37 then _ else _) = _
      rw [if_pos c]
    · rw [er] at q
      rcases List.mem_cons.mp q with q | q
      · exact absurd q.symm hc
      · exact h.no q
  · have e : (32 :: signs).getD (left % 37).toNat 0 = 32 := by rw [show (left % 37).toNat = 0 by omega]; rfl
    rw [e]
    by_cases hr : rsL t = []
    · have er : rsL (32 :: t) = [] := by rw [rsL_cons, if_pos ⟨hr, rfl⟩]
      refine ⟨by omega, by rw [List.length_cons, h.len], fun q => ?_, fun q => ?_⟩
      · rw [er, h.yes (by rw [hr]; simp), hr, e6]
        show (if 0 < left % 37 then _ else if ([] : List Nat) = [] then _ else none) = _
        rw [if_neg c, if_pos rfl]
      · rw [er] at q; simp at q
    · have er : rsL (32 :: t) = 32 :: rsL t := by rw [rsL_cons, if_neg (fun q => hr q.1)]
      refine ⟨by omega, by rw [List.length_cons, h.len], fun q => ?_, fun q => ?_⟩
      · rw [er] at q; exact absurd List.mem_cons_self q
      · by_cases q2 : 32 ∈ rsL t
        · exact h.no q2
        · rw [h.yes q2, e6]
          show (if 0 < left % 37 then _ else if rsL t = [] then _ else none) = none
          rw [if_neg c, if_neg hr]
theorem rsL_len (q : List Nat) : (rsL q).length ≤ q.length := by rw [← rsL_take]; exact List.length_take_le' _ _
theorem Pst.done {w : Int} {left : Int} {t : List Nat} (h : Pst w 6 left t) : pieceOf w = if 0 < left ∨ rsL t = [] ∨ 32 ∈ rsL t then none else some (rsL t) := by
  unfold pieceOf
  by_cases q : 32 ∈ rsL t
  · rw [h.no q, if_pos (.inr (.inr q))]
  · rw [h.yes q]
    show (if 0 < left ∨ rsL t = [] then none else some (rsL t)) = _
    by_cases q2 : 0 < left ∨ rsL t = []
    · rw [if_pos q2, if_pos (by rcases q2 with q2 | q2; exact .inl q2; exact .inr (.inl q2))]
    · rw [if_neg q2, if_neg (by rintro (z | z | z); exact q2 (.inl z); exact q2 (.inr z); exact q z)]

theorem ok__law_piece {f : Addr} {fd : FuncData} (D : Def K mg "_law_piece" s__law_piece ["_law_word"] f fd) (T : Txt K mg) {f__law_signs : Addr} {fd__law_signs : FuncData} (c__law_signs : Cal P w K mg base CX0 "_law_signs" 1 [] (sp__law_signs K) f__law_signs fd__law_signs) : Cal P w K mg base CX0 "_law_piece" 2 ["_law_word"] (sp__law_piece K) f fd := by
  refine ⟨okF D.F sc__law_piece (fun _ => rfl) (fun cdv Ar outer s H E hr => ⟨_, (pss_cons (ps_set (i := 1) sc__law_piece.nd rfl (by first | exact .inl rfl | exact .inr rfl) pe_str)
  (pss_cons (ps_set (i := 2) sc__law_piece.nd rfl (by first | exact .inl rfl | exact .inr rfl) (pv 0))
  (pss_cons (ps_for PassesOwn.never rfl (pi_range1 (by rfl) T.b_range (pa_cons pe_int pa_nil)) (pg_name (i := 3) sc__law_piece.nd rfl (by first | exact .inl rfl | exact .inr rfl))
  (pss_cons (ps_set (i := 1) sc__law_piece.nd rfl (by first | exact .inl rfl | exact .inr rfl) (pe_op op_add_str (pe_ix ix_str (pe_op op_add_str pe_str (pe_call0 c__law_signs.G (hr.mono (by omega)) (by rfl) c__law_signs.g c__law_signs.kp c__law_signs.b .nil pass0)) (pe_op op_mod (pv 2) pe_int) (fun _ _ => rfl)) (pv 1)))
  (pss_one (ps_set (i := 2) sc__law_piece.nd rfl (by first | exact .inl rfl | exact .inr rfl) (pe_op op_fdiv (pv 2) pe_int)))))
  (pss_cons (ps_set (i := 4) sc__law_piece.nd rfl (by first | exact .inl rfl | exact .inr rfl) (pe_bm PySem.F.plainAttrs_str PySem.F.slot_str_rstrip PySem.F.type_str_rstrip mt_rstripChars (pv 1) (pa_cons pe_str pa_nil)))
  (pss_cons (ps_if (pw_or (pt_cmpR op_gt (pv 2) pe_int (nomark _)) (pw_or (pt_cmpR op_eq (pv 4) pe_str (nomark _)) (pw_or1 (pt_cmpR op_in_sign pe_str (pv 4) rfl)))).pt
  (pss_one (ps_ret pe_non)) pss_nil)
  (pss_one (ps_ret (pv 4)))))))), fun g C M0 R hp hR => ?_⟩), D.g, D.F.kp, D.b⟩
  try dsimp only [cxOf, Cx.nox, Cx.wish]
  show Ex K M0 _ _ [some _, none, none, none, none] C
  have hz : ∀ {n : Nat}, n ≤ 1000 → n ≤ sizeLine := fun h => Nat.le_trans h (by decide)
  refine ex_sasg (C1 := C) (p := pD K (.str (sL []))) (Ec.conv ec_str (congrArg (fun x => pD K (.str x)) empty_sL)) (ex_sasg (C1 := C) (ec_var rfl) ?_)
  refine ex_sfor (n := 6) (item := fun i => pD K (.int (i : Int))) (G := fun _ => True) (C1 := C) (ei_rng1 (j := 6) (ea_cons ec_int ea_nil) (by decide) (by decide))
    (fun i ρ' C' => ∃ (left : Int) (t : List Nat), Pst g i left t ∧ ρ' = [some (pD K (.int g)), some (pD K (.str (sL t))), some (pD K (.int left)), none, none] ∧ C = C') (by walk_at "le") (Sub.refl _) ⟨g, [], ⟨hp, rfl, fun _ => rfl, fun q => by simp [rsL] at q⟩, rfl, rfl⟩ (fun _ _ _ _ _ => trivial) ?_ ?_
  · rintro M1 s1 i ρ' C' hi ⟨left, t, ps, rfl, rfl⟩
    refine ⟨_, _, eg_name, ?_⟩
    have h0 := ps.h0
    refine ex_sasg (C1 := C) (p := pD K (.str (sL ((32 :: signs).getD (left % 37).toNat 0 :: t)))) (Ec.conv (ec_op (ec_op (Ec.conv (ec_op ec_str (ec_call (ps := []) () ea_nil trivial) (er_addS (by decide +kernel))) (by rw [blank_app])) (ec_op (ec_var rfl) ec_int (er_mod (by decide))) (er_ixS (by decide +kernel) (blank_at (by omega) (by omega)))) (ec_var rfl) (er_addS (hz (by rw [sL_len, ps.len]; show 1 + _ ≤ _; omega)))) (by rw [sgn_app])) ?_
    refine ex_asg (C1 := C) (ec_op (ec_var rfl) ec_int (er_div ⟨by decide, by decide⟩)) ?_
    exact nx_Iw (by walk_at "le") (Sub.refl _) ⟨left / 37, _, ps.step hi, rfl, rfl⟩
  · rintro ρ' C' ⟨left, t, ps, rfl, rfl⟩
    have hl := rsL_len t
    rw [ps.len] at hl
    refine ex_sasg (C1 := C) (p := pD K (.str (sL (rsL t)))) (ec_strM (ec_var rfl) ec_str (fun _ => .str _) fun H Q q => ⟨_, _, rfl, rfl, hz (by rw [sL_len, ps.len]; decide), by rw [rstrip_sL]; exact q⟩) ?_
    have e := ps.done
    refine ex_sif0 (b := decide (0 < left) || (decide (rsL t = []) || decide (32 ∈ rsL t))) ?_ (fun hb => ?_) (fun hb => ?_)
    · refine et_or (et_test (ec_op (ec_var rfl) ec_int er_gt)) (fun _ => et_or (et_test (Ec.conv (ec_op (ec_var rfl) ec_str er_eqS) (by rw [sL_nil]))) (fun _ => et_test (Ec.conv (ec_op (Ec.conv ec_str (congrArg (fun x => pD K (.str x)) (show Str.ofString " " = sgn 32 by decide +kernel))) (ec_var rfl) er_inS) (by rw [sL_cps]))))
    · rw [if_pos (by simpa using hb)] at e
      rw [e] at hR
      exact ex_ret ec_non hR
    · rw [if_neg (by simpa using hb)] at e
      rw [e] at hR
      exact ex_ret (ec_var rfl) hR

/-! ### _law_drawn -/
def sp__law_drawn (K : PySem.W.Frag) : Sp := spF (γ := Addr) K (fun a => [pRef a]) (fun a C => C a = some purse) (fun _ => pI (fun i => 0 ≤ i)) (fun _ C => C)

theorem ok__law_drawn {f : Addr} {fd : FuncData} (D : Def K mg "_law_drawn" s__law_drawn ["_law_held"] f fd) (T : Txt K mg) {f__law_take : Addr} {fd__law_take : FuncData} (c__law_take : Cal P w K mg base CX0 "_law_take" 1 ["_law_held", "_law_many"] (sp__law_take K) f__law_take fd__law_take) : Cal P w K mg base CX0 "_law_drawn" 2 ["_law_held"] (sp__law_drawn K) f fd := by
  refine ⟨okF D.F sc__law_drawn (fun _ => rfl) (fun cdv Ar outer s H E hr => ⟨_, (pss_cons (ps_if (pt_cmpR op_eq (pe_call c__law_take.G (hr.mono (by omega)) (by rfl) c__law_take.g c__law_take.kp c__law_take.b .nil pass0 (pa_cons (pv 0) (pa_cons pe_int pa_nil))) pe_int (nomark _))
  (pss_one (ps_ret (pe_call c__law_take.G (hr.mono (by omega)) (by rfl) c__law_take.g c__law_take.kp c__law_take.b .nil pass0 (pa_cons (pv 0) (pa_cons (pe_op op_pow pe_int pe_int) pa_nil))))) pss_nil)
  (pss_cons (ps_set (i := 1) sc__law_drawn.nd rfl (by first | exact .inl rfl | exact .inr rfl) (pe_ix ix_list (pe_lst (pa_cons pe_int (pa_cons pe_int (pa_cons pe_int (pa_cons (pe_call c__law_take.G (hr.mono (by omega)) (by rfl) c__law_take.g c__law_take.kp c__law_take.b .nil pass0 (pa_cons (pv 0) (pa_cons pe_int pa_nil))) pa_nil))))) (pe_call c__law_take.G (hr.mono (by omega)) (by rfl) c__law_take.g c__law_take.kp c__law_take.b .nil pass0 (pa_cons (pv 0) (pa_cons pe_int pa_nil))) (fun _ _ => rfl)))
  (pss_cons (ps_set (i := 2) sc__law_drawn.nd rfl (by first | exact .inl rfl | exact .inr rfl) (pe_call c__law_take.G (hr.mono (by omega)) (by rfl) c__law_take.g c__law_take.kp c__law_take.b .nil pass0 (pa_cons (pv 0) (pa_cons pe_int pa_nil))))
  (pss_cons (ps_for PassesOwn.never rfl (pi_range1 (by rfl) T.b_range (pa_cons pe_int pa_nil)) (pg_name (i := 3) sc__law_drawn.nd rfl (by first | exact .inl rfl | exact .inr rfl))
  (pss_cons (ps_set (i := 4) sc__law_drawn.nd rfl (by first | exact .inl rfl | exact .inr rfl) (pe_ix ix_list (pe_lst (pa_cons (pe_op op_add pe_int (pe_call c__law_take.G (hr.mono (by omega)) (by rfl) c__law_take.g c__law_take.kp c__law_take.b .nil pass0 (pa_cons (pv 0) (pa_cons pe_int pa_nil)))) (pa_cons (pe_op op_mul (pe_call c__law_take.G (hr.mono (by omega)) (by rfl) c__law_take.g c__law_take.kp c__law_take.b .nil pass0 (pa_cons (pv 0) (pa_cons pe_int pa_nil))) (pe_call c__law_take.G (hr.mono (by omega)) (by rfl) c__law_take.g c__law_take.kp c__law_take.b .nil pass0 (pa_cons (pv 0) (pa_cons pe_int pa_nil)))) pa_nil))) (pe_callTy call_int1 (by rfl) T.b_int (by decide +kernel) (pa_cons (pe_cmpR op_ge (pv 3) (pv 2) (nomark _)) pa_nil)) (fun _ _ => rfl)))
  (pss_one (ps_set (i := 1) sc__law_drawn.nd rfl (by first | exact .inl rfl | exact .inr rfl) (pe_op op_add (pe_op op_mul (pv 1) pe_int) (pe_op op_mul (pv 4) (pe_callTy call_int1 (by rfl) T.b_int (by decide +kernel) (pa_cons (pe_or (pe_cmpR op_lt (pv 3) (pv 2) (nomark _)) (pe_one (pe_cmpR op_eq (pe_call c__law_take.G (hr.mono (by omega)) (by rfl) c__law_take.g c__law_take.kp c__law_take.b .nil pass0 (pa_cons (pv 0) (pa_cons pe_int pa_nil))) pe_int (nomark _)))) pa_nil))))))))
  (pss_one (ps_ret (pv 1))))))), fun g C M0 R hp hR => ?_⟩), D.g, D.F.kp, D.b⟩
  try dsimp only [cxOf, Cx.nox, Cx.wish]
  show Ex K M0 _ _ [some _, none, none, none, none] C
  have tk : ∀ {ρ : En} {m : Int} {te : TE}, ρ[0]? = some (some (pRef g)) → Ec K te ρ C (pD K (.int m)) C → 0 < m → m ≤ 1000000000000 → Ec K (tCall (sp__law_take K) [] E0 (tCons (tVar 0) (tCons te tNil))) ρ C (pI fun i => 0 ≤ i ∧ i < m) C := fun h hm h0 h1 => ec_take (ec_var h) hm hp h0 h1
  refine ex_sif0E (C1 := C) (f := fun _ => True) (ete_test ((ec_cmpI (n := fun i => decide (i = 0)) (tk rfl ec_int (by decide) (by decide)) ec_int fun i hi => er_eqI).imp fun M v ⟨b, _, hv⟩ => ⟨b, trivial, hv⟩)) (fun _ => ?_) (fun _ => ?_)
  · exact ex_ret (tk rfl (m := 10 ^ Int.toNat 12) (ec_op ec_int ec_int (er_pow ⟨by decide, by decide, by decide⟩)) (by decide) (by decide)) (hR.imp fun M v ⟨i, hi, hv⟩ => ⟨i, hi.1, hv⟩)
  have zz : ∀ {ρ : En}, Ec K (tC (.int 0)) ρ C (pE K (isZ fun i => 0 ≤ i)) C := Ec.toE ec_int ⟨0, rfl, Int.le_refl _⟩
  refine ex_sasgI (f := fun i => 0 ≤ i) (C1 := C) (Ec.E_I (ec_pick (φ := isZ fun i => 0 ≤ i) (n := 4) (eae_rep zz (eae_rep zz (eae_rep zz (eae_rep (Ec.I_E (tk rfl ec_int (by decide) (by decide)) fun i hi => ⟨i, rfl, hi.1⟩) eae_nil)))) (by decide) (tk rfl ec_int (by decide) (by decide)) (fun i hi => hi)) (fun d h => h)) fun total ht => ?_
  refine ex_sasgI (C1 := C) (tk rfl ec_int (by decide) (by decide)) fun full hf => ?_
  refine ex_sfor (n := 6) (item := fun i => pD K (.int (i : Int))) (G := fun _ => True) (C1 := C) (ei_rng1 (j := 6) (ea_cons ec_int ea_nil) (by decide) (by decide))
    (fun i ρ' C' => ∃ t : Int, 0 ≤ t ∧ ρ' = [some (pRef g), some (pD K (.int t)), some (pD K (.int full)), none, none] ∧ C = C') (by walk_at "le") (Sub.refl _) ⟨total, ht, rfl, rfl⟩ (fun _ _ _ _ _ => trivial) ?_ ?_
  · rintro M1 s1 i ρ' C' hi ⟨t, ht, rfl, rfl⟩
    refine ⟨_, _, eg_name, ?_⟩
    refine ex_sasgI (f := fun i => 0 ≤ i) (C1 := C) (Ec.E_I (ec_pick (φ := isZ fun i => 0 ≤ i) (n := 2) (eae_rep (Ec.I_E (ec_opI (n := fun i => 1 + i) ec_int (tk rfl ec_int (by decide) (by decide)) fun i _ => er_add) ?_) (eae_rep (Ec.I_E (ec_opII (n := fun i j => i * j) (tk rfl ec_int (by decide) (by decide)) (tk rfl ec_int (by decide) (by decide)) fun i j h1 h2 => er_mul (.inl ⟨by omega, by omega⟩)) ?_) eae_nil)) (by decide) (ec_intBE ((ec_op (ec_var rfl) (ec_var rfl) er_ge).toB (f := fun _ => True) trivial)) (fun i hi => by rcases hi with rfl | rfl <;> decide)) (fun d h => h)) fun fg hfg => ?_
    · rintro m ⟨i, hi, rfl⟩
      exact ⟨_, rfl, by omega⟩
    · rintro m ⟨i, j, hi, hj, rfl⟩
      exact ⟨_, rfl, Int.mul_nonneg hi.1 hj.1⟩
    refine ex_asgI (f := fun i => 0 ≤ i) (C1 := C) (Ec.mapI (ec_opI (n := fun i => t * 37 + i) (ec_op (ec_var rfl) ec_int (er_mul (.inr ⟨by decide, by decide⟩))) (ec_opI (n := fun i => fg * i) (ec_var rfl) (ec_intBE (ec_orVE ((ec_op (ec_var rfl) (ec_var rfl) er_lt).toB (f := fun _ => True) trivial) (ec_cmpI (n := fun i => decide (i = 0)) (tk rfl ec_int (by decide) (by decide)) ec_int fun i hi => er_eqI))) fun i hi => er_mul (.inr (by rcases hi with rfl | rfl <;> decide))) fun i _ => er_add) ?_) fun t' ht' => nx_Iw (by walk_at "le") (Sub.refl _) ⟨t', ht', rfl, rfl⟩
    rintro m ⟨i, ⟨j, hj, rfl⟩, rfl⟩
    rcases hj with rfl | rfl <;> omega
  · rintro ρ' C' ⟨t, ht, rfl, rfl⟩
    exact ex_ret (ec_var rfl) (hR.ofI ht)

/-! ### _law_right -/
def sp__law_right (K : PySem.W.Frag) : Sp := spF (γ := Int) K (fun w => [pD K (.int w)]) (fun w _ => 0 ≤ w) (fun w => pD K (.bool true)) (fun _ C => C)

theorem ok__law_right {f : Addr} {fd : FuncData} (D : Def K mg "_law_right" s__law_right ["_law_word"] f fd) (T : Txt K mg) {f_code_of : Addr} {fd_code_of : FuncData} (c_code_of : Cal P w K mg base CX0 "code_of" 1 ["piece"] (sp_code_of K) f_code_of fd_code_of) {f_piece_of : Addr} {fd_piece_of : FuncData} (c_piece_of : Cal P w K mg base CX0 "piece_of" 1 ["word"] (sp_piece_of K) f_piece_of fd_piece_of) {f__law_alike : Addr} {fd__law_alike : FuncData} (c__law_alike : Cal P w K mg base CX0 "_law_alike" 5 ["_law_told", "_law_due"] (sp__law_alike K) f__law_alike fd__law_alike) {f__law_piece : Addr} {fd__law_piece : FuncData} (c__law_piece : Cal P w K mg base CX0 "_law_piece" 2 ["_law_word"] (sp__law_piece K) f__law_piece fd__law_piece) : Cal P w K mg base CX0 "_law_right" 6 ["_law_word"] (sp__law_right K) f fd := by
  refine ⟨okF D.F sc__law_right (fun _ => rfl) (fun cdv Ar outer s H E hr => ⟨_, (pss_cons (ps_set (i := 1) sc__law_right.nd rfl (by first | exact .inl rfl | exact .inr rfl) (pe_call c__law_piece.G (hr.mono (by omega)) (by rfl) c__law_piece.g c__law_piece.kp c__law_piece.b .nil pass0 (pa_cons (pv 0) pa_nil)))
  (pss_one (ps_ret (pe_and (pe_call c__law_alike.G (hr.mono (by omega)) (by rfl) c__law_alike.g c__law_alike.kp c__law_alike.b .nil pass0 (pa_cons (pe_call c_piece_of.G (hr.mono (by omega)) (by rfl) c_piece_of.g c_piece_of.kp c_piece_of.b .nil pass0 (pa_cons (pv 0) pa_nil)) (pa_cons (pv 1) pa_nil))) (pe_one (pe_or (pe_cmpR op_isN (pv 1) pe_non (nomark _)) (pe_one (pe_call c__law_alike.G (hr.mono (by omega)) (by rfl) c__law_alike.g c__law_alike.kp c__law_alike.b .nil pass0 (pa_cons (pe_call c_code_of.G (hr.mono (by omega)) (by rfl) c_code_of.g c_code_of.kp c_code_of.b .nil pass0 (pa_cons (pv 1) pa_nil)) (pa_cons (pv 0) pa_nil)))))))))), fun g C M0 R hp hR => ?_⟩), D.g, D.F.kp, D.b⟩
  try dsimp only [cxOf, Cx.nox, Cx.wish]
  show Ex K M0 _ _ [some _, none] C
  refine ex_sasg (C1 := C) (ec_call (ps := []) g (ea_cons (ec_var rfl) ea_nil) hp) ?_
  have hp : 0 ≤ g := hp
  cases e : pieceOf g with
  | none =>
    have e2 : pD K (dOpt none) = pD K .none := rfl
    refine ex_ret (C1 := C) (p := pD K (.bool true)) (Ec.conv (ec_andV (a := true) (b := true || true) (C1 := C) (ec_call (ps := []) (pD K .none, pD K .none, .none) (ea_cons (Ec.conv (ec_call (ps := []) g (ea_cons (ec_var rfl) ea_nil) hp) (by rw [e]; rfl)) (ea_cons (ec_var rfl) ea_nil)) ⟨dat_D, dat_D, by exact trivial⟩) (fun _ => ec_orV (a := true) (b := true) (ec_op (ec_var rfl) ec_non er_isN) (fun h => nomatch h))) rfl) hR
  | some p =>
    obtain ⟨n1, n2, n3, n4⟩ := pieceOf_word hp e
    refine ex_ret (C1 := C) (p := pD K (.bool true)) (Ec.conv (ec_andV (a := true) (b := false || true) (C1 := C) (ec_call (ps := []) (pD K (.str (sL p)), pD K (.str (sL p)), .str (sL p)) (ea_cons (Ec.conv (ec_call (ps := []) g (ea_cons (ec_var rfl) ea_nil) hp) (by rw [e]; rfl)) (ea_cons (ec_var rfl) ea_nil)) ⟨dat_D, dat_D, by exact n1.ok⟩) (fun _ => ec_orV (a := false) (b := true) (ec_op (ec_var rfl) ec_non er_isN) (fun _ => ec_call (ps := []) (pD K (.int g), pD K (.int g), .int g) (ea_cons (Ec.conv (ec_call (ps := []) p (ea_cons (ec_var rfl) ea_nil) ⟨n1, by omega⟩) (by rw [n4])) (ea_cons (ec_var rfl) ea_nil)) ⟨dat_D, dat_D, by exact trivial⟩))) rfl) hR

/-! ### law -/
def sp_law (K : PySem.W.Frag) : Sp := spLaw K

theorem ok_law {f : Addr} {fd : FuncData} (D : Def K mg "law" s_law ["_law_script"] f fd) (T : Txt K mg) {f__law_digits : Addr} {fd__law_digits : FuncData} (c__law_digits : Cal P w K mg base CX0 "_law_digits" 1 ["_law_script", "_law_k"] (sp__law_digits K) f__law_digits fd__law_digits) {f__law_take : Addr} {fd__law_take : FuncData} (c__law_take : Cal P w K mg base CX0 "_law_take" 1 ["_law_held", "_law_many"] (sp__law_take K) f__law_take fd__law_take) {f__law_drawn : Addr} {fd__law_drawn : FuncData} (c__law_drawn : Cal P w K mg base CX0 "_law_drawn" 2 ["_law_held"] (sp__law_drawn K) f__law_drawn fd__law_drawn) {f__law_right : Addr} {fd__law_right : FuncData} (c__law_right : Cal P w K mg base CX0 "_law_right" 6 ["_law_word"] (sp__law_right K) f__law_right fd__law_right) : Cal P w K mg base CX0 "law" 7 ["_law_script"] (sp_law K) f fd := by
  refine ⟨okF D.F sc_law (fun _ => rfl) (fun cdv Ar outer s H E hr => ⟨_, (pss_cons (ps_for PassesOwn.never rfl (pi_range1 (by rfl) T.b_range (pa_cons (pe_callB (call_max2 rfl) (by rfl) T.b_max (by decide +kernel) (pa_cons pe_int (pa_cons (pe_callB (call_min2 rfl) (by rfl) T.b_min (by decide +kernel) (pa_cons (pe_callB call_len_seq (by rfl) T.b_len PySem.boot_len (pa_cons (pv 0) pa_nil)) (pa_cons pe_int pa_nil))) pa_nil))) pa_nil)) (pg_name (i := 1) sc_law.nd rfl (by first | exact .inl rfl | exact .inr rfl))
  (pss_cons (ps_set (i := 2) sc_law.nd rfl (by first | exact .inl rfl | exact .inr rfl) (pe_call c__law_digits.G (hr.mono (by omega)) (by rfl) c__law_digits.g c__law_digits.kp c__law_digits.b .nil pass0 (pa_cons (pv 0) (pa_cons (pv 1) pa_nil))))
  (pss_cons (ps_set (i := 3) sc_law.nd rfl (by first | exact .inl rfl | exact .inr rfl) (pe_call c__law_drawn.G (hr.mono (by omega)) (by rfl) c__law_drawn.g c__law_drawn.kp c__law_drawn.b .nil pass0 (pa_cons (pv 2) pa_nil)))
  (pss_one (ps_for PassesOwn.never rfl (pi_list (pe_lst (pa_cons (pv 3) (pa_cons (pe_op op_add (pv 3) pe_int) (pa_cons (pe_callB (call_max2 rfl) (by rfl) T.b_max (by decide +kernel) (pa_cons (pe_op op_sub (pv 3) pe_int) (pa_cons pe_int pa_nil))) (pa_cons (pe_op op_add (pv 3) (pe_op op_mul pe_int (pe_call c__law_take.G (hr.mono (by omega)) (by rfl) c__law_take.g c__law_take.kp c__law_take.b .nil pass0 (pa_cons (pv 2) (pa_cons pe_int pa_nil))))) (pa_cons (pv 3) pa_nil))))))) (pg_name (i := 4) sc_law.nd rfl (by first | exact .inl rfl | exact .inr rfl))
  (pss_one (ps_if (pt_not (pt_val (pe_call c__law_right.G (hr.mono (by omega)) (by rfl) c__law_right.g c__law_right.kp c__law_right.b .nil pass0 (pa_cons (pe_op op_mod (pv 4) (pe_op op_pow pe_int pe_int)) pa_nil))))
  (pss_one (ps_ret pe_bl)) pss_nil)))))))
  (pss_one (ps_ret pe_bl))), fun g C M0 R hp hR => ?_⟩), D.g, D.F.kp, D.b⟩
  try dsimp only [cxOf, Cx.nox, Cx.wish]
  show Ex K M0 _ _ [some _, none, none, none, none] C
  obtain ⟨hl, hb⟩ := hp
  obtain ⟨hi, ehi, h2, h30⟩ : ∃ hi : Int, hi = (if (if (20 : Int) < ((g.map PyData.int).length : Int) then 20 else ((g.map PyData.int).length : Int)) > 1 then (if (20 : Int) < ((g.map PyData.int).length : Int) then 20 else ((g.map PyData.int).length : Int)) else 1) ∧ 1 ≤ hi ∧ hi ≤ 20 := by
    refine ⟨_, rfl, ?_, ?_⟩ <;> (split <;> (try split) <;> omega)
  refine ex_sfor (n := hi.toNat) (item := fun i => pD K (.int (i : Int))) (G := fun _ => True) (C1 := C) (ei_rng1 ?_ (by omega) (by omega))
    (fun _ ρ' C' => ρ' = [some (pD K (.list (g.map PyData.int))), none, none, none, none] ∧ C = C') (EnvLe.refl _) (Sub.refl _) ⟨rfl, rfl⟩ (fun _ _ _ _ _ => trivial) ?_ ?_
  · rw [ehi]
    walk_at "ev"
  · rintro M1 s1 i ρ' C' hi' ⟨rfl, rfl⟩
    refine ⟨_, _, eg_name, ?_⟩
    refine ex_sasgW (C1 := C) (ew_call (g, i) (by walk_at "ev") (by show i ≤ 1000; omega)) (fun a ha => ?_)
    show Ex K M1 _ _ _ (updC C a purse)
    have hc : updC C a purse a = some purse := updC_same
    refine ex_sasgI (C1 := updC C a purse) (ec_call (ps := []) a (ea_cons (ec_var rfl) ea_nil) hc) fun word hw => ?_
    have zz : ∀ {te : TE} {ρ : En} {C C' : Cs} {i : Int}, Ec K te ρ C (pD K (.int i)) C' → Ec K te ρ C (pE K (isZ fun _ => True)) C' := fun h => h.toE ⟨_, rfl, trivial⟩
    refine ex_forX (C1 := updC C a purse) (eiX_list (φ := AllD (List.replicate 5 (isZ fun _ => True))) (EwE.list (ewe_lst (eae_rep (zz (ec_var rfl)) (eae_rep (zz (ec_op (ec_var rfl) ec_int er_add)) (eae_rep (zz (ec_cb (ea_cons (ec_op (ec_var rfl) ec_int er_sub) (ea_cons ec_int ea_nil)) ek_max2)) (eae_rep (Ec.I_E (ec_opI (n := fun i => word + i) (ec_var rfl) (ec_opI (n := fun i => 37 * i) ec_int (ec_take (ec_var rfl) ec_int hc (by decide) (by decide)) fun i _ => er_mul (.inl ⟨by decide, by decide⟩)) fun i _ => er_add) fun i _ => ⟨i, rfl, trivial⟩) (eae_rep (zz (ec_var rfl)) eae_nil)))))) fun c h => h)) fun ds hds => ?_
    refine for_ob (fun _ ρ' C' => ρ' = [some (pD K (.list (g.map PyData.int))), none, none, none, none] ∧ C = C') (by walk_at "le") (Sub.upd ha) ⟨rfl, rfl⟩ (fun _ _ _ _ _ => trivial) ?_ ?_
    · rintro M2 s2 j ρ2 C2 hj ⟨rfl, rfl⟩
      rw [allD_len hds, List.length_replicate] at hj
      obtain ⟨d, hd, n, rfl, _⟩ := allD_rep hds j hj
      rw [List.getD_eq_getElem?_getD, hd]
      refine ⟨_, _, eg_name, ?_⟩
      exact ex_if (C1 := C) (b := !true) (et_not (et_B (ec_call (ps := []) (n % 10 ^ Int.toNat 12) (ea_cons (ec_op (ec_var rfl) (ec_op ec_int ec_int (er_pow ⟨by decide, by decide, by decide⟩)) (er_mod (by decide))) ea_nil) (Int.emod_nonneg _ (by decide))))) (fun h => nomatch h) (fun _ => ex_next (nx_Iw (by walk_at "le") (Sub.refl _) ⟨rfl, rfl⟩))
    · rintro ρ2 C2 ⟨rfl, rfl⟩
      exact nx_Iw (by walk_at "le") (Sub.refl _) ⟨rfl, rfl⟩
  · rintro ρ' C' ⟨rfl, rfl⟩
    exact ex_ret ec_bl hR

end
theorem all_mk {l : PySem.W.OpenLaw} {w : World} {K : PySem.W.Frag} {h : Heap} {mg : Str → Option Value} {fa : Addr} (X : K.In h) (G : h.Ns mainGlobals mg) (hfa : mg "law" = some (.ref fa))
    {f0 : Addr} {od0 an0 : Option Addr} {sl0 : Array (Option Value)} {oc0 kV0 dc0 pm0 cd0 ct0 : Value}
    {f1 : Addr} {od1 an1 : Option Addr} {sl1 : Array (Option Value)} {oc1 kV1 dc1 pm1 cd1 ct1 : Value}
    {f2 : Addr} {od2 an2 : Option Addr} {sl2 : Array (Option Value)} {oc2 kV2 dc2 pm2 cd2 ct2 : Value}
    {f3 : Addr} {od3 an3 : Option Addr} {sl3 : Array (Option Value)} {oc3 kV3 dc3 pm3 cd3 ct3 : Value}
    {f4 : Addr} {od4 an4 : Option Addr} {sl4 : Array (Option Value)} {oc4 kV4 dc4 pm4 cd4 ct4 : Value}
    {f5 : Addr} {od5 an5 : Option Addr} {sl5 : Array (Option Value)} {oc5 kV5 dc5 pm5 cd5 ct5 : Value}
    {f6 : Addr} {od6 an6 : Option Addr} {sl6 : Array (Option Value)} {oc6 kV6 dc6 pm6 cd6 ct6 : Value}
    {f7 : Addr} {od7 an7 : Option Addr} {sl7 : Array (Option Value)} {oc7 kV7 dc7 pm7 cd7 ct7 : Value}
    {f8 : Addr} {od8 an8 : Option Addr} {sl8 : Array (Option Value)} {oc8 kV8 dc8 pm8 cd8 ct8 : Value}
    {f9 : Addr} {od9 an9 : Option Addr} {sl9 : Array (Option Value)} {oc9 kV9 dc9 pm9 cd9 ct9 : Value}
    {f10 : Addr} {od10 an10 : Option Addr} {sl10 : Array (Option Value)} {oc10 kV10 dc10 pm10 cd10 ct10 : Value}
    {t_SIGNS : Tok}
    {t_PIECE : Tok}
    {t_BASE : Tok}
    (a0 : PySem.W.nsIn K mainGlobals "code_of" = some (some (.ref f0)))
    (l0 : K.lookup f0 = some ⟨oc0, od0, .func (PySem.W.fnOf "code_of" "code_of" (defArgs s_code_of) (defBody s_code_of) (defScope s_code_of) .none kV0 dc0 pm0 an0 cd0 ct0), sl0⟩)
    (e0 : PySem.W.codeIn K cd0 "code_of" = true)
    (k0 : PySem.W.keepIn K (.ref f0) = true)
    (a1 : PySem.W.nsIn K mainGlobals "piece_of" = some (some (.ref f1)))
    (l1 : K.lookup f1 = some ⟨oc1, od1, .func (PySem.W.fnOf "piece_of" "piece_of" (defArgs s_piece_of) (defBody s_piece_of) (defScope s_piece_of) .none kV1 dc1 pm1 an1 cd1 ct1), sl1⟩)
    (e1 : PySem.W.codeIn K cd1 "piece_of" = true)
    (k1 : PySem.W.keepIn K (.ref f1) = true)
    (a2 : PySem.W.nsIn K mainGlobals "_law_digits" = some (some (.ref f2)))
    (l2 : K.lookup f2 = some ⟨oc2, od2, .func (PySem.W.fnOf "_law_digits" "_law_digits" (defArgs s__law_digits) (defBody s__law_digits) (defScope s__law_digits) .none kV2 dc2 pm2 an2 cd2 ct2), sl2⟩)
    (e2 : PySem.W.codeIn K cd2 "_law_digits" = true)
    (k2 : PySem.W.keepIn K (.ref f2) = true)
    (a3 : PySem.W.nsIn K mainGlobals "_law_take" = some (some (.ref f3)))
    (l3 : K.lookup f3 = some ⟨oc3, od3, .func (PySem.W.fnOf "_law_take" "_law_take" (defArgs s__law_take) (defBody s__law_take) (defScope s__law_take) .none kV3 dc3 pm3 an3 cd3 ct3), sl3⟩)
    (e3 : PySem.W.codeIn K cd3 "_law_take" = true)
    (k3 : PySem.W.keepIn K (.ref f3) = true)
    (a4 : PySem.W.nsIn K mainGlobals "_law_whole" = some (some (.ref f4)))
    (l4 : K.lookup f4 = some ⟨oc4, od4, .func (PySem.W.fnOf "_law_whole" "_law_whole" (defArgs s__law_whole) (defBody s__law_whole) (defScope s__law_whole) .none kV4 dc4 pm4 an4 cd4 ct4), sl4⟩)
    (e4 : PySem.W.codeIn K cd4 "_law_whole" = true)
    (k4 : PySem.W.keepIn K (.ref f4) = true)
    (a5 : PySem.W.nsIn K mainGlobals "_law_alike" = some (some (.ref f5)))
    (l5 : K.lookup f5 = some ⟨oc5, od5, .func (PySem.W.fnOf "_law_alike" "_law_alike" (defArgs s__law_alike) (defBody s__law_alike) (defScope s__law_alike) .none kV5 dc5 pm5 an5 cd5 ct5), sl5⟩)
    (e5 : PySem.W.codeIn K cd5 "_law_alike" = true)
    (k5 : PySem.W.keepIn K (.ref f5) = true)
    (a6 : PySem.W.nsIn K mainGlobals "_law_signs" = some (some (.ref f6)))
    (l6 : K.lookup f6 = some ⟨oc6, od6, .func (PySem.W.fnOf "_law_signs" "_law_signs" (defArgs s__law_signs) (defBody s__law_signs) (defScope s__law_signs) .none kV6 dc6 pm6 an6 cd6 ct6), sl6⟩)
    (e6 : PySem.W.codeIn K cd6 "_law_signs" = true)
    (k6 : PySem.W.keepIn K (.ref f6) = true)
    (a7 : PySem.W.nsIn K mainGlobals "_law_piece" = some (some (.ref f7)))
    (l7 : K.lookup f7 = some ⟨oc7, od7, .func (PySem.W.fnOf "_law_piece" "_law_piece" (defArgs s__law_piece) (defBody s__law_piece) (defScope s__law_piece) .none kV7 dc7 pm7 an7 cd7 ct7), sl7⟩)
    (e7 : PySem.W.codeIn K cd7 "_law_piece" = true)
    (k7 : PySem.W.keepIn K (.ref f7) = true)
    (a8 : PySem.W.nsIn K mainGlobals "_law_drawn" = some (some (.ref f8)))
    (l8 : K.lookup f8 = some ⟨oc8, od8, .func (PySem.W.fnOf "_law_drawn" "_law_drawn" (defArgs s__law_drawn) (defBody s__law_drawn) (defScope s__law_drawn) .none kV8 dc8 pm8 an8 cd8 ct8), sl8⟩)
    (e8 : PySem.W.codeIn K cd8 "_law_drawn" = true)
    (k8 : PySem.W.keepIn K (.ref f8) = true)
    (a9 : PySem.W.nsIn K mainGlobals "_law_right" = some (some (.ref f9)))
    (l9 : K.lookup f9 = some ⟨oc9, od9, .func (PySem.W.fnOf "_law_right" "_law_right" (defArgs s__law_right) (defBody s__law_right) (defScope s__law_right) .none kV9 dc9 pm9 an9 cd9 ct9), sl9⟩)
    (e9 : PySem.W.codeIn K cd9 "_law_right" = true)
    (k9 : PySem.W.keepIn K (.ref f9) = true)
    (a10 : PySem.W.nsIn K mainGlobals "law" = some (some (.ref f10)))
    (l10 : K.lookup f10 = some ⟨oc10, od10, .func (PySem.W.fnOf "law" "law" (defArgs s_law) (defBody s_law) (defScope s_law) .none kV10 dc10 pm10 an10 cd10 ct10), sl10⟩)
    (e10 : PySem.W.codeIn K cd10 "law" = true)
    (k10 : PySem.W.keepIn K (.ref f10) = true)
    (z_all : PySem.W.nsIn K mainGlobals "all" = some none)
    (z_bool : PySem.W.nsIn K mainGlobals "bool" = some none)
    (z_divmod : PySem.W.nsIn K mainGlobals "divmod" = some none)
    (z_int : PySem.W.nsIn K mainGlobals "int" = some none)
    (z_isinstance : PySem.W.nsIn K mainGlobals "isinstance" = some none)
    (z_len : PySem.W.nsIn K mainGlobals "len" = some none)
    (z_list : PySem.W.nsIn K mainGlobals "list" = some none)
    (z_max : PySem.W.nsIn K mainGlobals "max" = some none)
    (z_min : PySem.W.nsIn K mainGlobals "min" = some none)
    (z_range : PySem.W.nsIn K mainGlobals "range" = some none)
    (z_str : PySem.W.nsIn K mainGlobals "str" = some none)
    (z_tuple : PySem.W.nsIn K mainGlobals "tuple" = some none)
    (z_zip : PySem.W.nsIn K mainGlobals "zip" = some none)
    (g_SIGNS : PySem.W.nsIn K mainGlobals "SIGNS" = some (some (.str "abcdefghijklmnopqrstuvwxyz0123456789" t_SIGNS)))
    (g_PIECE : PySem.W.nsIn K mainGlobals "PIECE" = some (some (.int 6 t_PIECE)))
    (g_BASE : PySem.W.nsIn K mainGlobals "BASE" = some (some (.int 37 t_BASE))) :
    ∃ fd : FuncData, (∀ (s : Shared) (v : Value), BindsTo s fd ⟨[v], []⟩ [("_law_script", v)]) ∧ ∀ base : Heap, K.In base → base.Ns mainGlobals mg → FnOk l.prog w K mg base CX0 7 fa fd ["_law_script"] (sp_law K) := by
  have e := hfa.symm.trans (PySem.W.mg_of X G a10)
  cases e
  have T : Txt K mg := { b_all := PySem.W.mg_none_of X G z_all, b_bool := PySem.W.mg_none_of X G z_bool, b_divmod := PySem.W.mg_none_of X G z_divmod, b_int := PySem.W.mg_none_of X G z_int, b_isinstance := PySem.W.mg_none_of X G z_isinstance, b_len := PySem.W.mg_none_of X G z_len, b_list := PySem.W.mg_none_of X G z_list, b_max := PySem.W.mg_none_of X G z_max, b_min := PySem.W.mg_none_of X G z_min, b_range := PySem.W.mg_none_of X G z_range, b_str := PySem.W.mg_none_of X G z_str, b_tuple := PySem.W.mg_none_of X G z_tuple, b_zip := PySem.W.mg_none_of X G z_zip, c_SIGNS := ⟨_, PySem.W.mg_of X G g_SIGNS⟩, c_PIECE := ⟨_, PySem.W.mg_of X G g_PIECE⟩, c_BASE := ⟨_, PySem.W.mg_of X G g_BASE⟩ }
  have F0 := fun_mk (st := s_code_of) l0 e0 k0
  have b0 := F0.binds (ps := ["piece"]) fun _ _ _ _ _ _ us hl => match us, hl with | [_], _ => rfl
  have F1 := fun_mk (st := s_piece_of) l1 e1 k1
  have b1 := F1.binds (ps := ["word"]) fun _ _ _ _ _ _ us hl => match us, hl with | [_], _ => rfl
  have F2 := fun_mk (st := s__law_digits) l2 e2 k2
  have b2 := F2.binds (ps := ["_law_script", "_law_k"]) fun _ _ _ _ _ _ us hl => match us, hl with | [_, _], _ => rfl
  have F3 := fun_mk (st := s__law_take) l3 e3 k3
  have b3 := F3.binds (ps := ["_law_held", "_law_many"]) fun _ _ _ _ _ _ us hl => match us, hl with | [_, _], _ => rfl
  have F4 := fun_mk (st := s__law_whole) l4 e4 k4
  have b4 := F4.binds (ps := ["_law_thing"]) fun _ _ _ _ _ _ us hl => match us, hl with | [_], _ => rfl
  have F5 := fun_mk (st := s__law_alike) l5 e5 k5
  have b5 := F5.binds (ps := ["_law_told", "_law_due"]) fun _ _ _ _ _ _ us hl => match us, hl with | [_, _], _ => rfl
  have F6 := fun_mk (st := s__law_signs) l6 e6 k6
  have b6 := F6.binds (ps := []) fun _ _ _ _ _ _ us hl => match us, hl with | [], _ => rfl
  have F7 := fun_mk (st := s__law_piece) l7 e7 k7
  have b7 := F7.binds (ps := ["_law_word"]) fun _ _ _ _ _ _ us hl => match us, hl with | [_], _ => rfl
  have F8 := fun_mk (st := s__law_drawn) l8 e8 k8
  have b8 := F8.binds (ps := ["_law_held"]) fun _ _ _ _ _ _ us hl => match us, hl with | [_], _ => rfl
  have F9 := fun_mk (st := s__law_right) l9 e9 k9
  have b9 := F9.binds (ps := ["_law_word"]) fun _ _ _ _ _ _ us hl => match us, hl with | [_], _ => rfl
  have F10 := fun_mk (st := s_law) l10 e10 k10
  have b10 := F10.binds (ps := ["_law_script"]) fun _ _ _ _ _ _ us hl => match us, hl with | [_], _ => rfl
  refine ⟨PySem.W.fnOf "law" "law" (defArgs s_law) (defBody s_law) (defScope s_law) .none kV10 dc10 pm10 an10 cd10 ct10, fun s v => .of_eq rfl, fun base _ _ => ?_⟩
  have C0 := ok_code_of (P := l.prog) (w := w) (base := base) ⟨F0, PySem.W.mg_of X G a0, b0⟩ T
  have C1 := ok_piece_of (P := l.prog) (w := w) (base := base) ⟨F1, PySem.W.mg_of X G a1, b1⟩ T
  have C2 := ok__law_digits (P := l.prog) (w := w) (base := base) ⟨F2, PySem.W.mg_of X G a2, b2⟩ T
  have C3 := ok__law_take (P := l.prog) (w := w) (base := base) ⟨F3, PySem.W.mg_of X G a3, b3⟩ T
  have C4 := ok__law_whole (P := l.prog) (w := w) (base := base) ⟨F4, PySem.W.mg_of X G a4, b4⟩ T
  have C5 := ok__law_alike (P := l.prog) (w := w) (base := base) ⟨F5, PySem.W.mg_of X G a5, b5⟩ T C4
  have C6 := ok__law_signs (P := l.prog) (w := w) (base := base) ⟨F6, PySem.W.mg_of X G a6, b6⟩ T
  have C7 := ok__law_piece (P := l.prog) (w := w) (base := base) ⟨F7, PySem.W.mg_of X G a7, b7⟩ T C6
  have C8 := ok__law_drawn (P := l.prog) (w := w) (base := base) ⟨F8, PySem.W.mg_of X G a8, b8⟩ T C3
  have C9 := ok__law_right (P := l.prog) (w := w) (base := base) ⟨F9, PySem.W.mg_of X G a9, b9⟩ T C0 C1 C5 C7
  have C10 := ok_law (P := l.prog) (w := w) (base := base) ⟨F10, PySem.W.mg_of X G a10, b10⟩ T C2 C3 C8 C9
  exact C10.G
end Cd
open PySem PySem.W PyProof.Rows
set_option maxHeartbeats 0 in
theorem PySem.Challenge.cw_chaindisk_k22_pieces_of_words_holds : PySem.Challenge.rw_chaindisk_k22_pieces_of_words.Holds := by
  w_on; o_law; k_head; (case hw => w_witness2)
  k_fill
  refine L2.walk_ofB (l := PySem.Challenge.rw_chaindisk_k22_pieces_of_words) (n := 63) (k := 7) (x := "_law_script") (CX := fun _ => L2.CX0) (sp := fun w => Cd.sp_law _) rfl (by decide) rfl ⟨rfl, by decide, by decide⟩ (fun w h Y => PySem.W.kIn_of Y) ?F (fun w H a ns hl hbits _ hS => Fz.law_start hl hbits hS) (fun _ _ _ _ _ h => h)
  case F =>
    intro w mg fa h KX G hmg
    refine' Cd.all_mk KX G hmg ?a0 ?l0 ?e0 ?k0 ?a1 ?l1 ?e1 ?k1 ?a2 ?l2 ?e2 ?k2 ?a3 ?l3 ?e3 ?k3 ?a4 ?l4 ?e4 ?k4 ?a5 ?l5 ?e5 ?k5 ?a6 ?l6 ?e6 ?k6 ?a7 ?l7 ?e7 ?k7 ?a8 ?l8 ?e8 ?k8 ?a9 ?l9 ?e9 ?k9 ?a10 ?l10 ?e10 ?k10 ?z_all ?z_bool ?z_divmod ?z_int ?z_isinstance ?z_len ?z_list ?z_max ?z_min ?z_range ?z_str ?z_tuple ?z_zip ?g_SIGNS ?g_PIECE ?g_BASE
    (case a0 => k_is); (case l0 => k_is); (case e0 => k_is); (case k0 => k_is); (case a1 => k_is); (case l1 => k_is); (case e1 => k_is); (case k1 => k_is); (case a2 => k_is); (case l2 => k_is); (case e2 => k_is); (case k2 => k_is); (case a3 => k_is); (case l3 => k_is); (case e3 => k_is); (case k3 => k_is); (case a4 => k_is); (case l4 => k_is); (case e4 => k_is); (case k4 => k_is); (case a5 => k_is); (case l5 => k_is); (case e5 => k_is); (case k5 => k_is); (case a6 => k_is); (case l6 => k_is); (case e6 => k_is); (case k6 => k_is); (case a7 => k_is); (case l7 => k_is); (case e7 => k_is); (case k7 => k_is); (case a8 => k_is); (case l8 => k_is); (case e8 => k_is); (case k8 => k_is); (case a9 => k_is); (case l9 => k_is); (case e9 => k_is); (case k9 => k_is); (case a10 => k_is); (case l10 => k_is); (case e10 => k_is); (case k10 => k_is); (case z_all => k_is); (case z_bool => k_is); (case z_divmod => k_is); (case z_int => k_is); (case z_isinstance => k_is); (case z_len => k_is); (case z_list => k_is); (case z_max => k_is); (case z_min => k_is); (case z_range => k_is); (case z_str => k_is); (case z_tuple => k_is); (case z_zip => k_is); (case g_SIGNS => k_is); (case g_PIECE => k_is); (case g_BASE => k_is)
