import PyProof.Rows.All
import Wide.All
import OpenK.AllK
import Wide.FinOn
import HandS.ForMost
import HandS.ForExc
import HandS.Walk
import HandS.EndBits
import HandS.Wide
import HandS.TupAny
import HandS.TupMul
import HandS.IsInst
import HandS.Zip
import HandS.Replace
import HandS.StrMore
import HandS.Conv
import HandS.Finally
import HandS.WordsDict
import HandS.DictComp
import HandS.ListItems
import PySem.Challenge.RW_chaindisk_k09_chains_told
set_option Elab.async false
set_option linter.all false
set_option maxRecDepth 100000
set_option maxHeartbeats 2000000
/-! Fz: a layer of our own over HandS: a frozen heap M, cells C that may change, environments of predicates. -/
namespace Fz
open PySem PySem.Spec PyProof.Rows L2

/-! ### data in the frozen heap -/
mutual
theorem dp_mono {K : PySem.W.Frag} {M M' : Hp} (e : Same M M') : ∀ {v : V} {d : PyData}, Dp K M v d → Dp K M' v d
  | _, _, .non => .non
  | _, _, .bl b => .bl b
  | _, _, .int i => .int i
  | _, _, .str x => .str x
  | _, _, .lst h a => .lst (e.seq h) (dpAll_mono e a)
  | _, _, .tup h a => .tup (by
      rcases h with (h | ⟨o, h⟩) | h
      · exact .inl (.inl (e _ _ h))
      · exact .inl (.inr ⟨o, e _ _ h⟩)
      · exact .inr h) (dpAll_mono e a)
theorem dpAll_mono {K : PySem.W.Frag} {M M' : Hp} (e : Same M M') : ∀ {vs : List V} {ds : List PyData}, DpAll K M vs ds → DpAll K M' vs ds
  | _, _, .nil => .nil
  | _, _, .cons h t => .cons (dp_mono e h) (dpAll_mono e t)
end
theorem sqT_mono {K : PySem.W.Frag} {M M' : Hp} (e : Same M M') {a : Addr} {xs : List V} (h : SqT K M a xs) : SqT K M' a xs := by
  rcases h with (h | ⟨o, h⟩) | h
  · exact .inl (.inl (e _ _ h))
  · exact .inl (.inr ⟨o, e _ _ h⟩)
  · exact .inr h

/-- a predicate of a value that stays when the frozen heap grows -/
structure Pd where
  p : Hp → V → Prop
  mono : ∀ {M M' : Hp} {v : V}, Same M M' → p M v → p M' v
/-- a datum -/
def pD (K : PySem.W.Frag) (d : PyData) : Pd := ⟨fun M v => Dp K M v d, fun e h => dp_mono e h⟩
/-- this very value -/
def pV (x : V) : Pd := ⟨fun _ v => v = x, fun _ h => h⟩
abbrev pRef (a : Addr) : Pd := pV (.ref a)
def pAny : Pd := ⟨fun _ _ => True, fun _ h => h⟩
/-- a frozen dict of data -/
def DicOk (K : PySem.W.Frag) (M : Hp) : List (Key × PyData) → List (Key × V) → Prop
  | [], [] => True
  | (k, d) :: r, (k', v) :: s => k' = k ∧ Dp K M v d ∧ DicOk K M r s
  | _, _ => False
theorem dicOk_mono {K : PySem.W.Frag} {M M' : Hp} (e : Same M M') : ∀ {kds : List (Key × PyData)} {kvs : List (Key × V)}, DicOk K M kds kvs → DicOk K M' kds kvs
  | [], [], _ => trivial
  | (_, _) :: _, (_, _) :: _, ⟨h1, h2, h3⟩ => ⟨h1, dp_mono e h2, dicOk_mono e h3⟩
def pDicP (K : PySem.W.Frag) (kds : List (Key × PyData)) (M : Hp) (v : V) : Prop := ∃ (a : Addr) (kvs : List (Key × V)), v = .ref a ∧ M a = some (.dK kvs) ∧ DicOk K M kds kvs
def pDic (K : PySem.W.Frag) (kds : List (Key × PyData)) : Pd := ⟨pDicP K kds, fun e ⟨a, kvs, h1, h2, h3⟩ => ⟨a, kvs, h1, e _ _ h2, dicOk_mono e h3⟩⟩

/-! ### cells -/
inductive Cell where
  | lst (ds : List PyData)
  | dic (kds : List (Key × PyData))
  | ins (C dx : Addr) (fs : List (Str × Pd))
  | own (x : Addr)
  | lstP (ps : List Pd)
  | dicP (kps : List (Key × Pd))
abbrev Cs := Addr → Option Cell
def updC (C : Cs) (a : Addr) (c : Cell) : Cs := fun b => if b = a then some c else C b
theorem updC_same {C : Cs} {a : Addr} {c : Cell} : updC C a c a = some c := by unfold updC; rw [if_pos rfl]
theorem updC_ne {C : Cs} {a b : Addr} {c : Cell} (h : b ≠ a) : updC C a c b = C b := by unfold updC; rw [if_neg h]
theorem updC_updC {C : Cs} {a : Addr} {c c' : Cell} : updC (updC C a c) a c' = updC C a c' := by
  funext b; unfold updC; split <;> rfl
theorem updC_comm {C : Cs} {a b : Addr} {c c' : Cell} (h : a ≠ b) : updC (updC C a c) b c' = updC (updC C b c') a c := by
  funext x; unfold updC
  by_cases h1 : x = a
  · subst h1; rw [if_neg h, if_pos rfl, if_pos rfl]
  · by_cases h2 : x = b
    · subst h2; rw [if_pos rfl, if_neg h1, if_pos rfl]
    · simp only [if_neg h1, if_neg h2]
theorem updC_self {C : Cs} {a : Addr} {c : Cell} (h : C a = some c) : updC C a c = C := by
  funext b; unfold updC; split
  · rename_i e; rw [e, h]
  · rfl
theorem neC_of_none {C : Cs} {a b : Addr} {c : Cell} (h : C a = some c) (h' : C b = none) : a ≠ b := by
  intro e; subst e; rw [h] at h'; cases h'
def AllP (M : Hp) : List Pd → List V → Prop
  | [], [] => True
  | p :: ps, v :: vs => p.p M v ∧ AllP M ps vs
  | _, _ => False
theorem allP_mono {M M' : Hp} (e : Same M M') : ∀ {ps : List Pd} {vs : List V}, AllP M ps vs → AllP M' ps vs
  | [], [], _ => trivial
  | p :: _, _ :: _, ⟨h, t⟩ => ⟨p.mono e h, allP_mono e t⟩
def CellOk (K : PySem.W.Frag) (M : Hp) : Cell → HO → Prop
  | .lst ds, .lst xs => DpAll K M xs ds
  | .dic kds, .dK kvs => DicOk K M kds kvs
  | .ins C dx fs, .ins C' dx' gs => C' = C ∧ dx' = dx ∧ gs.map (·.1) = fs.map (·.1) ∧ AllP M (fs.map (·.2)) (gs.map (·.2))
  | .own x, .own y => y = x
  | .lstP ps, .lst xs => AllP M ps xs
  | .dicP kps, .dK kvs => kvs.map (·.1) = kps.map (·.1) ∧ AllP M (kps.map (·.2)) (kvs.map (·.2))
  | _, _ => False
theorem cellOk_mono {K : PySem.W.Frag} {M M' : Hp} (e : Same M M') {c : Cell} {o : HO} (h : CellOk K M c o) : CellOk K M' c o := by
  cases c <;> cases o <;> first
    | exact False.elim h
    | exact dpAll_mono e h
    | exact dicOk_mono e h
    | exact ⟨h.1, h.2.1, h.2.2.1, allP_mono e h.2.2.2⟩
    | exact ⟨h.1, allP_mono e h.2⟩
    | exact allP_mono e h
    | exact h
/-- the state: M frozen, C cells, both in H, apart -/
structure Ok (K : PySem.W.Frag) (M : Hp) (C : Cs) (H : Hp) : Prop where
  fz : Same M H
  cs : ∀ a c, C a = some c → M a = none ∧ ∃ o, H a = some o ∧ CellOk K M c o
section
variable {K : PySem.W.Frag} {M M' H H' : Hp} {C C' : Cs} {a p : Addr} {c : Cell} {o : HO}
theorem Ok.free (k : Ok K M C H) (h : H p = none) : M p = none ∧ C p = none := by
  refine ⟨k.fz.free h, ?_⟩
  cases e : C p with
  | none => rfl
  | some c =>
    obtain ⟨_, o, h2, _⟩ := k.cs p c e
    rw [h] at h2; cases h2
/-- a new frozen thing -/
theorem Ok.new (k : Ok K M C H) (h : H p = none) : Same M (upd M p o) ∧ Ok K (upd M p o) C (upd H p o) := by
  have hM := (k.free h).1
  have s : Same M (upd M p o) := fun b u e => by rw [upd_ne (ne_of_none e hM)]; exact e
  refine ⟨s, fun b u e => ?_, fun a c e => ?_⟩
  · by_cases hb : b = p
    · subst hb; rw [upd_same] at e ⊢; exact e
    · rw [upd_ne hb] at e ⊢; exact k.fz _ _ e
  · obtain ⟨h1, u, h2, h3⟩ := k.cs a c e
    have na : a ≠ p := fun z => by subst z; rw [h] at h2; cases h2
    exact ⟨by rw [upd_ne na]; exact h1, u, by rw [upd_ne na]; exact h2, cellOk_mono s h3⟩
/-- a new cell -/
theorem Ok.cell (k : Ok K M C H) (h : H p = none) (ho : CellOk K M c o) : C p = none ∧ Ok K M (updC C p c) (upd H p o) := by
  obtain ⟨hM, hC⟩ := k.free h
  refine ⟨hC, fun b u e => ?_, fun a d e => ?_⟩
  · rw [upd_ne (ne_of_none e hM)]; exact k.fz _ _ e
  · by_cases ha : a = p
    · subst ha; rw [updC_same] at e; cases e
      exact ⟨hM, o, upd_same, ho⟩
    · rw [updC_ne ha] at e
      obtain ⟨h1, u, h2, h3⟩ := k.cs a d e
      exact ⟨h1, u, by rw [upd_ne ha]; exact h2, h3⟩
/-- a cell turned -/
theorem Ok.set {c' : Cell} (k : Ok K M C H) (h : C a = some c) (ho : CellOk K M c' o) : Ok K M (updC C a c') (upd H a o) := by
  obtain ⟨hM, _⟩ := k.cs a c h
  refine ⟨fun b u e => ?_, fun b d e => ?_⟩
  · rw [upd_ne (ne_of_none e hM)]; exact k.fz _ _ e
  · by_cases hb : b = a
    · subst hb; rw [updC_same] at e; cases e
      exact ⟨hM, o, upd_same, ho⟩
    · rw [updC_ne hb] at e
      obtain ⟨h1, u, h2, h3⟩ := k.cs b d e
      exact ⟨h1, u, by rw [upd_ne hb]; exact h2, h3⟩
/-- fewer cells -/
theorem Ok.less (k : Ok K M C H) (h : ∀ a c, C' a = some c → C a = some c) : Ok K M C' H := ⟨k.fz, fun a c e => k.cs a c (h a c e)⟩
/-- a cell frozen -/
theorem Ok.freeze (k : Ok K M (updC C a c) H) (h : C a = none) : ∃ o, H a = some o ∧ CellOk K M c o ∧ Same M (upd M a o) ∧ Ok K (upd M a o) C H := by
  obtain ⟨hM, o, h1, h2⟩ := k.cs a c updC_same
  have s : Same M (upd M a o) := fun b u e => by rw [upd_ne (ne_of_none e hM)]; exact e
  refine ⟨o, h1, h2, s, fun b u e => ?_, fun b d e => ?_⟩
  · by_cases hb : b = a
    · subst hb; rw [upd_same] at e; cases e; exact h1
    · rw [upd_ne hb] at e; exact k.fz _ _ e
  · have hb : b ≠ a := neC_of_none e h
    obtain ⟨q1, u, q2, q3⟩ := k.cs b d (by rw [updC_ne hb]; exact e)
    exact ⟨by rw [upd_ne hb]; exact q1, u, q2, cellOk_mono s q3⟩
end

/-! ### environments -/
abbrev En := List (Option Pd)
def EnvOk (M : Hp) : En → L2.St → Prop
  | [], [] => True
  | none :: ρ, _ :: σ => EnvOk M ρ σ
  | some p :: ρ, some v :: σ => p.p M v ∧ EnvOk M ρ σ
  | _, _ => False
theorem EnvOk.mono {M M' : Hp} (e : Same M M') : ∀ {ρ : En} {σ : L2.St}, EnvOk M ρ σ → EnvOk M' ρ σ
  | [], [], _ => trivial
  | none :: ρ, _ :: σ, h => EnvOk.mono (ρ := ρ) (σ := σ) e h
  | some p :: ρ, some _ :: σ, ⟨h, t⟩ => ⟨p.mono e h, EnvOk.mono (ρ := ρ) (σ := σ) e t⟩
theorem EnvOk.get {M : Hp} {p : Pd} : ∀ {ρ : En} {σ : L2.St} {i : Nat}, EnvOk M ρ σ → ρ[i]? = some (some p) → ∃ v, σ[i]? = some (some v) ∧ p.p M v
  | [], _, _, _, e => by simp at e
  | none :: _, _ :: _, 0, h, e => by simp at e
  | none :: ρ, _ :: σ, i + 1, h, e => EnvOk.get (ρ := ρ) (σ := σ) (i := i) h e
  | some q :: _, some v :: _, 0, ⟨h, _⟩, e => by
    have e' : q = p := by simpa using e
    subst e'; exact ⟨v, rfl, h⟩
  | some _ :: ρ, some _ :: σ, i + 1, ⟨_, t⟩, e => EnvOk.get (ρ := ρ) (σ := σ) (i := i) t e
  | some _ :: _, none :: _, _, h, _ => False.elim h
theorem EnvOk.set {M : Hp} {p : Pd} {v : V} (hv : p.p M v) : ∀ {ρ : En} {σ : L2.St} (i : Nat), EnvOk M ρ σ → EnvOk M (ρ.set i (some p)) (σ.set i (some v))
  | [], [], _, _ => trivial
  | none :: ρ, _ :: σ, 0, h => ⟨hv, h⟩
  | some _ :: ρ, some _ :: σ, 0, ⟨_, t⟩ => ⟨hv, t⟩
  | none :: ρ, _ :: σ, i + 1, h => EnvOk.set (ρ := ρ) (σ := σ) hv i h
  | some _ :: ρ, some _ :: σ, i + 1, ⟨h, t⟩ => ⟨h, EnvOk.set (ρ := ρ) (σ := σ) hv i t⟩
theorem EnvOk.wipe1 {M : Hp} : ∀ {ρ : En} {σ : L2.St} (i : Nat) (x : Option V), EnvOk M ρ σ → EnvOk M (ρ.set i none) (σ.set i x)
  | [], [], _, _, _ => trivial
  | none :: ρ, _ :: σ, 0, _, h => h
  | some _ :: ρ, some _ :: σ, 0, _, ⟨_, t⟩ => t
  | none :: ρ, _ :: σ, i + 1, x, h => EnvOk.wipe1 (ρ := ρ) (σ := σ) i x h
  | some _ :: ρ, some _ :: σ, i + 1, x, ⟨h, t⟩ => ⟨h, EnvOk.wipe1 (ρ := ρ) (σ := σ) i x t⟩
/-- forget what a slot holds -/
theorem EnvOk.forget {M : Hp} : ∀ {ρ : En} {σ : L2.St} (i : Nat), EnvOk M ρ σ → EnvOk M (ρ.set i none) σ
  | [], [], _, _ => trivial
  | none :: ρ, _ :: σ, 0, h => h
  | some _ :: ρ, some _ :: σ, 0, ⟨_, t⟩ => t
  | none :: ρ, _ :: σ, i + 1, h => EnvOk.forget (ρ := ρ) (σ := σ) i h
  | some _ :: ρ, some _ :: σ, i + 1, ⟨h, t⟩ => ⟨h, EnvOk.forget (ρ := ρ) (σ := σ) i t⟩
def wipeR (ρ : En) : List Nat → En
  | [] => ρ
  | v :: vs => (wipeR ρ vs).set v none
theorem EnvOk.wipe {M : Hp} {ρ : En} {σ : L2.St} (h : EnvOk M ρ σ) : ∀ vs : List Nat, EnvOk M (wipeR ρ vs) (wipe σ vs)
  | [] => h
  | v :: vs => (EnvOk.wipe h vs).wipe1 v none
theorem EnvOk.start {M : Hp} : ∀ {ps : List Pd} {vs : List V} (n : Nat), AllP M ps vs → EnvOk M (ps.map some ++ List.replicate n none) (vs.map some ++ List.replicate n none)
  | [], [], n, _ => by
    show EnvOk M (List.replicate n none) (List.replicate n none)
    induction n with
    | zero => trivial
    | succ n ih => exact ih
  | _ :: _, _ :: _, n, ⟨h, t⟩ => ⟨h, EnvOk.start n t⟩

/-! ### fewer facts -/
def EnvLe (ρ ρ' : En) : Prop := ∀ (M : Hp) (σ : L2.St), EnvOk M ρ σ → EnvOk M ρ' σ
theorem EnvLe.refl (ρ : En) : EnvLe ρ ρ := fun _ _ h => h
theorem EnvLe.trans {ρ ρ1 ρ2 : En} (a : EnvLe ρ ρ1) (b : EnvLe ρ1 ρ2) : EnvLe ρ ρ2 := fun M σ h => b M σ (a M σ h)
theorem EnvLe.nil : EnvLe [] [] := fun _ _ h => h
theorem EnvLe.same {x : Option Pd} {ρ ρ' : En} (h : EnvLe ρ ρ') : EnvLe (x :: ρ) (x :: ρ') := fun M σ e => by
  match x, σ, e with
  | none, _ :: σ, e => exact h M σ e
  | some p, some v :: σ, ⟨a, e⟩ => exact ⟨a, h M σ e⟩
theorem EnvLe.drop {x : Option Pd} {ρ ρ' : En} (h : EnvLe ρ ρ') : EnvLe (x :: ρ) (none :: ρ') := fun M σ e => by
  match x, σ, e with
  | none, _ :: σ, e => exact h M σ e
  | some p, some v :: σ, ⟨a, e⟩ => exact h M σ e
theorem EnvLe.imp {p q : Pd} {ρ ρ' : En} (hp : ∀ M v, p.p M v → q.p M v) (h : EnvLe ρ ρ') : EnvLe (some p :: ρ) (some q :: ρ') := fun M σ e => by
  match σ, e with
  | some v :: σ, ⟨a, e⟩ => exact ⟨hp M v a, h M σ e⟩
def Sub (C' C : Cs) : Prop := ∀ a c, C' a = some c → C a = some c
theorem Sub.refl (C : Cs) : Sub C C := fun _ _ h => h
theorem Sub.trans {C1 C2 C3 : Cs} (h : Sub C1 C2) (h' : Sub C2 C3) : Sub C1 C3 := fun a c e => h' a c (h a c e)
theorem Sub.upd {C : Cs} {a : Addr} {c : Cell} (h : C a = none) : Sub C (updC C a c) := fun b d e => by rw [updC_ne (neC_of_none e h)]; exact e
theorem Sub.updU {C C' : Cs} {a : Addr} {c : Cell} (h : C a = none) (s : Sub C C') : Sub C (updC C' a c) := fun b d e => by rw [updC_ne (neC_of_none e h)]; exact s b d e
theorem Sub.both {C C' : Cs} {a : Addr} {c : Cell} (s : Sub C C') : Sub (updC C a c) (updC C' a c) := fun b d e => by
  by_cases hb : b = a
  · subst hb; rw [updC_same] at e ⊢; exact e
  · rw [updC_ne hb] at e ⊢; exact s b d e
/-! ### judgements -/
def Ec (K : PySem.W.Frag) (t : TE) (ρ : En) (C : Cs) (p : Pd) (C' : Cs) : Prop := ∀ (σ : L2.St) (H M : Hp) (Q : VK), EnvOk M ρ σ → Ok K M C H → (∀ v H' M', Same M M' → Ok K M' C' H' → p.p M' v → Q v H') → t σ H Q
/-- a new cell comes -/
def Ew (K : PySem.W.Frag) (t : TE) (ρ : En) (C : Cs) (c : Cell) (C' : Cs) : Prop := ∀ (σ : L2.St) (H M : Hp) (Q : VK), EnvOk M ρ σ → Ok K M C H → (∀ a H' M', Same M M' → C' a = none → Ok K M' (updC C' a c) H' → Q (.ref a) H') → t σ H Q
def Et (K : PySem.W.Frag) (t : TT) (ρ : En) (C : Cs) (b : Bool) (C' : Cs) : Prop := ∀ (σ : L2.St) (H M : Hp) (Q : Bool → Hp → Prop), EnvOk M ρ σ → Ok K M C H → (∀ H' M', Same M M' → Ok K M' C' H' → Q b H') → t σ H Q
def Ea (K : PySem.W.Frag) (t : TA) (ρ : En) (C : Cs) (ps : List Pd) (C' : Cs) : Prop := ∀ (σ : L2.St) (H M : Hp) (Q : List V → Hp → Prop), EnvOk M ρ σ → Ok K M C H → (∀ vs H' M', Same M M' → Ok K M' C' H' → AllP M' ps vs → Q vs H') → t σ H Q
def Eo (K : PySem.W.Frag) (t : TO) (ρ : En) (C : Cs) (o : Option Int) (C' : Cs) : Prop := ∀ (σ : L2.St) (H M : Hp) (Q : Option Int → Hp → Prop), EnvOk M ρ σ → Ok K M C H → (∀ H' M', Same M M' → Ok K M' C' H' → Q o H') → t σ H Q
/-- a rule of two values -/
def Er (K : PySem.W.Frag) (r : R2) (C : Cs) (p q s : Pd) (C' : Cs) : Prop := ∀ (x y : V) (H M : Hp) (Q : VK), Ok K M C H → p.p M x → q.p M y → (∀ v H' M', Same M M' → Ok K M' C' H' → s.p M' v → Q v H') → r x y H Q
def ErW (K : PySem.W.Frag) (r : R2) (C : Cs) (p q : Pd) (c : Cell) (C' : Cs) : Prop := ∀ (x y : V) (H M : Hp) (Q : VK), Ok K M C H → p.p M x → q.p M y → (∀ a H' M', Same M M' → C' a = none → Ok K M' (updC C' a c) H' → Q (.ref a) H') → r x y H Q
/-- a rule of a list of values (a call of a built-in, a promise) -/
def Ek (K : PySem.W.Frag) (r : List V → Hp → VK → Prop) (C : Cs) (ps : List Pd) (s : Pd) (C' : Cs) : Prop := ∀ (xs : List V) (H M : Hp) (Q : VK), Ok K M C H → AllP M ps xs → (∀ v H' M', Same M M' → Ok K M' C' H' → s.p M' v → Q v H') → r xs H Q
def EkW (K : PySem.W.Frag) (r : List V → Hp → VK → Prop) (C : Cs) (ps : List Pd) (c : Cell) (C' : Cs) : Prop := ∀ (xs : List V) (H M : Hp) (Q : VK), Ok K M C H → AllP M ps xs → (∀ a H' M', Same M M' → C' a = none → Ok K M' (updC C' a c) H' → Q (.ref a) H') → r xs H Q
/-- a target takes a value -/
def Eg (K : PySem.W.Frag) (g : TG) (ρ : En) (C : Cs) (p : Pd) (ρ' : En) (C' : Cs) : Prop := ∀ (v : V) (σ : L2.St) (H M : Hp) (Q : L2.St → Hp → Prop), EnvOk M ρ σ → Ok K M C H → p.p M v → (∀ σ' H' M', Same M M' → EnvOk M' ρ' σ' → Ok K M' C' H' → Q σ' H') → g v σ H Q

section
variable {K : PySem.W.Frag} {t ta tb te : TE} {ρ ρ' : En} {C C1 C2 C3 C' : Cs} {p q s : Pd} {ps : List Pd} {c : Cell}
theorem ec_var {i : Nat} (h : ρ[i]? = some (some p)) : Ec K (tVar i) ρ C p C := fun σ H M Q e k q => by
  obtain ⟨v, h1, h2⟩ := e.get h
  exact ⟨v, h1, q v H M (Same.refl M) k h2⟩
theorem ec_int {i : Int} : Ec K (tC (.int i)) ρ C (pD K (.int i)) C := fun σ H M Q e k q => q _ H M (Same.refl M) k (Dp.int i)
theorem ec_str {x : Str} : Ec K (tC (.str x)) ρ C (pD K (.str x)) C := fun σ H M Q e k q => q _ H M (Same.refl M) k (Dp.str x)
theorem ec_bl {b : Bool} : Ec K (tC (.bl b)) ρ C (pD K (.bool b)) C := fun σ H M Q e k q => q _ H M (Same.refl M) k (Dp.bl b)
theorem ec_non : Ec K (tC .non) ρ C (pD K .none) C := fun σ H M Q e k q => q _ H M (Same.refl M) k Dp.non
theorem ec_val {v : V} : Ec K (tC v) ρ C (pV v) C := fun σ H M Q e k q => q _ H M (Same.refl M) k rfl
/-- a constant of the module -/
theorem ec_const {v : V} {d : PyData} (h : ∀ M, Dp K M v d) : Ec K (tC v) ρ C (pD K d) C := fun σ H M Q e k q => q _ H M (Same.refl M) k (h M)
theorem ec_op {r : R2} (ha : Ec K ta ρ C p C1) (hb : Ec K tb ρ C1 q C2) (hr : Er K r C2 p q s C3) : Ec K (tOp r ta tb) ρ C s C3 := fun σ H M Q e k z =>
  ha σ H M _ e k fun x H1 M1 e1 k1 h1 => hb σ H1 M1 _ (e.mono e1) k1 fun y H2 M2 e2 k2 h2 => hr x y H2 M2 Q k2 (p.mono e2 h1) h2 fun v H3 M3 e3 k3 h3 => z v H3 M3 ((e1.trans e2).trans e3) k3 h3
theorem ew_op {r : R2} (ha : Ec K ta ρ C p C1) (hb : Ec K tb ρ C1 q C2) (hr : ErW K r C2 p q c C3) : Ew K (tOp r ta tb) ρ C c C3 := fun σ H M Q e k z =>
  ha σ H M _ e k fun x H1 M1 e1 k1 h1 => hb σ H1 M1 _ (e.mono e1) k1 fun y H2 M2 e2 k2 h2 => hr x y H2 M2 Q k2 (p.mono e2 h1) h2 fun v H3 M3 e3 k3 h3 => z v H3 M3 ((e1.trans e2).trans e3) k3 h3
theorem Ec.conv {p' : Pd} (h : Ec K t ρ C p C') (e : p = p') : Ec K t ρ C p' C' := e ▸ h
theorem Ec.conv' {C'' : Cs} (h : Ec K t ρ C p C') (e : C' = C'') : Ec K t ρ C p C'' := e ▸ h
theorem Ec.imp {p' : Pd} (h : Ec K t ρ C p C') (e : ∀ M v, p.p M v → p'.p M v) : Ec K t ρ C p' C' := fun σ H M Q e0 k z => h σ H M Q e0 k fun v H' M' s k' hv => z v H' M' s k' (e _ _ hv)
theorem Ew.conv {c' : Cell} (h : Ew K t ρ C c C') (e : c = c') : Ew K t ρ C c' C' := e ▸ h
theorem Et.conv {t : TT} {b b' : Bool} (h : Et K t ρ C b C') (e : b = b') : Et K t ρ C b' C' := e ▸ h
theorem Ea.conv {t : TA} {ps' : List Pd} (h : Ea K t ρ C ps C') (e : ps = ps') : Ea K t ρ C ps' C' := e ▸ h
/-- the new cell is frozen -/
theorem Ew.list {ds : List PyData} (h : Ew K t ρ C (.lst ds) C') : Ec K t ρ C (pD K (.list ds)) C' := fun σ H M Q e k z => h σ H M Q e k fun a H' M' s n k' => by
  obtain ⟨o, h1, h2, h3, h4⟩ := k'.freeze n
  cases o <;> first | exact False.elim h2 | skip
  rename_i xs
  exact z (.ref a) H' _ (s.trans h3) h4 (Dp.lst (.inl (.inl upd_same)) (dpAll_mono h3 h2))
theorem Ew.dict {kds : List (Key × PyData)} (h : Ew K t ρ C (.dic kds) C') : Ec K t ρ C (pDic K kds) C' := fun σ H M Q e k z => h σ H M Q e k fun a H' M' s n k' => by
  obtain ⟨o, h1, h2, h3, h4⟩ := k'.freeze n
  cases o <;> first | exact False.elim h2 | skip
  rename_i kvs
  exact z (.ref a) H' _ (s.trans h3) h4 ⟨a, kvs, rfl, upd_same, dicOk_mono h3 h2⟩
/-! arguments -/
theorem ea_nil : Ea K tNil ρ C [] C := fun σ H M Q e k z => z [] H M (Same.refl M) k trivial
theorem ea_cons {tr : TA} (ha : Ec K ta ρ C p C1) (hr : Ea K tr ρ C1 ps C2) : Ea K (tCons ta tr) ρ C (p :: ps) C2 := fun σ H M Q e k z =>
  ha σ H M _ e k fun x H1 M1 e1 k1 h1 => hr σ H1 M1 _ (e.mono e1) k1 fun xs H2 M2 e2 k2 h2 => z _ H2 M2 (e1.trans e2) k2 ⟨p.mono e2 h1, h2⟩
theorem allP_data {M : Hp} : ∀ {ds : List PyData} {vs : List V}, AllP M (ds.map (pD K)) vs → DpAll K M vs ds
  | [], [], _ => .nil
  | _ :: _, _ :: _, ⟨h, t⟩ => .cons h (allP_data t)
theorem data_allP {M : Hp} : ∀ {ds : List PyData} {vs : List V}, DpAll K M vs ds → AllP M (ds.map (pD K)) vs
  | _, _, .nil => trivial
  | _, _, .cons h t => ⟨h, data_allP t⟩
theorem dpAll_len {M : Hp} : ∀ {vs : List V} {ds : List PyData}, DpAll K M vs ds → vs.length = ds.length
  | _, _, .nil => rfl
  | _, _, .cons _ t => by rw [List.length_cons, List.length_cons, dpAll_len t]
theorem allP_len {M : Hp} : ∀ {ps : List Pd} {vs : List V}, AllP M ps vs → vs.length = ps.length
  | [], [], _ => rfl
  | _ :: _, _ :: _, ⟨_, t⟩ => by rw [List.length_cons, List.length_cons, allP_len t]
theorem dpAll_get {M : Hp} : ∀ {vs : List V} {ds : List PyData} {i : Nat} {d : PyData}, DpAll K M vs ds → ds[i]? = some d → ∃ v, vs[i]? = some v ∧ Dp K M v d
  | _, _, i, _, .nil, e => by simp at e
  | _, _, 0, _, .cons h _, e => by simp at e; subst e; exact ⟨_, rfl, h⟩
  | _, _, i + 1, d, .cons _ t, e => dpAll_get (i := i) t e
theorem dpAll_getV {M : Hp} : ∀ {vs : List V} {ds : List PyData} {i : Nat} {v : V}, DpAll K M vs ds → vs[i]? = some v → ∃ d, ds[i]? = some d ∧ Dp K M v d
  | _, _, i, _, .nil, e => by simp at e
  | _, _, 0, _, .cons h _, e => by simp at e; subst e; exact ⟨_, rfl, h⟩
  | _, _, i + 1, d, .cons _ t, e => dpAll_getV (i := i) t e
theorem dpAll_append {M : Hp} : ∀ {vs ws : List V} {ds es : List PyData}, DpAll K M vs ds → DpAll K M ws es → DpAll K M (vs ++ ws) (ds ++ es)
  | _, _, _, _, .nil, h => h
  | _, _, _, _, .cons a t, h => .cons a (dpAll_append t h)
theorem dpAll_take {M : Hp} : ∀ {vs : List V} {ds : List PyData} (n : Nat), DpAll K M vs ds → DpAll K M (vs.take n) (ds.take n)
  | _, _, 0, _ => by rw [List.take_zero, List.take_zero]; exact .nil
  | _, _, _ + 1, .nil => .nil
  | _, _, n + 1, .cons a t => .cons a (dpAll_take n t)
theorem dpAll_drop {M : Hp} : ∀ {vs : List V} {ds : List PyData} (n : Nat), DpAll K M vs ds → DpAll K M (vs.drop n) (ds.drop n)
  | _, _, 0, h => h
  | _, _, _ + 1, .nil => .nil
  | _, _, n + 1, .cons _ t => dpAll_drop n t
theorem dpAll_set {M : Hp} {v : V} {d : PyData} (hv : Dp K M v d) : ∀ {vs : List V} {ds : List PyData} (n : Nat), DpAll K M vs ds → DpAll K M (vs.set n v) (ds.set n d)
  | _, _, _, .nil => .nil
  | _, _, 0, .cons _ t => .cons hv t
  | _, _, n + 1, .cons a t => .cons a (dpAll_set hv n t)
theorem dpAll_reverse {M : Hp} : ∀ {vs : List V} {ds : List PyData}, DpAll K M vs ds → DpAll K M vs.reverse ds.reverse
  | _, _, .nil => .nil
  | _, _, .cons a t => by rw [List.reverse_cons, List.reverse_cons]; exact dpAll_append (dpAll_reverse t) (.cons a .nil)
theorem dpAll_replicate {M : Hp} {v : V} {d : PyData} (h : Dp K M v d) : ∀ n : Nat, DpAll K M (List.replicate n v) (List.replicate n d)
  | 0 => .nil
  | n + 1 => .cons h (dpAll_replicate h n)
theorem dpAll_flatrep {M : Hp} {vs : List V} {ds : List PyData} (h : DpAll K M vs ds) : ∀ n : Nat, DpAll K M (List.replicate n vs).flatten (List.replicate n ds).flatten
  | 0 => .nil
  | n + 1 => by
    rw [List.replicate_succ, List.replicate_succ, List.flatten_cons, List.flatten_cons]
    exact dpAll_append h (dpAll_flatrep h n)
theorem dpAll_ints {M : Hp} : ∀ {vs : List V} {ns : List Int}, DpAll K M vs (ns.map PyData.int) → vs = ns.map V.int
  | [], [], _ => rfl
  | _, [], .nil => rfl
  | _, n :: ns, .cons (.int _) t => by rw [List.map_cons, dpAll_ints t]
theorem ints_dpAll {M : Hp} : ∀ (ns : List Int), DpAll K M (ns.map V.int) (ns.map PyData.int)
  | [] => .nil
  | n :: ns => .cons (.int n) (ints_dpAll ns)
theorem dpAll_strs {M : Hp} : ∀ {vs : List V} {ns : List Str}, DpAll K M vs (ns.map PyData.str) → vs = ns.map V.str
  | _, [], .nil => rfl
  | _, n :: ns, .cons (.str _) t => by rw [List.map_cons, dpAll_strs t]
theorem strs_dpAll {M : Hp} : ∀ (ns : List Str), DpAll K M (ns.map V.str) (ns.map PyData.str)
  | [] => .nil
  | n :: ns => .cons (.str n) (strs_dpAll ns)
theorem dpAll_bools {M : Hp} : ∀ {vs : List V} {ns : List Bool}, DpAll K M vs (ns.map PyData.bool) → vs = ns.map V.bl
  | _, [], .nil => rfl
  | _, n :: ns, .cons (.bl _) t => by rw [List.map_cons, dpAll_bools t]
/-! displays -/
theorem ec_tup {ta : TA} {ds : List PyData} (h : Ea K ta ρ C (ds.map (pD K)) C') (hl : ds.length ≤ sizeLine := by exact Nat.le_of_ble_eq_true rfl) : Ec K (tTup ta) ρ C (pD K (.tuple ds)) C' := fun σ H M Q e k z =>
  h σ H M _ e k fun vs H1 M1 e1 k1 h1 => ⟨by rw [dpAll_len (allP_data h1)]; exact hl, fun a ha => by
    obtain ⟨s, k2⟩ := k1.new (o := .tup vs) ha
    exact z _ _ _ (e1.trans s) k2 (Dp.tup (.inl (.inl upd_same)) (dpAll_mono s (allP_data h1)))⟩
theorem ew_lst {ta : TA} {ds : List PyData} (h : Ea K ta ρ C (ds.map (pD K)) C') (hl : ds.length ≤ sizeLine := by exact Nat.le_of_ble_eq_true rfl) : Ew K (tLst ta) ρ C (.lst ds) C' := fun σ H M Q e k z =>
  h σ H M _ e k fun vs H1 M1 e1 k1 h1 => ⟨by rw [dpAll_len (allP_data h1)]; exact hl, fun a ha => by
    obtain ⟨s, k2⟩ := k1.cell (c := .lst ds) (o := .lst vs) ha (allP_data h1)
    exact z _ _ _ e1 s k2⟩
theorem ec_lst {ta : TA} {ds : List PyData} (h : Ea K ta ρ C (ds.map (pD K)) C') (hl : ds.length ≤ sizeLine := by exact Nat.le_of_ble_eq_true rfl) : Ec K (tLst ta) ρ C (pD K (.list ds)) C' := (ew_lst h hl).list
/-! rules -/
theorem ec_cb {r : List V → Hp → VK → Prop} {ta : TA} (h : Ea K ta ρ C ps C1) (hr : Ek K r C1 ps s C2) : Ec K (tCB r ta) ρ C s C2 := fun σ H M Q e k z =>
  h σ H M _ e k fun xs H1 M1 e1 k1 h1 => hr xs H1 M1 Q k1 h1 fun v H2 M2 e2 k2 h2 => z v H2 M2 (e1.trans e2) k2 h2
theorem ew_cb {r : List V → Hp → VK → Prop} {ta : TA} (h : Ea K ta ρ C ps C1) (hr : EkW K r C1 ps c C2) : Ew K (tCB r ta) ρ C c C2 := fun σ H M Q e k z =>
  h σ H M _ e k fun xs H1 M1 e1 k1 h1 => hr xs H1 M1 Q k1 h1 fun v H2 M2 e2 n2 k2 => z v H2 M2 (e1.trans e2) n2 k2
theorem ec_un {r : V → Hp → VK → Prop} (h : Ec K ta ρ C p C1) (hr : ∀ (x : V) (H M : Hp) (Q : VK), Ok K M C1 H → p.p M x → (∀ v H' M', Same M M' → Ok K M' C2 H' → s.p M' v → Q v H') → r x H Q) : Ec K (tUn r ta) ρ C s C2 := fun σ H M Q e k z =>
  h σ H M _ e k fun x H1 M1 e1 k1 h1 => hr x H1 M1 Q k1 h1 fun v H2 M2 e2 k2 h2 => z v H2 M2 (e1.trans e2) k2 h2
/-- a rule that leaves the heap and gives a scalar -/
theorem er_scal {r : R2} {x0 y0 z0 : V} {d e f : PyData} (hd : ∀ M v, Dp K M v d → v = x0) (he : ∀ M v, Dp K M v e → v = y0) (hf : ∀ M, Dp K M z0 f) (h : ∀ H Q, Q z0 H → r x0 y0 H Q) : Er K r C (pD K d) (pD K e) (pD K f) C := fun x y H M Q k hx hy z => by
  have e1 := hd M x hx; have e2 := he M y hy; subst e1 e2
  exact h H Q (z _ H M (Same.refl M) k (hf M))
theorem d_int {M : Hp} {v : V} {i : Int} (h : Dp K M v (.int i)) : v = .int i := by cases h; rfl
theorem d_str {M : Hp} {v : V} {i : Str} (h : Dp K M v (.str i)) : v = .str i := by cases h; rfl
theorem d_bl {M : Hp} {v : V} {i : Bool} (h : Dp K M v (.bool i)) : v = .bl i := by cases h; rfl
theorem d_non {M : Hp} {v : V} (h : Dp K M v .none) : v = .non := by cases h; rfl
theorem d_tup {M : Hp} {v : V} {ds : List PyData} (h : Dp K M v (.tuple ds)) : ∃ a xs, v = .ref a ∧ SqT K M a xs ∧ DpAll K M xs ds := by cases h with | tup a b => exact ⟨_, _, rfl, a, b⟩
theorem d_lst {M : Hp} {v : V} {ds : List PyData} (h : Dp K M v (.list ds)) : ∃ a xs, v = .ref a ∧ SqL K M a xs ∧ DpAll K M xs ds := by cases h with | lst a b => exact ⟨_, _, rfl, a, b⟩
theorem er_I0i {g : Int → Int → Int} {i j : Int} : Er K (rI0 fun i j => .int (g i j)) C (pD K (.int i)) (pD K (.int j)) (pD K (.int (g i j))) C :=
  er_scal (fun _ _ => d_int) (fun _ _ => d_int) (fun _ => .int _) fun H Q q => ⟨i, j, rfl, rfl, q⟩
theorem er_I0b {g : Int → Int → Bool} {i j : Int} : Er K (rI0 fun i j => .bl (g i j)) C (pD K (.int i)) (pD K (.int j)) (pD K (.bool (g i j))) C :=
  er_scal (fun _ _ => d_int) (fun _ _ => d_int) (fun _ => .bl _) fun H Q q => ⟨i, j, rfl, rfl, q⟩
theorem er_Ii {Cn : Int → Int → Prop} {g : Int → Int → Int} {i j : Int} (hc : Cn i j) : Er K (rI Cn fun i j => .int (g i j)) C (pD K (.int i)) (pD K (.int j)) (pD K (.int (g i j))) C :=
  er_scal (fun _ _ => d_int) (fun _ _ => d_int) (fun _ => .int _) fun H Q q => ⟨i, j, rfl, rfl, hc, q⟩
theorem er_add {i j : Int} : Er K (rI0 fun i j => .int (i + j)) C (pD K (.int i)) (pD K (.int j)) (pD K (.int (i + j))) C := er_I0i
theorem er_sub {i j : Int} : Er K (rI0 fun i j => .int (i - j)) C (pD K (.int i)) (pD K (.int j)) (pD K (.int (i - j))) C := er_I0i
theorem er_lt {i j : Int} : Er K (rI0 fun i j => .bl (decide (i < j))) C (pD K (.int i)) (pD K (.int j)) (pD K (.bool (decide (i < j)))) C := er_I0b
theorem er_le {i j : Int} : Er K (rI0 fun i j => .bl (decide (i ≤ j))) C (pD K (.int i)) (pD K (.int j)) (pD K (.bool (decide (i ≤ j)))) C := er_I0b
theorem er_gt {i j : Int} : Er K (rI0 fun i j => .bl (decide (j < i))) C (pD K (.int i)) (pD K (.int j)) (pD K (.bool (decide (j < i)))) C := er_I0b
theorem er_ge {i j : Int} : Er K (rI0 fun i j => .bl (decide (j ≤ i))) C (pD K (.int i)) (pD K (.int j)) (pD K (.bool (decide (j ≤ i)))) C := er_I0b
theorem er_mul {i j : Int} (hc : CMul i j) : Er K (rI CMul fun i j => .int (i * j)) C (pD K (.int i)) (pD K (.int j)) (pD K (.int (i * j))) C := er_Ii hc
theorem er_mod {i j : Int} (hc : 0 < j) : Er K (rI (fun _ j => 0 < j) fun i j => .int (i % j)) C (pD K (.int i)) (pD K (.int j)) (pD K (.int (i % j))) C := er_Ii (Cn := fun _ j => 0 < j) hc
theorem er_div {i j : Int} (hc : CDiv i j) : Er K (rI CDiv fun i j => .int (i / j)) C (pD K (.int i)) (pD K (.int j)) (pD K (.int (i / j))) C := er_Ii hc
theorem er_divW {i j : Int} (hc : CDivW i j) : Er K (rI CDivW fun i j => .int (i / j)) C (pD K (.int i)) (pD K (.int j)) (pD K (.int (i / j))) C := er_Ii hc
theorem er_pow {i j : Int} (hc : CPow i j) : Er K (rI CPow fun i j => .int (i ^ j.toNat)) C (pD K (.int i)) (pD K (.int j)) (pD K (.int (i ^ j.toNat))) C := er_Ii hc
theorem er_eqI {i j : Int} : Er K rEq C (pD K (.int i)) (pD K (.int j)) (pD K (.bool (decide (i = j)))) C :=
  er_scal (fun _ _ => d_int) (fun _ _ => d_int) (fun _ => .bl _) fun H Q q => ⟨rfl, by
    have : decide (V.int i = V.int j) = decide (i = j) := by simp
    rw [this]; exact q⟩
theorem er_neI {i j : Int} : Er K rNe C (pD K (.int i)) (pD K (.int j)) (pD K (.bool (!decide (i = j)))) C :=
  er_scal (fun _ _ => d_int) (fun _ _ => d_int) (fun _ => .bl _) fun H Q q => ⟨rfl, by
    have : decide (V.int i = V.int j) = decide (i = j) := by simp
    rw [this]; exact q⟩
theorem er_eqS {i j : Str} : Er K rEq C (pD K (.str i)) (pD K (.str j)) (pD K (.bool (decide (i = j)))) C :=
  er_scal (fun _ _ => d_str) (fun _ _ => d_str) (fun _ => .bl _) fun H Q q => ⟨rfl, by
    have : decide (V.str i = V.str j) = decide (i = j) := by simp
    rw [this]; exact q⟩
theorem er_neS {i j : Str} : Er K rNe C (pD K (.str i)) (pD K (.str j)) (pD K (.bool (!decide (i = j)))) C :=
  er_scal (fun _ _ => d_str) (fun _ _ => d_str) (fun _ => .bl _) fun H Q q => ⟨rfl, by
    have : decide (V.str i = V.str j) = decide (i = j) := by simp
    rw [this]; exact q⟩
theorem er_eqB {i j : Bool} : Er K rEq C (pD K (.bool i)) (pD K (.bool j)) (pD K (.bool (decide (i = j)))) C :=
  er_scal (fun _ _ => d_bl) (fun _ _ => d_bl) (fun _ => .bl _) fun H Q q => ⟨rfl, by
    have : decide (V.bl i = V.bl j) = decide (i = j) := by simp
    rw [this]; exact q⟩
theorem er_neB {i j : Bool} : Er K rNe C (pD K (.bool i)) (pD K (.bool j)) (pD K (.bool (!decide (i = j)))) C :=
  er_scal (fun _ _ => d_bl) (fun _ _ => d_bl) (fun _ => .bl _) fun H Q q => ⟨rfl, by
    have : decide (V.bl i = V.bl j) = decide (i = j) := by simp
    rw [this]; exact q⟩
/-! subscripts -/
theorem atI_dp {M : Hp} {vs : List V} {ds : List PyData} {i : Int} {d : PyData} (h : DpAll K M vs ds) (e : atI ds i = some d) : ∃ v, atI vs i = some v ∧ Dp K M v d := by
  unfold atI at e ⊢
  rw [dpAll_len h]
  cases q : ixN ds.length i with
  | none => rw [q] at e; cases e
  | some j =>
    rw [q] at e
    exact dpAll_get h e
theorem atI_mem {ds : List PyData} {i : Int} (h0 : 0 ≤ i) (h1 : i < ds.length) : ∃ d, d ∈ ds ∧ atI ds i = some d := by
  have h2 : i.toNat < ds.length := by omega
  refine ⟨ds[i.toNat], List.getElem_mem h2, ?_⟩
  have e : ((i.toNat : Nat) : Int) = i := by omega
  have q : atI ds ((i.toNat : Nat) : Int) = some ds[i.toNat] := atI_nat (j := i.toNat) (by simp)
  rw [e] at q
  exact q
theorem er_ixT {ds : List PyData} {i : Int} {d : PyData} (e : atI ds i = some d) : Er K (rIxT K) C (pD K (.tuple ds)) (pD K (.int i)) (pD K d) C := fun x y H M Q k hx hy z => by
  obtain ⟨a, xs, rfl, h1, h2⟩ := d_tup hx
  have := d_int hy; subst this
  obtain ⟨v, q1, q2⟩ := atI_dp h2 e
  exact ⟨a, xs, i, v, rfl, rfl, sqT_mono k.fz h1, q1, z v H M (Same.refl M) k q2⟩
theorem er_ixL {ds : List PyData} {i : Int} {d : PyData} (e : atI ds i = some d) : Er K (rIxL K) C (pD K (.list ds)) (pD K (.int i)) (pD K d) C := fun x y H M Q k hx hy z => by
  obtain ⟨a, xs, rfl, h1, h2⟩ := d_lst hx
  have := d_int hy; subst this
  obtain ⟨v, q1, q2⟩ := atI_dp h2 e
  exact ⟨a, xs, i, v, rfl, rfl, k.fz.seq h1, q1, z v H M (Same.refl M) k q2⟩
/-- a cell that is a list of data -/
theorem Ok.lst {M H : Hp} {a : Addr} {ds : List PyData} (k : Ok K M C H) (h : C a = some (.lst ds)) : ∃ xs, H a = some (.lst xs) ∧ DpAll K M xs ds := by
  obtain ⟨_, o, h1, h2⟩ := k.cs a _ h
  cases o <;> first | exact False.elim h2 | exact ⟨_, h1, h2⟩
theorem Ok.dic {M H : Hp} {a : Addr} {kds : List (Key × PyData)} (k : Ok K M C H) (h : C a = some (.dic kds)) : ∃ kvs, H a = some (.dK kvs) ∧ DicOk K M kds kvs := by
  obtain ⟨_, o, h1, h2⟩ := k.cs a _ h
  cases o <;> first | exact False.elim h2 | exact ⟨_, h1, h2⟩
theorem er_ixC {a : Addr} {ds : List PyData} {i : Int} {d : PyData} (h : C a = some (.lst ds)) (e : atI ds i = some d) : Er K (rIxL K) C (pRef a) (pD K (.int i)) (pD K d) C := fun x y H M Q k hx hy z => by
  obtain ⟨xs, h1, h2⟩ := k.lst h
  have := d_int hy; subst this
  have hx' : x = .ref a := hx
  subst hx'
  obtain ⟨v, q1, q2⟩ := atI_dp h2 e
  exact ⟨a, xs, i, v, rfl, rfl, .inl (.inl h1), q1, z v H M (Same.refl M) k q2⟩
/-! tests -/
theorem et_B {t : TE} {b : Bool} (h : Ec K t ρ C (pD K (.bool b)) C') : Et K (tB t) ρ C b C' := fun σ H M Q e k z => h σ H M _ e k fun v H' M' s k' hv => ⟨b, d_bl hv, z H' M' s k'⟩
theorem et_test {t : TE} {b : Bool} (h : Ec K t ρ C (pD K (.bool b)) C') : Et K (tTest t) ρ C b C' := fun σ H M Q e k z => h σ H M _ e k fun v H' M' s k' hv => ⟨b, d_bl hv, z H' M' s k'⟩
theorem et_and {t u : TT} {a b : Bool} (h1 : Et K t ρ C a C1) (h2 : a = true → Et K u ρ C1 b C1) : Et K (tAnd t u) ρ C (a && b) C1 := fun σ H M Q e k z => h1 σ H M _ e k fun H1 M1 s k1 => by
  cases a with
  | true => rw [if_pos rfl]; exact h2 rfl σ H1 M1 Q (e.mono s) k1 fun H2 M2 s2 k2 => z H2 M2 (s.trans s2) k2
  | false => rw [if_neg Bool.false_ne_true]; exact z H1 M1 s k1
theorem et_or {t u : TT} {a b : Bool} (h1 : Et K t ρ C a C1) (h2 : a = false → Et K u ρ C1 b C1) : Et K (tOr t u) ρ C (a || b) C1 := fun σ H M Q e k z => h1 σ H M _ e k fun H1 M1 s k1 => by
  cases a with
  | false => rw [if_neg Bool.false_ne_true]; exact h2 rfl σ H1 M1 Q (e.mono s) k1 fun H2 M2 s2 k2 => z H2 M2 (s.trans s2) k2
  | true => rw [if_pos rfl]; exact z H1 M1 s k1
theorem et_not {t : TT} {a : Bool} (h : Et K t ρ C a C1) : Et K (tNot t) ρ C (!a) C1 := fun σ H M Q e k z => h σ H M _ e k fun H1 M1 s k1 => z H1 M1 s k1
theorem ec_andV {a b : Bool} (h1 : Ec K ta ρ C (pD K (.bool a)) C1) (h2 : a = true → Ec K tb ρ C1 (pD K (.bool b)) C1) : Ec K (tAndV ta tb) ρ C (pD K (.bool (a && b))) C1 := fun σ H M Q e k z => h1 σ H M _ e k fun v H1 M1 s k1 hv => ⟨a, d_bl hv, by
  cases a with
  | true => rw [if_pos rfl]; exact h2 rfl σ H1 M1 Q (e.mono s) k1 fun v2 H2 M2 s2 k2 hv2 => z v2 H2 M2 (s.trans s2) k2 hv2
  | false => rw [if_neg Bool.false_ne_true]; exact z _ H1 M1 s k1 (.bl _)⟩
theorem ec_orV {a b : Bool} (h1 : Ec K ta ρ C (pD K (.bool a)) C1) (h2 : a = false → Ec K tb ρ C1 (pD K (.bool b)) C1) : Ec K (tOrV ta tb) ρ C (pD K (.bool (a || b))) C1 := fun σ H M Q e k z => h1 σ H M _ e k fun v H1 M1 s k1 hv => ⟨a, d_bl hv, by
  cases a with
  | false => rw [if_neg Bool.false_ne_true]; exact h2 rfl σ H1 M1 Q (e.mono s) k1 fun v2 H2 M2 s2 k2 hv2 => z v2 H2 M2 (s.trans s2) k2 hv2
  | true => rw [if_pos rfl]; exact z _ H1 M1 s k1 (.bl _)⟩
theorem ec_notV {a : Bool} (h1 : Ec K ta ρ C (pD K (.bool a)) C1) : Ec K (tNotV ta) ρ C (pD K (.bool (!a))) C1 := fun σ H M Q e k z => h1 σ H M _ e k fun v H1 M1 s k1 hv => ⟨a, d_bl hv, z _ H1 M1 s k1 (.bl _)⟩
theorem ec_ifE {t : TT} {b : Bool} (h : Et K t ρ C b C1) (h1 : b = true → Ec K ta ρ C1 p C2) (h2 : b = false → Ec K tb ρ C1 p C2) : Ec K (tIf t ta tb) ρ C p C2 := fun σ H M Q e k z => h σ H M _ e k fun H1 M1 s k1 => by
  cases b with
  | true => rw [if_pos rfl]; exact h1 rfl σ H1 M1 Q (e.mono s) k1 fun v2 H2 M2 s2 k2 hv2 => z v2 H2 M2 (s.trans s2) k2 hv2
  | false => rw [if_neg Bool.false_ne_true]; exact h2 rfl σ H1 M1 Q (e.mono s) k1 fun v2 H2 M2 s2 k2 hv2 => z v2 H2 M2 (s.trans s2) k2 hv2
end

section
variable {K : PySem.W.Frag} {ta tb tc : TE} {ρ : En} {C C1 C2 : Cs} {p q s : Pd}
/-- a < b < c -/
theorem ec_chain {r r' : R2} {a b : Bool} (ha : Ec K ta ρ C p C1) (hb : Ec K tb ρ C1 q C2) (h1 : Er K r C2 p q (pD K (.bool a)) C2) (hc : Ec K tc ρ C2 s C2) (h2 : Er K r' C2 q s (pD K (.bool b)) C2) : Ec K (tChain r r' ta tb tc) ρ C (pD K (.bool (a && b))) C2 := fun σ H M Q e k z =>
  ha σ H M _ e k fun x H1 M1 e1 k1 hx => hb σ H1 M1 _ (e.mono e1) k1 fun y H2 M2 e2 k2 hy => h1 x y H2 M2 _ k2 (p.mono e2 hx) hy fun v H3 M3 e3 k3 hv => by
    have := d_bl hv; subst this
    refine ⟨a, rfl, ?_⟩
    cases a with
    | true =>
      rw [if_pos rfl]
      refine hc σ H3 M3 _ (((e.mono e1).mono e2).mono e3) k3 fun u H4 M4 e4 k4 hu => h2 y u H4 M4 _ k4 (q.mono e4 (q.mono e3 hy)) hu fun w H5 M5 e5 k5 hw => ?_
      exact z w H5 M5 ((((e1.trans e2).trans e3).trans e4).trans e5) k5 hw
    | false =>
      rw [if_neg Bool.false_ne_true]
      exact z _ H3 M3 ((e1.trans e2).trans e3) k3 (.bl _)
end

/-! ### statements -/
def Ex (K : PySem.W.Frag) (M0 : Hp) (t : TS) (D : Ends) (ρ : En) (C : Cs) : Prop := ∀ (σ : L2.St) (H M : Hp), Same M0 M → EnvOk M ρ σ → Ok K M C H → t D σ H
def Nx (K : PySem.W.Frag) (M0 : Hp) (N : L2.St → Hp → Prop) (ρ : En) (C : Cs) : Prop := ∀ (σ : L2.St) (H M : Hp), Same M0 M → EnvOk M ρ σ → Ok K M C H → N σ H
def Rt (K : PySem.W.Frag) (M0 : Hp) (R : VK) (p : Pd) (C : Cs) : Prop := ∀ (v : V) (H M : Hp), Same M0 M → Ok K M C H → p.p M v → R v H
def RtW (K : PySem.W.Frag) (M0 : Hp) (R : VK) (c : Cell) (C : Cs) : Prop := ∀ (a : Addr) (H M : Hp), Same M0 M → C a = none → Ok K M (updC C a c) H → R (.ref a) H
section
variable {K : PySem.W.Frag} {M0 : Hp} {t u : TS} {te : TE} {D : Ends} {ρ ρ' : En} {C C1 C2 C' : Cs} {p : Pd} {c : Cell}
theorem Nx.of (h : Ex K M0 t D ρ C) : Nx K M0 (t D) ρ C := h
theorem ex_seq (h : Ex K M0 t { D with nx := u D } ρ C) : Ex K M0 (tSeq t u) D ρ C := h
theorem ex_next (h : Nx K M0 D.nx ρ C) : Ex K M0 tNext D ρ C := h
theorem ex_break (h : Nx K M0 D.bk ρ C) : Ex K M0 tBreak D ρ C := h
theorem ex_cont (h : Nx K M0 D.ct ρ C) : Ex K M0 tCont D ρ C := h
/-- fewer facts -/
theorem Ex.weak (h : Ex K M0 t D ρ' C') (he : ∀ M σ, EnvOk M ρ σ → EnvOk M ρ' σ) (hc : ∀ a c, C' a = some c → C a = some c) : Ex K M0 t D ρ C := fun σ H M s e k => h σ H M s (he M σ e) (k.less hc)
theorem Nx.weak {N : L2.St → Hp → Prop} (h : Nx K M0 N ρ' C') (he : ∀ M σ, EnvOk M ρ σ → EnvOk M ρ' σ) (hc : ∀ a c, C' a = some c → C a = some c) : Nx K M0 N ρ C := fun σ H M s e k => h σ H M s (he M σ e) (k.less hc)
theorem eg_name {i : Nat} : Eg K (gName i) ρ C p (ρ.set i (some p)) C := fun v σ H M Q e k hv z => z _ H M (Same.refl M) (e.set hv i) k
theorem ex_asgG {g : TG} (h : Ec K te ρ C p C1) (hg : Eg K g ρ C1 p ρ' C2) (k : Nx K M0 D.nx ρ' C2) : Ex K M0 (tAsg te g) D ρ C := fun σ H M s e o =>
  h σ H M _ e o fun v H1 M1 s1 o1 h1 => hg v σ H1 M1 _ (e.mono s1) o1 h1 fun σ' H2 M2 s2 e2 o2 => k σ' H2 M2 ((s.trans s1).trans s2) e2 o2
theorem ex_asg {i : Nat} (h : Ec K te ρ C p C1) (k : Nx K M0 D.nx (ρ.set i (some p)) C1) : Ex K M0 (tAsg te (gName i)) D ρ C := ex_asgG h eg_name k
theorem ex_asgW {i : Nat} (h : Ew K te ρ C c C1) (k : ∀ a, C1 a = none → Nx K M0 D.nx (ρ.set i (some (pRef a))) (updC C1 a c)) : Ex K M0 (tAsg te (gName i)) D ρ C := fun σ H M s e o =>
  h σ H M _ e o fun a H1 M1 s1 n1 o1 => k a n1 _ H1 M1 (s.trans s1) ((e.mono s1).set (show (pRef a).p M1 (.ref a) from rfl) i) o1
theorem ex_drop (h : Ec K te ρ C p C1) (k : Nx K M0 D.nx ρ C1) : Ex K M0 (tDrop te) D ρ C := fun σ H M s e o =>
  h σ H M _ e o fun v H1 M1 s1 o1 h1 => k σ H1 M1 (s.trans s1) (e.mono s1) o1
theorem ex_ret (h : Ec K te ρ C p C1) (k : Rt K M0 D.rt p C1) : Ex K M0 (tRet te) D ρ C := fun σ H M s e o =>
  h σ H M _ e o fun v H1 M1 s1 o1 h1 => k v H1 M1 (s.trans s1) o1 h1
theorem ex_retW (h : Ew K te ρ C c C1) (k : RtW K M0 D.rt c C1) : Ex K M0 (tRet te) D ρ C := fun σ H M s e o =>
  h σ H M _ e o fun v H1 M1 s1 n1 o1 => k v H1 M1 (s.trans s1) n1 o1
theorem ex_if {tc : TT} {b : Bool} (h : Et K tc ρ C b C1) (h1 : b = true → Ex K M0 t D ρ C1) (h2 : b = false → Ex K M0 u D ρ C1) : Ex K M0 (tIfS tc t u) D ρ C := fun σ H M s e o =>
  h σ H M _ e o fun H1 M1 s1 o1 => by
    cases b with
    | true => rw [if_pos rfl]; exact h1 rfl σ H1 M1 (s.trans s1) (e.mono s1) o1
    | false => rw [if_neg Bool.false_ne_true]; exact h2 rfl σ H1 M1 (s.trans s1) (e.mono s1) o1
theorem ex_aug {i : Nat} {ti : TIp} {q s' : Pd} (hx : ρ[i]? = some (some p)) (h : Ec K te ρ C q C1) (hr : Er K ti C1 p q s' C2) (k : Nx K M0 D.nx (ρ.set i (some s')) C2) : Ex K M0 (tAug i te ti) D ρ C := fun σ H M s e o => by
  obtain ⟨x, h1, h2⟩ := e.get hx
  refine ⟨x, h1, h σ H M _ e o fun y H1 M1 s1 o1 hy => hr x y H1 M1 _ o1 (p.mono s1 h2) hy fun z H2 M2 s2 o2 hz => ?_⟩
  exact k _ H2 M2 ((s.trans s1).trans s2) (((e.mono s1).mono s2).set hz i) o2
/-! loops -/
/-- what is walked: n turns, the i-th item; G holds of the cells while it goes -/
def Ei (K : PySem.W.Frag) (wi : TI) (ρ : En) (C : Cs) (n : Nat) (item : Nat → Pd) (C' : Cs) (G : Cs → Prop) : Prop := ∀ (σ : L2.St) (H M : Hp) (R : It → Hp → Prop), EnvOk M ρ σ → Ok K M C H →
  (∀ J H' M', Same M M' → Ok K M' C' H' →
    (∀ C2 H2 M2, Same M' M2 → Ok K M2 C2 H2 → G C2 → J.stop n H2 ∧ ∀ i, i < n → J.go i H2 ∧ ∀ x H3, J.yld i H2 x H3 → ∃ M3, Same M2 M3 ∧ Ok K M3 C2 H3 ∧ (item i).p M3 x) → R J H') → wi σ H R
/-- the state behind a turn -/
def NI (K : PySem.W.Frag) (M0 : Hp) (I : En → Cs → Prop) : L2.St → Hp → Prop := fun σ H => ∃ ρ C M, I ρ C ∧ Same M0 M ∧ EnvOk M ρ σ ∧ Ok K M C H
theorem nx_I {I : En → Cs → Prop} (h : I ρ C) : Nx K M0 (NI K M0 I) ρ C := fun σ H M s e o => ⟨ρ, C, M, h, s, e, o⟩
theorem Rt.up {M1 : Hp} {R : VK} (s : Same M0 M1) (h : Rt K M0 R p C) : Rt K M1 R p C := fun v H M s1 o hv => h v H M (s.trans s1) o hv
theorem RtW.up {M1 : Hp} {R : VK} (s : Same M0 M1) (h : RtW K M0 R c C) : RtW K M1 R c C := fun v H M s1 n o => h v H M (s.trans s1) n o
theorem Nx.up {M1 : Hp} {N : L2.St → Hp → Prop} (s : Same M0 M1) (h : Nx K M0 N ρ C) : Nx K M1 N ρ C := fun σ H M s1 e o => h σ H M (s.trans s1) e o
theorem Ex.up {M1 : Hp} (s : Same M0 M1) (h : Ex K M0 t D ρ C) : Ex K M1 t D ρ C := fun σ H M s1 e o => h σ H M (s.trans s1) e o
theorem ex_for {wi : TI} {g : TG} {tb : TS} {n : Nat} {item : Nat → Pd} {G : Cs → Prop} (hi : Ei K wi ρ C n item C1 G) (I : Nat → En → Cs → Prop) {ρ0 : En} {C0 : Cs} (he : EnvLe ρ ρ0) (hc : Sub C0 C1) (h0 : I 0 ρ0 C0) (hG : ∀ i ρ C, i ≤ n → I i ρ C → G C)
    (turn : ∀ M1, Same M0 M1 → ∀ i ρ C, i < n → I i ρ C → ∃ ρ2 C2, Eg K g ρ C (item i) ρ2 C2 ∧ Ex K M1 tb { D with nx := NI K M1 (I (i + 1)), ct := NI K M1 (I (i + 1)), bk := D.nx } ρ2 C2)
    (done : ∀ ρ C, I n ρ C → Nx K M0 D.nx ρ C) : Ex K M0 (tFor wi g tb) D ρ C := fun σ H M s e o => by
  refine hi σ H M _ e o fun J H1 M1 s1 o1 hw => ?_
  refine ⟨fun i m σ H => m = n - i ∧ i ≤ n ∧ NI K M1 (I i) σ H, ⟨n, by simp, Nat.zero_le _, ρ0, C0, M1, h0, Same.refl _, he _ _ (e.mono s1), o1.less hc⟩, ?_⟩
  rintro i m σ H ⟨rfl, hin, ρ2, C2, M2, hI, s12, e2, o2⟩
  obtain ⟨w1, w2⟩ := hw C2 H M2 s12 o2 (hG i ρ2 C2 hin hI)
  by_cases hlt : i < n
  · obtain ⟨w3, w4⟩ := w2 i hlt
    refine .inr ⟨w3, NI K M1 (I (i + 1)), fun σ' H' h => ⟨n - (i + 1), by omega, rfl, hlt, h⟩, fun x H' y => ?_⟩
    obtain ⟨M3, s3, o3, hx⟩ := w4 x H' y
    obtain ⟨ρ4, C4, hg, hb⟩ := turn M1 (s.trans s1) i ρ2 C2 hlt hI
    exact hg x σ H' M3 _ (e2.mono s3) o3 hx fun σ' H4 M4 s4 e4 o4 => hb σ' H4 M4 ((s12.trans s3).trans s4) e4 o4
  · have e' : i = n := by omega
    subst e'
    exact .inl ⟨w1, done ρ2 C2 hI σ H M2 ((s.trans s1).trans s12) e2 o2⟩
theorem ex_while {tc : TT} {tb : TS} (I : Nat → En → Cs → Prop) (m : Nat) (h0 : I m ρ C)
    (turn : ∀ m ρ C, I m ρ C → ∃ b C1, Et K tc ρ C b C1 ∧ (b = true → ∃ I' : En → Cs → Prop, (∀ ρ C, I' ρ C → ∃ m', m' < m ∧ I m' ρ C) ∧ Ex K M0 tb { D with nx := NI K M0 I', ct := NI K M0 I', bk := D.nx } ρ C1) ∧ (b = false → Nx K M0 D.nx ρ C1)) : Ex K M0 (tWhile tc tb) D ρ C := fun σ H M s e o => by
  refine ⟨fun m σ H => NI K M0 (I m) σ H, ⟨m, ρ, C, M, h0, s, e, o⟩, ?_⟩
  rintro m σ H ⟨ρ2, C2, M2, hI, s2, e2, o2⟩
  obtain ⟨b, C3, h1, h2, h3⟩ := turn m ρ2 C2 hI
  refine h1 σ H M2 _ e2 o2 fun H3 M3 s3 o3 => ?_
  cases b with
  | true =>
    rw [if_pos rfl]
    obtain ⟨I', h4, h5⟩ := h2 rfl
    refine ⟨NI K M0 I', fun σ' H' ⟨ρ', C', M', q1, q2, q3, q4⟩ => ?_, h5 σ H3 M3 (s2.trans s3) (e2.mono s3) o3⟩
    obtain ⟨m', l, q⟩ := h4 ρ' C' q1
    exact ⟨m', l, ρ', C', M', q, q2, q3, q4⟩
  | false =>
    rw [if_neg Bool.false_ne_true]
    exact h3 rfl σ H3 M3 (s2.trans s3) (e2.mono s3) o3
end

/-! ### promises -/
/-- ghost g: arguments A g, pre of the cells; the answer r g, the cells eff g C -/
def spF {γ : Type} (K : PySem.W.Frag) (A : γ → List Pd) (pre : γ → Cs → Prop) (r : γ → Pd) (eff : γ → Cs → Cs) : Sp := fun vs H Q _ => ∃ (g : γ) (M : Hp) (C : Cs), Ok K M C H ∧ AllP M (A g) vs ∧ pre g C ∧ Rt K M Q (r g) (eff g C)
/-- the answer is a new cell c g -/
def spW {γ : Type} (K : PySem.W.Frag) (A : γ → List Pd) (pre : γ → Cs → Prop) (c : γ → Cell) (eff : γ → Cs → Cs) : Sp := fun vs H Q _ => ∃ (g : γ) (M : Hp) (C : Cs), Ok K M C H ∧ AllP M (A g) vs ∧ pre g C ∧ RtW K M Q (c g) (eff g C)
structure Cal (P : Program) (w : World) (K : PySem.W.Frag) (mg : Str → Option Value) (base : Heap) (CX : CXT) (x : Str) (k : Nat) (ps : List Str) (sp : Sp) (f : Addr) (fd : FuncData) : Prop where
  G : FnOk P w K mg base CX k f fd ps sp
  g : mg x = some (.ref f)
  kp : PySem.W.keepIn K (.ref f) = true
  b : Binds K fd ps []
/-- a def as it stands: its text, its name, its binding -/
structure Def (K : PySem.W.Frag) (mg : Str → Option Value) (x : Str) (st : Stmt) (ps : List Str) (f : Addr) (fd : FuncData) : Prop where
  F : Fun K x x st f fd
  g : mg x = some (.ref f)
  b : Binds K fd ps []
section
variable {P : Program} {w : World} {K : PySem.W.Frag} {mg : Str → Option Value} {base : Heap} {γ : Type} {A : γ → List Pd} {pre : γ → Cs → Prop} {r : γ → Pd} {c : γ → Cell} {eff : γ → Cs → Cs} {ρ : En} {C C1 : Cs} {ta : TA} {E : XK}
theorem ec_call {ps : List Pd} (g : γ) (ha : Ea K ta ρ C (A g) C1) (hp : pre g C1) : Ec K (tCall (spF K A pre r eff) [] E ta) ρ C (r g) (eff g C1) := fun σ H M Q e k z =>
  ha σ H M _ e k fun vs H1 M1 e1 k1 h1 => by
    rw [List.append_nil]
    exact ⟨g, M1, C1, k1, h1, hp, fun v H2 M2 s2 k2 hv => z v H2 M2 (e1.trans s2) k2 hv⟩
theorem ew_call (g : γ) (ha : Ea K ta ρ C (A g) C1) (hp : pre g C1) : Ew K (tCall (spW K A pre c eff) [] E ta) ρ C (c g) (eff g C1) := fun σ H M Q e k z =>
  ha σ H M _ e k fun vs H1 M1 e1 k1 h1 => by
    rw [List.append_nil]
    exact ⟨g, M1, C1, k1, h1, hp, fun v H2 M2 s2 n2 k2 => z v H2 M2 (e1.trans s2) n2 k2⟩
theorem env_start {M : Hp} {N ps : List Str} {pds : List Pd} {vs : List V} (h : AllP M pds vs) (hl : pds.length = ps.length) : EnvOk M (pds.map some ++ List.replicate (N.length - ps.length) none) (L2.start N vs) := by
  unfold L2.start
  rw [allP_len h, hl]
  exact EnvOk.start _ h
theorem okF {x qual : Str} {st : Stmt} {f : Addr} {fd : FuncData} {N ps : List Str} {k : Nat} (F : Fun K x qual st f fd) (S : FnScope N ps (defScope st)) (hl : ∀ g, (A g).length = ps.length)
    (body : ∀ (cdv : Value) (Ar : Around) (outer : List Env) (s : Shared) (H : Hp) (E : XK), Room k (Ar.deeper (envOfC qual (defScope st) s.heap.objs.size f cdv)) →
      ∃ t, PSs (cxOf CX0 P w K mg base N qual (defScope st) f cdv Ar outer s H E).nox (defBody st) t ∧
        ∀ (g : γ) (C : Cs) (M0 : Hp) (R : VK), pre g C → Rt K M0 R (r g) (eff g C) → Ex K M0 t { nx := fun _ H' => R .non H', rt := R } ((A g).map some ++ List.replicate (N.length - ps.length) none) C) :
    FnOk P w K mg base CX0 (k + 1) f fd ps (spF K A pre r eff) := by
  refine F.ok S (fun vs H Q E h => ?_) (fun cdv Ar outer s H vs Q E hr h => ?_)
  · obtain ⟨g, M, C, _, h2, _⟩ := h
    rw [allP_len h2, hl]
  · obtain ⟨g, M, C, h1, h2, h3, h4⟩ := h
    obtain ⟨t, d, q⟩ := body cdv Ar outer s H E hr
    exact ⟨t, d, q g C M Q h3 h4 _ H M (Same.refl M) (env_start h2 (hl g)) h1⟩
theorem okW {x qual : Str} {st : Stmt} {f : Addr} {fd : FuncData} {N ps : List Str} {k : Nat} (F : Fun K x qual st f fd) (S : FnScope N ps (defScope st)) (hl : ∀ g, (A g).length = ps.length)
    (body : ∀ (cdv : Value) (Ar : Around) (outer : List Env) (s : Shared) (H : Hp) (E : XK), Room k (Ar.deeper (envOfC qual (defScope st) s.heap.objs.size f cdv)) →
      ∃ t, PSs (cxOf CX0 P w K mg base N qual (defScope st) f cdv Ar outer s H E).nox (defBody st) t ∧
        ∀ (g : γ) (C : Cs) (M0 : Hp) (R : VK), pre g C → RtW K M0 R (c g) (eff g C) → Ex K M0 t { nx := fun _ H' => R .non H', rt := R } ((A g).map some ++ List.replicate (N.length - ps.length) none) C) :
    FnOk P w K mg base CX0 (k + 1) f fd ps (spW K A pre c eff) := by
  refine F.ok S (fun vs H Q E h => ?_) (fun cdv Ar outer s H vs Q E hr h => ?_)
  · obtain ⟨g, M, C, _, h2, _⟩ := h
    rw [allP_len h2, hl]
  · obtain ⟨g, M, C, h1, h2, h3, h4⟩ := h
    obtain ⟨t, d, q⟩ := body cdv Ar outer s H E hr
    exact ⟨t, d, q g C M Q h3 h4 _ H M (Same.refl M) (env_start h2 (hl g)) h1⟩
end
/-! ### what is walked -/
/-- t * 1 is t -/
theorem tuple_mul1 (l : Addr) (items : Array Value) (n : Nat) (dd : Option Addr) (sl : Array (Option Value)) (u : Tok)  :
    Meets (Builtin.«tuple.__mul__» ⟨[.ref l, .int 1 u], []⟩) (fun _ R s => s.heap.get? l = some { cls := .type "tuple", dict := dd, data := .seq items n, slots := sl } ∧ R (.ok (.ret (Value.ref l))) s) :=
  .of_wp fun prog w A R s h => by
    obtain ⟨hp, g, d, tk, os⟩ := s
    obtain ⟨hl, h⟩ := h
    have f1 := AutoSeq1.idx_int
    wp_walk using wpAny_loadPart' hl
    exact ⟨_, rfl, h⟩
theorem tuple_mul0 (l : Addr) (items : Array Value) (n : Nat) (dd : Option Addr) (sl : Array (Option Value)) (x : Int) (u : Tok) (c0 : (decide (x < -(2 ^ 63)) || decide (x ≥ 2 ^ 63)) = false) (c1 : (items.isEmpty || x == 1) = false) (c2 : (decide (x ≤ 0) || items.isEmpty) = true):
    Meets (Builtin.«tuple.__mul__» ⟨[.ref l, .int x u], []⟩) (fun _ R s => s.heap.get? l = some { cls := .type "tuple", dict := dd, data := .seq items n, slots := sl } ∧
      R (.ok (.ret (Value.ref s.heap.objs.size))) { s with heap := s.heap.push { cls := Value.type "tuple", data := Data.seq #[] }, toks := s.toks }) :=
  .of_wp fun prog w A R s h => by
    obtain ⟨hp, g, d, tk, os⟩ := s
    obtain ⟨hl, h⟩ := h
    have f1 := AutoSeq1.idx_int
    wp_walk using wpAny_loadPart' hl
    repeat (first
      | (refine wpAny_ite_false (decide_eq_false (by rw [c0]; exact Bool.false_ne_true)) ?_; wp_walk using wpAny_loadPart' hl)
      | (refine wpAny_ite_false (decide_eq_false (by rw [c1]; exact Bool.false_ne_true)) ?_; wp_walk using wpAny_loadPart' hl)
      | (rw [if_pos c2]; wp_walk using wpAny_loadPart' hl))
    exact ⟨_, rfl, h⟩
/-- t * k, any k of at most a thousand -/
def rRepA (K : PySem.W.Frag) : R2 := fun x y H Q => ∃ l k xs, x = .ref l ∧ y = .int k ∧ SqT K H l xs ∧ xs ≠ [] ∧ -1000 ≤ k ∧ k ≤ 1000 ∧ xs.length ≤ 1000 ∧ (k = 1 → Q (.ref l) H) ∧ (k ≠ 1 → ∀ p, H p = none → Q (.ref p) (upd H p (.tup (List.replicate k.toNat xs).flatten)))
theorem op_repA {X : Cx} : OpR X (binaryOp .Mult) (rRepA X.K) := by
  intro pins s σ H x y v u Q I rx ry h
  obtain ⟨l, k, xs, rfl, rfl, hT, hne, h1, h2, hz, q1, q⟩ := h
  by_cases hk : 2 ≤ k
  · exact op_repT pins s σ H _ _ v u Q I rx ry ⟨l, k, xs, rfl, rfl, hT, hne, hk, h2, hz, q (by omega)⟩
  cases rx
  obtain ⟨t, rfl⟩ := ry
  obtain ⟨its, r, ⟨⟨cls, dd, data, sl⟩, ho, hc, n, hd⟩, hs⟩ := I.tuple hT
  simp only at hc hd
  subst hc hd
  have hle : its.length = xs.length := r.length.symm
  have hn : its ≠ [] := fun e => hne (by
    rw [e] at hle
    exact List.eq_nil_of_length_eq_zero hle.symm)
  have hi : its.toArray.isEmpty = false := by
    cases its with
    | nil => exact absurd rfl hn
    | cons a b => rfl
  by_cases h11 : k = 1
  · subst h11
    exact wpAny_binaryOp_repeat_ref (T := "tuple") (U := "int") (by decide) ⟨_, ho, rfl⟩ (fun s' => typeIs_int s' 1 t) noFill_tuple_mul F.fills_int_mul F.slot_int_rmul repeat_tuple F.slot_int_index.lookup
      (call_meets F.slot_int_rmul (typeIs_int s 1 t) F.entry_int_rmul (F.args_int_rmul_2 _ _) (int_rmul_tuple 1 t l its.toArray n dd sl)
        ⟨ho, rfl, ⟨_, ho, rfl⟩, call_meets F.slot_tuple_mul ⟨_, ho, rfl⟩ F.entry_tuple_mul (F.args_tuple_mul_2 _ _) (tuple_mul1 l its.toArray n dd sl t) ⟨ho, .ref l, H, I, rfl, q1 rfl⟩⟩)
  · have c0 : (decide (k < -(2 ^ 63)) || decide (k ≥ 2 ^ 63)) = false := by
      rw [decide_eq_false (by omega), decide_eq_false (by omega)] <;> rfl
    have c1 : (its.toArray.isEmpty || k == 1) = false := by
      rw [hi, Bool.false_or]
      exact beq_eq_false_iff_ne.mpr h11
    have c2 : (decide (k ≤ 0) || its.toArray.isEmpty) = true := by
      rw [hi, Bool.or_false]
      exact decide_eq_true (by omega)
    have e0 : k.toNat = 0 := by omega
    have q := q h11
    rw [e0] at q
    refine wpAny_binaryOp_repeat_ref (T := "tuple") (U := "int") (by decide) ⟨_, ho, rfl⟩ (fun s' => typeIs_int s' k t) noFill_tuple_mul F.fills_int_mul F.slot_int_rmul repeat_tuple F.slot_int_index.lookup
      (call_meets F.slot_int_rmul (typeIs_int s k t) F.entry_int_rmul (F.args_int_rmul_2 _ _) (int_rmul_tuple k t l its.toArray n dd sl)
        ⟨ho, rfl, ⟨_, ho, rfl⟩, call_meets F.slot_tuple_mul ⟨_, ho, rfl⟩ F.entry_tuple_mul (F.args_tuple_mul_2 _ _) (tuple_mul0 l its.toArray n dd sl k t c0 c1 c2) ⟨ho, ?_⟩⟩)
    refine ⟨.ref s.heap.objs.size, _, I.laid (t' := s.toks) (o := .tup []) (fun b ob q => Heap.get?_push_of_some _ q) (Nat.le_refl _) ?_, rfl, q _ (I.hok.fresh (Nat.le_refl _))⟩
    exact ⟨Nat.zero_le _, [], .nil, IsTup.new _ _⟩
section
variable {K : PySem.W.Frag} {ρ : En} {C C1 : Cs} {ta : TA} {tl : TE}
theorem ei_rng1 {j : Int} (h : Ea K ta ρ C [pD K (.int j)] C1) (h0 : -(2 ^ 62) ≤ j) (h1 : j < 2 ^ 62) : Ei K (iRng1 ta) ρ C j.toNat (fun i => pD K (.int (i : Int))) C1 (fun _ => True) := fun σ H M R e k z =>
  h σ H M _ e k fun vs H1 M1 e1 k1 hv => by
    match vs, hv with
    | [v], ⟨hv, _⟩ =>
      have := d_int hv; subst this
      refine ⟨j, rfl, h0, h1, z _ H1 M1 e1 k1 fun C2 H2 M2 _ k2 _ => ⟨Nat.le_refl _, fun i hi => ⟨hi, fun x H3 y => ?_⟩⟩⟩
      obtain ⟨rfl, rfl⟩ := y
      exact ⟨M2, Same.refl _, k2, by rw [Int.zero_add]; exact Dp.int _⟩
theorem ei_rng2 {lo j : Int} (h : Ea K ta ρ C [pD K (.int lo), pD K (.int j)] C1) (h0 : -(2 ^ 62) ≤ lo) (h1 : lo < 2 ^ 62) (h2 : -(2 ^ 62) ≤ j) (h3 : j < 2 ^ 62) : Ei K (iRng2 ta) ρ C (j - lo).toNat (fun i => pD K (.int (lo + (i : Int)))) C1 (fun _ => True) := fun σ H M R e k z =>
  h σ H M _ e k fun vs H1 M1 e1 k1 hv => by
    match vs, hv with
    | [v, u], ⟨hv, hu, _⟩ =>
      have := d_int hv; subst this
      have := d_int hu; subst this
      refine ⟨lo, j, rfl, ⟨h0, h1, h2, h3⟩, z _ H1 M1 e1 k1 fun C2 H2 M2 _ k2 _ => ⟨Nat.le_refl _, fun i hi => ⟨hi, fun x H3 y => ?_⟩⟩⟩
      obtain ⟨rfl, rfl⟩ := y
      exact ⟨M2, Same.refl _, k2, Dp.int _⟩
theorem ei_list {ds : List PyData} (h : Ec K tl ρ C (pD K (.list ds)) C1) : Ei K (iList K tl) ρ C ds.length (fun i => pD K (ds.getD i .none)) C1 (fun _ => True) := fun σ H M R e k z =>
  h σ H M _ e k fun v H1 M1 e1 k1 hv => by
    obtain ⟨a, xs, rfl, q1, q2⟩ := d_lst hv
    refine ⟨a, rfl, ⟨xs, k1.fz.seq q1⟩, z _ H1 M1 e1 k1 fun C2 H2 M2 s2 k2 _ => ?_⟩
    have q3 : SqL K H2 a xs := k2.fz.seq (s2.seq q1)
    refine ⟨⟨xs, q3, by rw [dpAll_len q2]; exact Nat.le_refl _⟩, fun i hi => ⟨⟨xs, xs[i]'(by rw [dpAll_len q2]; exact hi), q3, List.getElem?_eq_getElem _⟩, fun x H3 y => ?_⟩⟩
    obtain ⟨rfl, y⟩ := y
    obtain ⟨d, e1, e2⟩ := dpAll_getV q2 (y xs q3)
    exact ⟨M2, Same.refl _, k2, by
      show Dp K M2 x (ds.getD i .none)
      rw [List.getD_eq_getElem?_getD, e1]; exact dp_mono s2 e2⟩
theorem ei_tup {ds : List PyData} (h : Ec K tl ρ C (pD K (.tuple ds)) C1) : Ei K (iTup K tl) ρ C ds.length (fun i => pD K (ds.getD i .none)) C1 (fun _ => True) := fun σ H M R e k z =>
  h σ H M _ e k fun v H1 M1 e1 k1 hv => by
    obtain ⟨a, xs, rfl, q1, q2⟩ := d_tup hv
    refine ⟨a, rfl, ⟨xs, sqT_mono k1.fz q1⟩, z _ H1 M1 e1 k1 fun C2 H2 M2 s2 k2 _ => ?_⟩
    have q3 : SqT K H2 a xs := sqT_mono k2.fz (sqT_mono s2 q1)
    refine ⟨⟨xs, q3, by rw [dpAll_len q2]; exact Nat.le_refl _⟩, fun i hi => ⟨⟨xs, xs[i]'(by rw [dpAll_len q2]; exact hi), q3, List.getElem?_eq_getElem _⟩, fun x H3 y => ?_⟩⟩
    obtain ⟨rfl, y⟩ := y
    obtain ⟨d, e1, e2⟩ := dpAll_getV q2 (y xs q3)
    exact ⟨M2, Same.refl _, k2, by
      show Dp K M2 x (ds.getD i .none)
      rw [List.getD_eq_getElem?_getD, e1]; exact dp_mono s2 e2⟩
/-- over a cell -/
theorem ei_cell {a : Addr} {ds : List PyData} (h : Ec K tl ρ C (pRef a) C1) (hc : C1 a = some (.lst ds)) : Ei K (iList K tl) ρ C ds.length (fun i => pD K (ds.getD i .none)) C1 (fun C => C a = some (.lst ds)) := fun σ H M R e k z =>
  h σ H M _ e k fun v H1 M1 e1 k1 hv => by
    have hv' : v = .ref a := hv
    subst hv'
    obtain ⟨xs, q1, _⟩ := k1.lst hc
    refine ⟨a, rfl, ⟨xs, .inl (.inl q1)⟩, z _ H1 M1 e1 k1 fun C2 H2 M2 s2 k2 g2 => ?_⟩
    obtain ⟨xs, q1, q2⟩ := k2.lst g2
    have q3 : SqL K H2 a xs := .inl (.inl q1)
    refine ⟨⟨xs, q3, by rw [dpAll_len q2]; exact Nat.le_refl _⟩, fun i hi => ⟨⟨xs, xs[i]'(by rw [dpAll_len q2]; exact hi), q3, List.getElem?_eq_getElem _⟩, fun x H3 y => ?_⟩⟩
    obtain ⟨rfl, y⟩ := y
    obtain ⟨d, e1, e2⟩ := dpAll_getV q2 (y xs q3)
    exact ⟨M2, Same.refl _, k2, by
      show Dp K M2 x (ds.getD i .none)
      rw [List.getD_eq_getElem?_getD, e1]; exact e2⟩
/-! built-ins -/
theorem ek_abs {i : Int} : Ek K (fun xs H Q => ∃ i, xs = [.int i] ∧ Q (.int (if i < 0 then -i else i)) H) C [pD K (.int i)] (pD K (.int (if i < 0 then -i else i))) C := fun xs H M Q k h z => by
  match xs, h with
  | [v], ⟨h, _⟩ => have := d_int h; subst this; exact ⟨i, rfl, z _ H M (Same.refl _) k (.int _)⟩
theorem ek_max2 {i j : Int} : Ek K (fun xs H Q => ∃ i j, xs = [.int i, .int j] ∧ Q (.int (if j > i then j else i)) H) C [pD K (.int i), pD K (.int j)] (pD K (.int (if j > i then j else i))) C := fun xs H M Q k h z => by
  match xs, h with
  | [v, u], ⟨h, h2, _⟩ => have := d_int h; subst this; have := d_int h2; subst this; exact ⟨i, j, rfl, z _ H M (Same.refl _) k (.int _)⟩
theorem ek_min2 {i j : Int} : Ek K (fun xs H Q => ∃ i j, xs = [.int i, .int j] ∧ Q (.int (if j < i then j else i)) H) C [pD K (.int i), pD K (.int j)] (pD K (.int (if j < i then j else i))) C := fun xs H M Q k h z => by
  match xs, h with
  | [v, u], ⟨h, h2, _⟩ => have := d_int h; subst this; have := d_int h2; subst this; exact ⟨i, j, rfl, z _ H M (Same.refl _) k (.int _)⟩
theorem ek_lenL {ds : List PyData} : Ek K (fun xs H Q => ∃ p ys, xs = [.ref p] ∧ (SqL K H p ys ∨ SqT K H p ys) ∧ Q (.int ys.length) H) C [pD K (.list ds)] (pD K (.int ds.length)) C := fun xs H M Q k h z => by
  match xs, h with
  | [v], ⟨h, _⟩ =>
    obtain ⟨a, ys, rfl, h1, h2⟩ := d_lst h
    exact ⟨a, ys, rfl, .inl (k.fz.seq h1), by rw [dpAll_len h2]; exact z _ H M (Same.refl _) k (.int _)⟩
theorem ek_lenT {ds : List PyData} : Ek K (fun xs H Q => ∃ p ys, xs = [.ref p] ∧ (SqL K H p ys ∨ SqT K H p ys) ∧ Q (.int ys.length) H) C [pD K (.tuple ds)] (pD K (.int ds.length)) C := fun xs H M Q k h z => by
  match xs, h with
  | [v], ⟨h, _⟩ =>
    obtain ⟨a, ys, rfl, h1, h2⟩ := d_tup h
    exact ⟨a, ys, rfl, .inr (sqT_mono k.fz h1), by rw [dpAll_len h2]; exact z _ H M (Same.refl _) k (.int _)⟩
theorem ek_lenC {a : Addr} {ds : List PyData} (hc : C a = some (.lst ds)) : Ek K (fun xs H Q => ∃ p ys, xs = [.ref p] ∧ (SqL K H p ys ∨ SqT K H p ys) ∧ Q (.int ys.length) H) C [pRef a] (pD K (.int ds.length)) C := fun xs H M Q k h z => by
  match xs, h with
  | [v], ⟨h, _⟩ =>
    have h' : v = .ref a := h
    subst h'
    obtain ⟨ys, h1, h2⟩ := k.lst hc
    exact ⟨a, ys, rfl, .inl (.inl (.inl h1)), by rw [dpAll_len h2]; exact z _ H M (Same.refl _) k (.int _)⟩
theorem ek_lenS {x : Str} (hx : x.length ≤ sizeLine) : Ek K (fun xs H Q => ∃ z, xs = [.str z] ∧ z.length ≤ sizeLine ∧ Q (.int z.length) H) C [pD K (.str x)] (pD K (.int x.length)) C := fun xs H M Q k h z => by
  match xs, h with
  | [v], ⟨h, _⟩ => have := d_str h; subst this; exact ⟨x, rfl, hx, z _ H M (Same.refl _) k (.int _)⟩
/-- isinstance(x, int) and the like: the answer by the datum's kind -/
def dTy : PyData → String
  | .none => "NoneType"
  | .bool _ => "bool"
  | .int _ => "int"
  | .str _ => "str"
  | .list _ => "list"
  | .tuple _ => "tuple"
  | .dict _ => "dict"
/-! isinstance -/
theorem ty_of {M H : Hp} (e : Same M H) {v : V} {d : PyData} (h : Dp K M v d) : TyX K H v (.type (dTy d)) := by
  cases h with
  | non => exact .base .non
  | bl b => exact .base (.bl b)
  | int i => exact .base (.int i)
  | str x => exact .base (.str x)
  | lst h _ =>
    rcases h with (h | ⟨o, h⟩) | ⟨o, its, n, h1, h2, _⟩
    · exact .base (.lst (e _ _ h))
    · exact .base (.frz (e _ _ h))
    · exact .kList h1 h2
  | tup h _ =>
    rcases h with (h | ⟨o, h⟩) | ⟨o, its, n, h1, h2, _⟩
    · exact .base (.tup (e _ _ h))
    · exact .fTuple (e _ _ h)
    · exact .kTuple h1 h2
theorem ek_isi {d : PyData} {n : String} {b : Bool} (hb : kitB (dTy d) n = some b) : Ek K (rIsi K) C [pD K d, pV (.ty n)] (pD K (.bool b)) C := fun xs H M Q k h z => by
  match xs, h with
  | [v, u], ⟨h, h2, _⟩ =>
    have h2' : u = .ty n := h2
    subst h2'
    exact ⟨v, .ty n, _, _, b, rfl, .ty n, ty_of k.fz h, kit_ty hb, z _ H M (Same.refl _) k (.bl b)⟩
def isI : PyData → Bool | .int _ => true | .bool _ => true | _ => false
def isB : PyData → Bool | .bool _ => true | _ => false
def isS : PyData → Bool | .str _ => true | _ => false
def isL : PyData → Bool | .list _ => true | _ => false
def isT : PyData → Bool | .tuple _ => true | _ => false
theorem ek_isI {d : PyData} : Ek K (rIsi K) C [pD K d, pV (.ty "int")] (pD K (.bool (isI d))) C := ek_isi (by cases d <;> (dsimp only [dTy, isI, isB, isS, isL, isT]; decide +kernel))
theorem ek_isB {d : PyData} : Ek K (rIsi K) C [pD K d, pV (.ty "bool")] (pD K (.bool (isB d))) C := ek_isi (by cases d <;> (dsimp only [dTy, isI, isB, isS, isL, isT]; decide +kernel))
theorem ek_isS {d : PyData} : Ek K (rIsi K) C [pD K d, pV (.ty "str")] (pD K (.bool (isS d))) C := ek_isi (by cases d <;> (dsimp only [dTy, isI, isB, isS, isL, isT]; decide +kernel))
theorem ek_isL {d : PyData} : Ek K (rIsi K) C [pD K d, pV (.ty "list")] (pD K (.bool (isL d))) C := ek_isi (by cases d <;> (dsimp only [dTy, isI, isB, isS, isL, isT]; decide +kernel))
theorem ek_isT {d : PyData} : Ek K (rIsi K) C [pD K d, pV (.ty "tuple")] (pD K (.bool (isT d))) C := ek_isi (by cases d <;> (dsimp only [dTy, isI, isB, isS, isL, isT]; decide +kernel))
/-! tuples -/
theorem er_catT {ds es : List PyData} (hl : ds.length + es.length ≤ sizeLine) : Er K (rCatA K) C (pD K (.tuple ds)) (pD K (.tuple es)) (pD K (.tuple (ds ++ es))) C := fun x y H M Q k hx hy z => by
  obtain ⟨a, xs, rfl, h1, h2⟩ := d_tup hx
  obtain ⟨b, ys, rfl, g1, g2⟩ := d_tup hy
  refine ⟨a, b, xs, ys, rfl, rfl, sqT_mono k.fz h1, sqT_mono k.fz g1, by rw [dpAll_len h2, dpAll_len g2]; exact hl, fun e => ?_, fun _ e => ?_, fun _ _ p hp => ?_⟩
  · subst e; cases h2; exact z _ H M (Same.refl _) k hy
  · subst e; cases g2; rw [List.append_nil] at z; exact z _ H M (Same.refl _) k hx
  · obtain ⟨s, k2⟩ := k.new (o := .tup (xs ++ ys)) hp
    exact z _ _ _ s k2 (Dp.tup (.inl (.inl upd_same)) (dpAll_mono s (dpAll_append h2 g2)))
theorem er_repT {ds : List PyData} {n : Int} (h0 : ds ≠ []) (h1 : -1000 ≤ n) (h2 : n ≤ 1000) (h3 : ds.length ≤ 1000) : Er K (rRepA K) C (pD K (.tuple ds)) (pD K (.int n)) (pD K (.tuple (List.replicate n.toNat ds).flatten)) C := fun x y H M Q k hx hy z => by
  obtain ⟨a, xs, rfl, q1, q2⟩ := d_tup hx
  have := d_int hy; subst this
  refine ⟨a, n, xs, rfl, rfl, sqT_mono k.fz q1, fun e => ?_, h1, h2, by rw [dpAll_len q2]; exact h3, fun e => ?_, fun _ p hp => ?_⟩
  · subst e; cases q2; exact h0 rfl
  · subst e
    have e2 : (List.replicate (1 : Int).toNat ds).flatten = ds := by simp
    rw [e2] at z
    exact z _ H M (Same.refl _) k hx
  · obtain ⟨s, k2⟩ := k.new (o := .tup (List.replicate n.toNat xs).flatten) hp
    exact z _ _ _ s k2 (Dp.tup (.inl (.inl upd_same)) (dpAll_mono s (dpAll_flatrep q2 _)))
theorem flat_one {α : Type} (n : Nat) (d : α) : (List.replicate n [d]).flatten = List.replicate n d := by
  induction n with
  | zero => rfl
  | succ n ih => rw [List.replicate_succ, List.flatten_cons, ih, List.replicate_succ]; rfl
/-- (d,) * n -/
theorem er_rep1 {d : PyData} {n : Int} (h1 : -1000 ≤ n) (h2 : n ≤ 1000) : Er K (rRepA K) C (pD K (.tuple [d])) (pD K (.int n)) (pD K (.tuple (List.replicate n.toNat d))) C := by
  have h := er_repT (K := K) (C := C) (ds := [d]) (n := n) (by simp) h1 h2 (by simp)
  rw [flat_one] at h
  exact h
/-! slices -/
theorem eo_none : Eo K tNoPart ρ C none C := fun σ H M Q e k z => z H M (Same.refl _) k
theorem eo_some {t : TE} {i : Int} (h : Ec K t ρ C (pD K (.int i)) C1) : Eo K (tPart t) ρ C (some i) C1 := fun σ H M Q e k z => h σ H M _ e k fun v H1 M1 s k1 hv => ⟨i, d_int hv, z H1 M1 s k1⟩
def cutP (ds : List PyData) (lo hi : Option Int) : List PyData := (ds.drop (HT.sIx ds.length 0 lo)).take (HT.sIx ds.length ds.length hi - HT.sIx ds.length 0 lo)
theorem cut_dp {M : Hp} {xs : List V} {ds : List PyData} {lo hi : Option Int} (h : DpAll K M xs ds) : DpAll K M (cutV xs lo hi) (cutP ds lo hi) := by
  unfold cutV cutP
  rw [dpAll_len h]
  exact dpAll_take _ (dpAll_drop _ h)
theorem ec_slT {te : TE} {tl th : TO} {ds : List PyData} {lo hi : Option Int} {C2 C3 : Cs} (h : Ec K te ρ C (pD K (.tuple ds)) C1) (h1 : Eo K tl ρ C1 lo C2) (h2 : Eo K th ρ C2 hi C3) : Ec K (tSl (rSlA K) te tl th) ρ C (pD K (.tuple (cutP ds lo hi))) C3 := fun σ H M Q e k z =>
  h σ H M _ e k fun v H1 M1 e1 k1 hv => h1 σ H1 M1 _ (e.mono e1) k1 fun H2 M2 e2 k2 => h2 σ H2 M2 _ ((e.mono e1).mono e2) k2 fun H3 M3 e3 k3 => by
    obtain ⟨a, xs, rfl, q1, q2⟩ := d_tup (dp_mono e3 (dp_mono e2 hv))
    refine ⟨a, xs, rfl, sqT_mono k3.fz q1, fun w => ?_, fun _ p hp => ?_⟩
    · have c : cutP ds lo hi = ds := by
        unfold cutP
        rw [dpAll_len q2] at w
        rw [w.1, w.2, List.drop_zero, Nat.sub_zero, List.take_length]
      rw [c] at z
      exact z _ H3 M3 ((e1.trans e2).trans e3) k3 (.tup q1 q2)
    · obtain ⟨s, k4⟩ := k3.new (o := .tup (cutV xs lo hi)) hp
      exact z _ _ _ (((e1.trans e2).trans e3).trans s) k4 (Dp.tup (.inl (.inl upd_same)) (dpAll_mono s (cut_dp q2)))
theorem ew_slL {te : TE} {tl th : TO} {ds : List PyData} {lo hi : Option Int} {C2 C3 : Cs} (h : Ec K te ρ C (pD K (.list ds)) C1) (h1 : Eo K tl ρ C1 lo C2) (h2 : Eo K th ρ C2 hi C3) : Ew K (tSl (rSlL K) te tl th) ρ C (.lst (cutP ds lo hi)) C3 := fun σ H M Q e k z =>
  h σ H M _ e k fun v H1 M1 e1 k1 hv => h1 σ H1 M1 _ (e.mono e1) k1 fun H2 M2 e2 k2 => h2 σ H2 M2 _ ((e.mono e1).mono e2) k2 fun H3 M3 e3 k3 => by
    obtain ⟨a, xs, rfl, q1, q2⟩ := d_lst (dp_mono e3 (dp_mono e2 hv))
    refine ⟨a, xs, rfl, k3.fz.seq q1, fun p hp => ?_⟩
    obtain ⟨s, k4⟩ := k3.cell (c := .lst (cutP ds lo hi)) (o := .lst (cutV xs lo hi)) hp (cut_dp q2)
    exact z _ _ _ ((e1.trans e2).trans e3) s k4
theorem ew_slC {te : TE} {tl th : TO} {a : Addr} {ds : List PyData} {lo hi : Option Int} {C2 C3 : Cs} (h : Ec K te ρ C (pRef a) C1) (h1 : Eo K tl ρ C1 lo C2) (h2 : Eo K th ρ C2 hi C3) (hc : C3 a = some (.lst ds)) : Ew K (tSl (rSlL K) te tl th) ρ C (.lst (cutP ds lo hi)) C3 := fun σ H M Q e k z =>
  h σ H M _ e k fun v H1 M1 e1 k1 hv => h1 σ H1 M1 _ (e.mono e1) k1 fun H2 M2 e2 k2 => h2 σ H2 M2 _ ((e.mono e1).mono e2) k2 fun H3 M3 e3 k3 => by
    have hv' : v = .ref a := hv
    subst hv'
    obtain ⟨xs, q1, q2⟩ := k3.lst hc
    refine ⟨a, xs, rfl, .inl (.inl q1), fun p hp => ?_⟩
    obtain ⟨s, k4⟩ := k3.cell (c := .lst (cutP ds lo hi)) (o := .lst (cutV xs lo hi)) hp (cut_dp q2)
    exact z _ _ _ ((e1.trans e2).trans e3) s k4
/-! data as arguments -/
def EaD (K : PySem.W.Frag) (t : TA) (ρ : En) (C : Cs) (ds : List PyData) (C' : Cs) : Prop := Ea K t ρ C (ds.map (pD K)) C'
theorem ead_nil : EaD K tNil ρ C [] C := ea_nil
theorem ead_cons {ta : TE} {tr : TA} {d : PyData} {ds : List PyData} {C2 : Cs} (ha : Ec K ta ρ C (pD K d) C1) (hr : EaD K tr ρ C1 ds C2) : EaD K (tCons ta tr) ρ C (d :: ds) C2 := ea_cons ha hr
theorem EaD.conv {ta : TA} {ds ds' : List PyData} (h : EaD K ta ρ C ds C1) (e : ds = ds') : EaD K ta ρ C ds' C1 := e ▸ h
theorem ec_tupD {ta : TA} {ds : List PyData} (h : EaD K ta ρ C ds C1) (hl : ds.length ≤ sizeLine := by exact Nat.le_of_ble_eq_true rfl) : Ec K (tTup ta) ρ C (pD K (.tuple ds)) C1 := ec_tup h hl
theorem ew_lstD {ta : TA} {ds : List PyData} (h : EaD K ta ρ C ds C1) (hl : ds.length ≤ sizeLine := by exact Nat.le_of_ble_eq_true rfl) : Ew K (tLst ta) ρ C (.lst ds) C1 := ew_lst h hl
theorem ec_lstD {ta : TA} {ds : List PyData} (h : EaD K ta ρ C ds C1) (hl : ds.length ≤ sizeLine := by exact Nat.le_of_ble_eq_true rfl) : Ec K (tLst ta) ρ C (pD K (.list ds)) C1 := ec_lst h hl
/-! stores -/
theorem ex_setL {D : Ends} {M0 : Hp} {te to ti : TE} {a : Addr} {ds : List PyData} {d : PyData} {i : Int} {j : Nat} {C2 C3 : Cs} (h : Ec K te ρ C (pD K d) C1) (ho : Ec K to ρ C1 (pRef a) C2) (hi : Ec K ti ρ C2 (pD K (.int i)) C3) (hc : C3 a = some (.lst ds)) (hj : ixN ds.length i = some j)
    (k : Nx K M0 D.nx ρ (updC C3 a (.lst (ds.set j d)))) : Ex K M0 (tAsg te (gSub to ti rSetL)) D ρ C := fun σ H M s e o =>
  h σ H M _ e o fun v H1 M1 s1 o1 h1 => ho σ H1 M1 _ (e.mono s1) o1 fun x H2 M2 s2 o2 h2 => hi σ H2 M2 _ ((e.mono s1).mono s2) o2 fun y H3 M3 s3 o3 h3 => by
    have hx : x = .ref a := h2
    have hy := d_int h3
    subst hx hy
    obtain ⟨xs, q1, q2⟩ := o3.lst hc
    refine ⟨a, xs, i, j, rfl, rfl, q1, by rw [dpAll_len q2]; exact hj, ?_⟩
    exact k σ _ M3 (((s.trans s1).trans s2).trans s3) (((e.mono s1).mono s2).mono s3) (o3.set hc (dpAll_set (dp_mono s3 (dp_mono s2 h1)) j q2))
end
/-! ### the law -/
def spLaw (K : PySem.W.Frag) : Sp := spF (γ := List Int) K (fun ns => [pD K (.list (ns.map PyData.int))]) (fun ns _ => ns.length ≤ 63 ∧ ∀ z ∈ ns, Builtin.Int.intBits z ≤ 1048576) (fun _ => pD K (.bool true)) (fun _ C => C)
theorem law_start {K : PySem.W.Frag} {H : Hp} {a : Addr} {ns : List Int} {E : XK} (hl : ns.length ≤ 63) (hb : ∀ z ∈ ns, Builtin.Int.intBits z ≤ 1048576) (hS : SqL K H a (ns.map V.int)) : spLaw K [.ref a] H (fun v _ => v = .bl true) E :=
  ⟨ns, H, fun _ => none, ⟨Same.refl _, fun a c e => nomatch e⟩, ⟨Dp.lst hS (ints_dpAll ns), trivial⟩, ⟨hl, hb⟩, fun v H' M' _ _ hv => d_bl hv⟩
section
variable {K : PySem.W.Frag} {M0 : Hp} {t : TS} {D : Ends} {ρ ρ' : En} {C C' : Cs} {N : L2.St → Hp → Prop} {I : En → Cs → Prop}
theorem ex_wk (he : EnvLe ρ ρ') (hc : Sub C' C) (h : Ex K M0 t D ρ' C') : Ex K M0 t D ρ C := h.weak he hc
theorem nx_wk (he : EnvLe ρ ρ') (hc : Sub C' C) (h : Nx K M0 N ρ' C') : Nx K M0 N ρ C := h.weak he hc
theorem nx_Iw (he : EnvLe ρ ρ') (hc : Sub C' C) (h : I ρ' C') : Nx K M0 (NI K M0 I) ρ C := nx_wk he hc (nx_I h)
end
/-! ### in a row -/
section
variable {K : PySem.W.Frag} {M0 : Hp} {t u : TS} {te : TE} {D : Ends} {ρ ρ' : En} {C C1 C2 C' : Cs} {p : Pd} {c : Cell}
theorem ex_sasg {i : Nat} (h : Ec K te ρ C p C1) (k : Ex K M0 u D (ρ.set i (some p)) C1) : Ex K M0 (tSeq (tAsg te (gName i)) u) D ρ C := ex_seq (ex_asg h k)
theorem ex_sasgG {g : TG} (h : Ec K te ρ C p C1) (hg : Eg K g ρ C1 p ρ' C2) (k : Ex K M0 u D ρ' C2) : Ex K M0 (tSeq (tAsg te g) u) D ρ C := ex_seq (ex_asgG h hg k)
theorem ex_sasgW {i : Nat} (h : Ew K te ρ C c C1) (k : ∀ a, C1 a = none → Ex K M0 u D (ρ.set i (some (pRef a))) (updC C1 a c)) : Ex K M0 (tSeq (tAsg te (gName i)) u) D ρ C := ex_seq (ex_asgW h k)
theorem ex_sdrop (h : Ec K te ρ C p C1) (k : Ex K M0 u D ρ C1) : Ex K M0 (tSeq (tDrop te) u) D ρ C := ex_seq (ex_drop h k)
theorem ex_sif {tc : TT} {v : TS} {b : Bool} (h : Et K tc ρ C b C) (h1 : b = true → Ex K M0 t { D with nx := u D } ρ C) (h2 : b = false → Ex K M0 v { D with nx := u D } ρ C) : Ex K M0 (tSeq (tIfS tc t v) u) D ρ C := ex_seq (ex_if h h1 h2)
/-- an if without else -/
theorem ex_sif0 {tc : TT} {b : Bool} (h : Et K tc ρ C b C) (h1 : b = true → Ex K M0 t { D with nx := u D } ρ C) (h2 : b = false → Ex K M0 u D ρ C) : Ex K M0 (tSeq (tIfS tc t tNext) u) D ρ C := ex_seq (ex_if h h1 h2)
/-- an if without else that sets a name alone -/
theorem ex_sifA {tc : TT} {b : Bool} {i : Nat} {q : Pd} (h : Et K tc ρ C b C) (hq : ρ[i]? = some (some q)) (h1 : b = true → Ec K te ρ C p C) (h2 : b = false → p = q) (k : Ex K M0 u D (ρ.set i (some p)) C) : Ex K M0 (tSeq (tIfS tc (tAsg te (gName i)) tNext) u) D ρ C := by
  refine ex_sif0 h (fun hb => ex_asg (h1 hb) k) (fun hb => ?_)
  have e := h2 hb
  subst e
  have e : ρ.set i (some p) = ρ := by
    apply List.ext_getElem?
    intro j
    by_cases hj : j = i
    · subst hj
      rw [hq, List.getElem?_set]
      have hl : j < ρ.length := by
        rcases Nat.lt_or_ge j ρ.length with h | h
        · exact h
        · rw [List.getElem?_eq_none h] at hq; cases hq
      rw [if_pos rfl, if_pos hl]
    · rw [List.getElem?_set_ne (Ne.symm hj)]
  rw [e] at k
  exact k
theorem ex_ssetL {to ti : TE} {a : Addr} {ds : List PyData} {d : PyData} {i : Int} {j : Nat} (h : Ec K te ρ C (pD K d) C) (ho : Ec K to ρ C (pRef a) C) (hi : Ec K ti ρ C (pD K (.int i)) C) (hc : C a = some (.lst ds)) (hj : ixN ds.length i = some j) (hC : updC C a (.lst (ds.set j d)) = C')
    (k : Ex K M0 u D ρ C') : Ex K M0 (tSeq (tAsg te (gSub to ti rSetL)) u) D ρ C := ex_seq (ex_setL h ho hi hc hj (by rw [hC]; exact k))
theorem ex_saug {i : Nat} {ti : TIp} {q s' : Pd} (hx : ρ[i]? = some (some p)) (h : Ec K te ρ C q C1) (hr : Er K ti C1 p q s' C2) (k : Ex K M0 u D (ρ.set i (some s')) C2) : Ex K M0 (tSeq (tAug i te ti) u) D ρ C := ex_seq (ex_aug hx h hr k)
theorem ex_sfor {wi : TI} {g : TG} {tb : TS} {n : Nat} {item : Nat → Pd} {G : Cs → Prop} (hi : Ei K wi ρ C n item C1 G) (I : Nat → En → Cs → Prop) {ρ0 : En} {C0 : Cs} (he : EnvLe ρ ρ0) (hc : Sub C0 C1) (h0 : I 0 ρ0 C0) (hG : ∀ i ρ C, i ≤ n → I i ρ C → G C)
    (turn : ∀ M1, Same M0 M1 → ∀ i ρ C, i < n → I i ρ C → ∃ ρ2 C2, Eg K g ρ C (item i) ρ2 C2 ∧ Ex K M1 tb { D with nx := NI K M1 (I (i + 1)), ct := NI K M1 (I (i + 1)), bk := u D } ρ2 C2)
    (done : ∀ ρ C, I n ρ C → Ex K M0 u D ρ C) : Ex K M0 (tSeq (tFor wi g tb) u) D ρ C := ex_seq (ex_for hi I he hc h0 hG turn done)
theorem ex_swhile {tc : TT} {tb : TS} (I : Nat → En → Cs → Prop) (m : Nat) (h0 : I m ρ C)
    (turn : ∀ m ρ C, I m ρ C → ∃ b C1, Et K tc ρ C b C1 ∧ (b = true → ∃ I' : En → Cs → Prop, (∀ ρ C, I' ρ C → ∃ m', m' < m ∧ I m' ρ C) ∧ Ex K M0 tb { D with nx := NI K M0 I', ct := NI K M0 I', bk := u D } ρ C1) ∧ (b = false → Ex K M0 u D ρ C1)) : Ex K M0 (tSeq (tWhile tc tb) u) D ρ C := ex_seq (ex_while I m h0 turn)
end
/-! ### comprehensions -/
theorem wipe_get (σ : L2.St) (i : Nat) : ∀ vs : List Nat, (wipe σ vs)[i]? = if i ∈ vs then (σ[i]?).map (fun _ => none) else σ[i]?
  | [] => by simp [wipe]
  | v :: vs => by
    have ih := wipe_get σ i vs
    unfold wipe
    by_cases h : i = v
    · subst h
      rw [if_pos List.mem_cons_self]
      by_cases hl : i < σ.length
      · rw [List.getElem?_set_self (by rw [wipe_length]; exact hl), List.getElem?_eq_getElem hl]; rfl
      · rw [List.getElem?_eq_none (by rw [List.length_set, wipe_length]; omega), List.getElem?_eq_none (by omega)]; rfl
    · rw [List.getElem?_set_ne (Ne.symm h), ih]
      by_cases h2 : i ∈ vs
      · rw [if_pos h2, if_pos (List.mem_cons_of_mem _ h2)]
      · rw [if_neg h2, if_neg (by simp [h, h2])]
theorem wipe_set {σ : L2.St} {vs : List Nat} {j : Nat} {x : Option V} (hj : j ∈ vs) : wipe (σ.set j x) vs = wipe σ vs := by
  apply List.ext_getElem?
  intro i
  rw [wipe_get, wipe_get]
  by_cases h : i ∈ vs
  · rw [if_pos h, if_pos h]
    by_cases e : i = j
    · subst e
      by_cases hl : i < σ.length
      · rw [List.getElem?_set_self hl, List.getElem?_eq_getElem hl]; rfl
      · rw [List.getElem?_eq_none (by rw [List.length_set]; omega), List.getElem?_eq_none (by omega)]
    · rw [List.getElem?_set_ne (Ne.symm e)]
  · rw [if_neg h, if_neg h, List.getElem?_set_ne (fun e => h (by rw [← e]; exact hj))]
theorem wipe_wipe (σ : L2.St) (vs : List Nat) : wipe (wipe σ vs) vs = wipe σ vs := by
  apply List.ext_getElem?
  intro i
  rw [wipe_get, wipe_get]
  by_cases h : i ∈ vs
  · rw [if_pos h, if_pos h]; cases σ[i]? <;> rfl
  · rw [if_neg h, if_neg h]
/-- a comprehension's target -/
def Egv (K : PySem.W.Frag) (g : TG) (ρ : En) (vs : List Nat) (C : Cs) (p : Pd) (ρ' : En) : Prop := ∀ (v : V) (σ : L2.St) (H M : Hp) (Q : L2.St → Hp → Prop), EnvOk M ρ σ → Ok K M C H → p.p M v → (∀ σ' H' M', Same M M' → wipe σ' vs = wipe σ vs → EnvOk M' ρ' σ' → Ok K M' C H' → Q σ' H') → g v σ H Q
section
variable {K : PySem.W.Frag} {ρ ρ' : En} {C C1 : Cs} {p : Pd} {vs : List Nat}
theorem egv_name {i : Nat} (hi : i ∈ vs) : Egv K (gName i) ρ vs C p (ρ.set i (some p)) := fun v σ H M Q e k hv z => z _ H M (Same.refl M) (wipe_set hi) (e.set hv i) k
theorem et_yes : Et K tYes ρ C true C := fun σ H M Q e k z => z H M (Same.refl M) k
def coll (b : Nat → Bool) (q : Nat → PyData) : Nat → List PyData
  | 0 => []
  | n + 1 => coll b q n ++ (if b n = true then [q n] else [])
theorem coll_len (b : Nat → Bool) (q : Nat → PyData) : ∀ n, (coll b q n).length ≤ n
  | 0 => Nat.le_refl _
  | n + 1 => by
    unfold coll
    rw [List.length_append]
    have := coll_len b q n
    split <;> simp <;> omega
theorem coll_map (q : Nat → PyData) : ∀ n, coll (fun _ => true) q n = (List.range n).map q
  | 0 => rfl
  | n + 1 => by unfold coll; rw [coll_map q n, List.range_succ, List.map_append]; rfl
theorem coll_congr {b b' : Nat → Bool} {q q' : Nat → PyData} : ∀ n, (∀ i, i < n → b i = b' i) → (∀ i, i < n → b i = true → q i = q' i) → coll b q n = coll b' q' n
  | 0, _, _ => rfl
  | n + 1, h1, h2 => by
    unfold coll
    rw [coll_congr n (fun i hi => h1 i (by omega)) (fun i hi => h2 i (by omega)), h1 n (by omega)]
    by_cases h : b' n = true
    · rw [if_pos h, if_pos h, h2 n (by omega) (by rw [h1 n (by omega)]; exact h)]
    · rw [if_neg h, if_neg h]
/-- over a list: filter, then map -/
theorem coll_list {α : Type} [Inhabited α] (xs : List α) (f : α → Bool) (g : α → PyData) : coll (fun i => f (xs.getD i default)) (fun i => g (xs.getD i default)) xs.length = (xs.filter f).map g := by
  have h : ∀ n, n ≤ xs.length → coll (fun i => f (xs.getD i default)) (fun i => g (xs.getD i default)) n = ((xs.take n).filter f).map g := by
    intro n
    induction n with
    | zero => intro _; rfl
    | succ n ih =>
      intro hn
      unfold coll
      rw [ih (by omega), List.take_succ_eq_append_getElem (by omega), List.filter_append, List.map_append]
      have e : xs.getD n default = xs[n] := by rw [List.getD_eq_getElem?_getD, List.getElem?_eq_getElem (by omega)]; rfl
      rw [e]
      by_cases hf : f xs[n] = true
      · rw [if_pos hf, List.filter_cons_of_pos hf]; rfl
      · rw [if_neg hf, List.filter_cons_of_neg hf]; rfl
  have := h xs.length (Nat.le_refl _)
  rw [List.take_length] at this
  exact this
/-- Ck i B: the cells behind i turns, over any base B -/
theorem ew_lc {wi : TI} {g : TG} {tt : TT} {te : TE} {n : Nat} {item : Nat → Pd} {G : Cs → Prop} (hi : Ei K wi ρ C n item C1 G) (b : Nat → Bool) (q : Nat → PyData) (Ck : Nat → Cs → Cs) (C0 : Cs) (h0 : C1 = Ck 0 C0)
    (hd : ∀ D, C1 D = none → C0 D = none) (hG : ∀ i B, i ≤ n → Sub C0 B → G (Ck i B)) (hcomm : ∀ i D c, C1 D = none → updC (Ck i C0) D c = Ck i (updC C0 D c)) (hn : n < sizeLine) (hDn : ∀ D, C1 D = none → Ck n C0 D = none)
    (turn : ∀ i, i < n → ∀ B, Sub C0 B → ∃ ρ2, Egv K g (wipeR ρ vs) vs (Ck i B) (item i) ρ2 ∧ Et K tt ρ2 (Ck i B) (b i) (Ck i B) ∧ (b i = true → Ec K te ρ2 (Ck i B) (pD K (q i)) (Ck (i + 1) B)) ∧ (b i = false → Ck (i + 1) B = Ck i B)) :
    Ew K (tLc wi g tt te vs) ρ C (.lst (coll b q n)) (Ck n C0) := fun σ H M Q e k z => by
  refine hi σ H M _ e k fun J H1 M1 s1 k1 hw D hD => ?_
  have hC1 : C1 D = none := (k1.free hD).2
  have hC0 : C0 D = none := hd D hC1
  have P0 : Ok K M1 (Ck 0 (updC C0 D (.lst []))) (upd H1 D (.lst [])) := by
    have := (k1.cell (c := .lst []) (o := .lst []) hD (show DpAll K M1 [] [] from .nil)).2
    rw [h0, hcomm 0 D _ hC1] at this
    exact this
  refine ⟨fun i m H => m = n - i ∧ i ≤ n ∧ ∃ M2, Same M1 M2 ∧ Ok K M2 (Ck i (updC C0 D (.lst (coll b q i)))) H, ⟨n, by simp, Nat.zero_le _, M1, Same.refl _, P0⟩, ?_⟩
  rintro i m H2 ⟨rfl, hin, M2, s2, k2⟩
  have hsub : Sub C0 (updC C0 D (.lst (coll b q i))) := Sub.upd hC0
  obtain ⟨w1, w2⟩ := hw _ H2 M2 s2 k2 (hG i _ hin hsub)
  by_cases hlt : i < n
  · obtain ⟨w3, w4⟩ := w2 i hlt
    refine .inr ⟨w3, fun H' => ∃ M3, Same M1 M3 ∧ Ok K M3 (Ck (i + 1) (updC C0 D (.lst (coll b q (i + 1))))) H', fun H' h => ⟨n - (i + 1), by omega, rfl, hlt, h⟩, fun x H3 y => ?_⟩
    obtain ⟨M3, s3, k3, hx⟩ := w4 x H3 y
    obtain ⟨ρ2, t1, t2, t3, t4⟩ := turn i hlt _ hsub
    refine t1 x _ H3 M3 _ ((((e.mono s1).mono s2).mono s3).wipe vs) k3 hx fun σ4 H4 M4 s4 hwp e4 k4 => ⟨by rw [hwp, wipe_wipe], ?_⟩
    refine t2 σ4 H4 M4 _ e4 k4 fun H5 M5 s5 k5 => ?_
    by_cases hb : b i = true
    · rw [if_pos hb]
      refine t3 hb σ4 H5 M5 _ (e4.mono s5) k5 fun v H6 M6 s6 k6 hv => ?_
      have k6' := k6
      rw [← hcomm (i + 1) D _ hC1] at k6'
      obtain ⟨acc, a1, a2⟩ := k6'.lst updC_same
      refine ⟨acc, a1, by rw [dpAll_len a2]; exact Nat.lt_of_le_of_lt (coll_len b q i) (by omega), M6, ((((s2.trans s3).trans s4).trans s5).trans s6), ?_⟩
      have := k6'.set (c' := .lst (coll b q (i + 1))) (o := .lst (acc ++ [v])) updC_same (by
        show DpAll K M6 (acc ++ [v]) (coll b q (i + 1))
        unfold coll
        rw [if_pos hb]
        exact dpAll_append a2 (.cons hv .nil))
      rw [updC_updC, hcomm (i + 1) D _ hC1] at this
      exact this
    · rw [if_neg hb]
      have hb' : b i = false := by simpa using hb
      refine ⟨M5, (((s2.trans s3).trans s4).trans s5), ?_⟩
      unfold coll
      rw [if_neg hb, List.append_nil, t4 hb']
      exact k5
  · have e' : i = n := by omega
    subst e'
    refine .inl ⟨w1, ?_⟩
    rw [← hcomm i D _ hC1] at k2
    exact z D H2 M2 (s1.trans s2) (hDn D hC1) k2
/-- .. whose parts leave the cells -/
theorem ew_lcP {wi : TI} {g : TG} {tt : TT} {te : TE} {n : Nat} {item : Nat → Pd} {G : Cs → Prop} (hi : Ei K wi ρ C n item C1 G) (b : Nat → Bool) (q : Nat → PyData) (hG : ∀ B, Sub C1 B → G B) (hn : n < sizeLine)
    (turn : ∀ i, i < n → ∀ B, Sub C1 B → ∃ ρ2, Egv K g (wipeR ρ vs) vs B (item i) ρ2 ∧ Et K tt ρ2 B (b i) B ∧ (b i = true → Ec K te ρ2 B (pD K (q i)) B)) :
    Ew K (tLc wi g tt te vs) ρ C (.lst (coll b q n)) C1 :=
  ew_lc hi b q (fun _ B => B) C1 rfl (fun _ h => h) (fun _ B _ h => hG B h) (fun _ _ _ _ => rfl) hn (fun _ h => h) fun i hin B hB => by
    obtain ⟨ρ2, t1, t2, t3⟩ := turn i hin B hB
    exact ⟨ρ2, t1, t2, t3, fun _ => rfl⟩
end
/-! ### texts -/
section
variable {K : PySem.W.Frag} {ρ : En} {C C1 C2 C3 : Cs} {tl te : TE}
def sgn (c : Nat) : Str := ⟨#[c]⟩
theorem ei_str {x : Str} (h : Ec K tl ρ C (pD K (.str x)) C1) : Ei K (iStr tl) ρ C x.cps.size (fun i => pD K (.str (sgn (x.cps.toList.getD i 0)))) C1 (fun _ => True) := fun σ H M R e k z =>
  h σ H M _ e k fun v H1 M1 e1 k1 hv => by
    have := d_str hv; subst this
    refine ⟨x, rfl, z _ H1 M1 e1 k1 fun C2 H2 M2 s2 k2 _ => ⟨Nat.le_refl _, fun i hi => ⟨hi, fun y H3 yl => ?_⟩⟩⟩
    obtain ⟨rfl, c, hc, rfl⟩ := yl
    refine ⟨M2, Same.refl _, k2, ?_⟩
    have : x.cps.toList.getD i 0 = c := by
      rw [List.getD_eq_getElem?_getD, Array.getElem?_toList, hc]; rfl
    show Dp K M2 _ (.str (sgn (x.cps.toList.getD i 0)))
    rw [this]
    exact Dp.str _
theorem er_inS {c : Nat} {z : Str} : Er K (fun x y H Q => ∃ (c : Nat) (z : Str), x = .str ⟨#[c]⟩ ∧ y = .str z ∧ Q (.bl (decide (c ∈ z.cps.toList))) H) C (pD K (.str (sgn c))) (pD K (.str z)) (pD K (.bool (decide (c ∈ z.cps.toList)))) C :=
  er_scal (fun _ _ => d_str) (fun _ _ => d_str) (fun _ => .bl _) fun H Q q => ⟨c, z, rfl, rfl, q⟩
theorem er_notInS {c : Nat} {z : Str} : Er K (fun x y H Q => ∃ (c : Nat) (z : Str), x = .str ⟨#[c]⟩ ∧ y = .str z ∧ Q (.bl (!decide (c ∈ z.cps.toList))) H) C (pD K (.str (sgn c))) (pD K (.str z)) (pD K (.bool (!decide (c ∈ z.cps.toList)))) C :=
  er_scal (fun _ _ => d_str) (fun _ _ => d_str) (fun _ => .bl _) fun H Q q => ⟨c, z, rfl, rfl, q⟩
theorem er_addS {x y : Str} (h : x.length + y.length ≤ sizeLine) : Er K (fun x y H Q => ∃ i j, x = .str i ∧ y = .str j ∧ i.length + j.length ≤ sizeLine ∧ Q (.str (i ++ j)) H) C (pD K (.str x)) (pD K (.str y)) (pD K (.str (x ++ y))) C :=
  er_scal (fun _ _ => d_str) (fun _ _ => d_str) (fun _ => .str _) fun H Q q => ⟨x, y, rfl, rfl, h, q⟩
theorem er_ixS {x : Str} {i : Int} {c : Nat} (hl : x.length ≤ sizeLine) (h : atI x.cps.toList i = some c) : Er K rIxS C (pD K (.str x)) (pD K (.int i)) (pD K (.str (sgn c))) C :=
  er_scal (fun _ _ => d_str) (fun _ _ => d_int) (fun _ => .str _) fun H Q q => ⟨x, i, c, rfl, rfl, hl, h, q⟩
theorem ec_slS {tl th : TO} {x : Str} {lo hi : Option Int} (h : Ec K te ρ C (pD K (.str x)) C1) (h1 : Eo K tl ρ C1 lo C2) (h2 : Eo K th ρ C2 hi C3) (hl : x.length ≤ sizeLine) : Ec K (tSl rSlS te tl th) ρ C (pD K (.str (cutS x lo hi))) C3 := fun σ H M Q e k z =>
  h σ H M _ e k fun v H1 M1 e1 k1 hv => h1 σ H1 M1 _ (e.mono e1) k1 fun H2 M2 e2 k2 => h2 σ H2 M2 _ ((e.mono e1).mono e2) k2 fun H3 M3 e3 k3 => by
    have := d_str hv; subst this
    exact ⟨x, rfl, hl, z _ H3 M3 ((e1.trans e2).trans e3) k3 (.str _)⟩
/-- sep.join(list of texts) -/
theorem ec_join {to : TE} {a : Str} {ys : List Str} (ho : Ec K to ρ C (pD K (.str a)) C1) (h : Ec K te ρ C1 (pD K (.list (ys.map PyData.str))) C2) (hl : (ys.map (·.length)).sum + ys.length * a.length ≤ 16777216) :
    Ec K (tM1 (fun x xs H Q => ∃ a p, ∃ ys : List Str, x = .str a ∧ xs = [.ref p] ∧ (SqL K H p (ys.map V.str) ∨ SqT K H p (ys.map V.str)) ∧ (ys.map (·.length)).sum + ys.length * a.length ≤ 16777216 ∧ Q (.str (Txt.join a ys)) H) to te) ρ C (pD K (.str (Txt.join a ys))) C2 := fun σ H M Q e k z =>
  ho σ H M _ e k fun x H1 M1 e1 k1 hx => by
    have := d_str hx; subst this
    refine ⟨⟨a, rfl⟩, h σ H1 M1 _ (e.mono e1) k1 fun y H2 M2 e2 k2 hy => ?_⟩
    obtain ⟨p, xs, rfl, q1, q2⟩ := d_lst hy
    have := dpAll_strs q2; subst this
    exact ⟨a, p, ys, rfl, rfl, .inl (k2.fz.seq q1), hl, z _ H2 M2 (e1.trans e2) k2 (.str _)⟩
end
/-- a text by its signs -/
def sL (l : List Nat) : Str := ⟨l.toArray⟩
theorem sL_cps (l : List Nat) : (sL l).cps.toList = l := by simp [sL]
theorem sL_len (l : List Nat) : (sL l).length = l.length := by simp [sL, Str.length]
theorem str_ext {x y : Str} (h : x.cps.toList = y.cps.toList) : x = y := by
  cases x; cases y
  simp only [Str.mk.injEq]
  exact Array.ext' h
theorem sL_of (x : Str) : sL x.cps.toList = x := str_ext (sL_cps _)
theorem sL_app (a b : List Nat) : sL a ++ sL b = sL (a ++ b) := str_ext (by
  show ((sL a).cps ++ (sL b).cps).toList = _
  rw [Array.toList_append, sL_cps, sL_cps, sL_cps])
theorem sgn_sL (c : Nat) : sgn c = sL [c] := rfl
theorem sL_cut (l : List Nat) (lo hi : Option Int) : cutS (sL l) lo hi = sL ((l.drop (HT.sIx l.length 0 lo)).take (HT.sIx l.length l.length hi - HT.sIx l.length 0 lo)) := by
  unfold cutS
  rw [sL_cps, sL_len]; rfl
theorem join_flat : ∀ parts : List (List Nat), TL.joinL [] parts = parts.flatten
  | [] => rfl
  | [p] => by simp [TL.joinL]
  | p :: q :: r => by
    unfold TL.joinL
    rw [join_flat (q :: r)]; rfl
theorem join_sL (parts : List (List Nat)) : Txt.join "" (parts.map sL) = sL parts.flatten := by
  rw [TL.join_eq]
  apply str_ext
  have := TL.tl_join (Str.ofString "") (parts.map sL)
  have e : TL.tl (Str.ofString "") = [] := by decide +kernel
  rw [e, join_flat] at this
  rw [sL_cps]
  have h2 : (parts.map sL).map TL.tl = parts := by
    rw [List.map_map]
    conv => rhs; rw [← List.map_id parts]
    apply List.map_congr_left
    intro a _
    exact sL_cps a
  rw [h2] at this
  exact this
/-- signs that are signs -/
def TOk (x : Str) : Prop := ∀ c ∈ x.cps.toList, c < 1114112
theorem TOk.lay {x : Str} (h : TOk x) : (PyData.str x).canLay0 = true := by
  unfold PyData.canLay0 PyData.strOk
  rw [Array.all_eq_true']
  intro c hc
  exact decide_eq_true (h c (Array.mem_toList_iff.mpr hc))
theorem TOk.sgn {x : Str} (h : TOk x) {c : Nat} (hc : c ∈ x.cps.toList) : TOk (sgn c) := fun d hd => by
  have : d = c := by simpa [Fz.sgn] using hd
  subst this; exact h d hc
theorem TOk.app {x y : Str} (h : TOk x) (h' : TOk y) : TOk (x ++ y) := fun c hc => by
  have e : (x ++ y).cps.toList = x.cps.toList ++ y.cps.toList := Array.toList_append
  rw [e, List.mem_append] at hc
  exact hc.elim (h c) (h' c)
theorem TOk.cut {x : Str} (h : TOk x) (lo hi : Option Int) : TOk (cutS x lo hi) := fun c hc => by
  have e : (cutS x lo hi).cps.toList = ((x.cps.toList.drop (HT.sIx x.length 0 lo)).take (HT.sIx x.length x.length hi - HT.sIx x.length 0 lo)) := by simp [cutS]
  rw [e] at hc
  exact h c (List.mem_of_mem_drop (List.mem_of_mem_take hc))
theorem cut_len (x : Str) (lo hi : Option Int) : (cutS x lo hi).length ≤ x.length := by
  have e : (cutS x lo hi).length = ((x.cps.toList.drop (HT.sIx x.length 0 lo)).take (HT.sIx x.length x.length hi - HT.sIx x.length 0 lo)).length := by simp [cutS, Str.length]
  rw [e, List.length_take, List.length_drop, Array.length_toList]
  show _ ≤ x.cps.size
  omega
theorem app_len (x y : Str) : (x ++ y).length = x.length + y.length := by
  show (x.cps ++ y.cps).size = _
  rw [Array.size_append]; rfl
theorem eqv_nil (l : List PyData) : PyData.eqv (.list l) (.list []) = l.isEmpty := by
  cases l <;> simp [PyData.eqv, PyData.eqvAll]
theorem getD_map {α : Type} {β : Type} (f : α → β) (l : List α) (i : Nat) (d : β) (d' : α) (h : i < l.length) : (l.map f).getD i d = f (l.getD i d') := by
  rw [List.getD_eq_getElem?_getD, List.getD_eq_getElem?_getD, List.getElem?_map, List.getElem?_eq_getElem h]; rfl
/-! ### equality -/
section
variable {K : PySem.W.Frag} {C : Cs} {p q : Pd}
/-- read as a datum -/
def AsD (K : PySem.W.Frag) (C : Cs) (p : Pd) (d : PyData) : Prop := ∀ (M H : Hp) (v : V), Ok K M C H → p.p M v → Dp K H v d
theorem asD_D {d : PyData} : AsD K C (pD K d) d := fun M H v k h => dp_mono k.fz h
theorem asD_C {a : Addr} {ds : List PyData} (h : C a = some (.lst ds)) : AsD K C (pRef a) (.list ds) := fun M H v k hv => by
  have hv' : v = .ref a := hv
  subst hv'
  obtain ⟨xs, h1, h2⟩ := k.lst h
  exact Dp.lst (.inl (.inl h1)) (dpAll_mono k.fz h2)
theorem er_eqD {d e : PyData} (ha : AsD K C p d) (hb : AsD K C q e) (sd : SeqAt.shaped d = true) (se : SeqAt.shaped e = true) : Er K (rEqD K) C p q (pD K (.bool (PyData.eqv d e))) C := fun x y H M Q k hx hy z =>
  ⟨d, e, ha M H x k hx, hb M H y k hy, sd, se, z _ H M (Same.refl _) k (.bl _)⟩
theorem er_neD {d e : PyData} (ha : AsD K C p d) (hb : AsD K C q e) (sd : SeqAt.shaped d = true) (se : SeqAt.shaped e = true) : Er K (rNeD K) C p q (pD K (.bool (!PyData.eqv d e))) C := fun x y H M Q k hx hy z =>
  ⟨d, e, ha M H x k hx, hb M H y k hy, sd, se, z _ H M (Same.refl _) k (.bl _)⟩
mutual
theorem eqv_self : ∀ d : PyData, d.canLay0 = true → PyData.eqv d d = true
  | .none, _ => by simp [PyData.eqv]
  | .bool _, _ => by simp [PyData.eqv]
  | .int _, _ => by simp [PyData.eqv]
  | .str _, _ => by simp [PyData.eqv]
  | .list xs, h => by
    unfold PyData.eqv
    exact eqvAll_self xs (by unfold PyData.canLay0 at h; exact h)
  | .tuple xs, h => by
    unfold PyData.eqv
    exact eqvAll_self xs (by unfold PyData.canLay0 at h; exact h)
  | .dict _, h => by unfold PyData.canLay0 at h; cases h
theorem eqvAll_self : ∀ ds : List PyData, PyData.canLayAll0 ds = true → PyData.eqvAll ds ds = true
  | [], _ => by simp [PyData.eqvAll]
  | d :: ds, h => by
    unfold PyData.canLayAll0 at h
    rw [Bool.and_eq_true] at h
    unfold PyData.eqvAll
    rw [eqv_self d h.1, eqvAll_self ds h.2]; rfl
end
theorem eqv_of_shaped {d : PyData} (h : SeqAt.shaped d = true) : PyData.eqv d d = true := eqv_self d (SeqAt.canLay_of_shaped h)
/-! plain data: nothing but ints, texts, None, lists and tuples of such: there == is = -/
mutual
def plain : PyData → Bool
  | .none => true
  | .bool _ => false
  | .int _ => true
  | .str _ => true
  | .list xs => plains xs
  | .tuple xs => plains xs
  | .dict _ => false
def plains : List PyData → Bool
  | [] => true
  | d :: ds => plain d && plains ds
end
mutual
theorem eqv_eq : ∀ d e : PyData, plain d = true → plain e = true → PyData.eqv d e = true → d = e
  | .none, e, _, _, h => by cases e <;> simp_all [PyData.eqv]
  | .int _, e, _, he, h => by cases e <;> simp_all [PyData.eqv, plain]
  | .str _, e, _, _, h => by cases e <;> simp_all [PyData.eqv]
  | .bool _, e, hd, _, _ => by simp [plain] at hd
  | .dict _, e, hd, _, _ => by simp [plain] at hd
  | .list xs, e, hd, he, h => by
    cases e <;> first
      | (simp [PyData.eqv] at h; done)
      | skip
    rename_i ys
    unfold PyData.eqv at h
    unfold plain at hd he
    rw [eqvAll_eq xs ys hd he h]
  | .tuple xs, e, hd, he, h => by
    cases e <;> first
      | (simp [PyData.eqv] at h; done)
      | skip
    rename_i ys
    unfold PyData.eqv at h
    unfold plain at hd he
    rw [eqvAll_eq xs ys hd he h]
theorem eqvAll_eq : ∀ ds es : List PyData, plains ds = true → plains es = true → PyData.eqvAll ds es = true → ds = es
  | [], [], _, _, _ => rfl
  | [], _ :: _, _, _, h => by simp [PyData.eqvAll] at h
  | _ :: _, [], _, _, h => by simp [PyData.eqvAll] at h
  | d :: ds, e :: es, hd, he, h => by
    unfold plains at hd he
    unfold PyData.eqvAll at h
    rw [Bool.and_eq_true] at hd he h
    rw [eqv_eq d e hd.1 he.1 h.1, eqvAll_eq ds es hd.2 he.2 h.2]
end
/-! shapes -/
theorem canLay_ints : ∀ ns : List Int, PyData.canLayAll0 (ns.map PyData.int) = true
  | [] => by simp [PyData.canLayAll0]
  | _ :: ns => by rw [List.map_cons]; unfold PyData.canLayAll0; rw [canLay_ints ns]; simp [PyData.canLay0]
theorem canLayAll_of : ∀ {ds : List PyData}, (∀ d ∈ ds, d.canLay0 = true) → PyData.canLayAll0 ds = true
  | [], _ => by simp [PyData.canLayAll0]
  | d :: ds, h => by unfold PyData.canLayAll0; rw [h d List.mem_cons_self, canLayAll_of (ds := ds) fun x hx => h x (List.mem_cons_of_mem _ hx)]; rfl
theorem depthAll_of : ∀ {ds : List PyData} {n : Nat}, (∀ d ∈ ds, d.depth ≤ n) → PyData.depthAll ds ≤ n
  | [], _, _ => by simp [PyData.depthAll]
  | d :: ds, n, h => by
    unfold PyData.depthAll
    have h1 := h d List.mem_cons_self
    have h2 := depthAll_of (ds := ds) fun x hx => h x (List.mem_cons_of_mem _ hx)
    exact Nat.max_le.mpr ⟨h1, h2⟩
/-- a datum whose parts are within n -/
def Shp (n : Nat) (d : PyData) : Prop := d.canLay0 = true ∧ d.depth ≤ n
theorem shp_int {n : Nat} {i : Int} : Shp n (.int i) := ⟨by simp [PyData.canLay0], by simp [PyData.depth]⟩
theorem shp_bool {n : Nat} {i : Bool} : Shp n (.bool i) := ⟨by simp [PyData.canLay0], by simp [PyData.depth]⟩
theorem shp_none {n : Nat} : Shp n .none := ⟨by simp [PyData.canLay0], by simp [PyData.depth]⟩
theorem shp_str {n : Nat} {x : Str} (h : TOk x) : Shp n (.str x) := ⟨h.lay, by simp [PyData.depth]⟩
theorem shp_list {n : Nat} {ds : List PyData} (h : ∀ d ∈ ds, Shp n d) : Shp (n + 1) (.list ds) := ⟨by unfold PyData.canLay0; exact canLayAll_of fun d hd => (h d hd).1, by
  have := depthAll_of (ds := ds) (n := n) fun d hd => (h d hd).2
  unfold PyData.depth; omega⟩
theorem shp_tup {n : Nat} {ds : List PyData} (h : ∀ d ∈ ds, Shp n d) : Shp (n + 1) (.tuple ds) := ⟨by unfold PyData.canLay0; exact canLayAll_of fun d hd => (h d hd).1, by
  have := depthAll_of (ds := ds) (n := n) fun d hd => (h d hd).2
  unfold PyData.depth; omega⟩
theorem shp_ints {n : Nat} {ns : List Int} : ∀ d ∈ ns.map PyData.int, Shp n d := fun d hd => by
  obtain ⟨i, _, rfl⟩ := List.mem_map.mp hd
  exact shp_int
theorem Shp.shaped {n : Nat} {d : PyData} (h : Shp n d) (hn : n ≤ 64 := by decide) : SeqAt.shaped d = true := by
  unfold SeqAt.shaped
  rw [h.1, decide_eq_true (Nat.le_trans h.2 hn)]; rfl
end
/-! ### lists -/
section
variable {K : PySem.W.Frag} {ρ : En} {C C1 C2 C3 : Cs} {tl te to : TE} {ta : TA} {M0 : Hp} {D : Ends} {u : TS}
/-- x.append(e), x a cell -/
theorem ec_append {a : Addr} {ds : List PyData} {d : PyData} (ho : Ec K to ρ C (pRef a) C) (h0 : C a = some (.lst ds)) (h : Ec K te ρ C (pD K d) C1) (hc : C1 a = some (.lst ds)) (hl : ds.length < sizeLine) :
    Ec K (tBM K "list" rAppend to (tCons te tNil)) ρ C (pD K .none) (updC C1 a (.lst (ds ++ [d]))) := fun σ H M Q e k z =>
  ho σ H M _ e k fun x H1 M1 e1 k1 hx => by
    have hx' : x = .ref a := hx
    subst hx'
    obtain ⟨xs, q1, q2⟩ := k1.lst h0
    refine ⟨.inl ⟨rfl, xs, .inl (.inl q1)⟩, h σ H1 M1 _ (e.mono e1) k1 fun y H2 M2 e2 k2 hy => ?_⟩
    obtain ⟨xs, q1, q2⟩ := k2.lst hc
    exact ⟨a, xs, y, rfl, rfl, q1, by rw [dpAll_len q2]; exact hl, z _ _ M2 (e1.trans e2) (k2.set hc (dpAll_append q2 (.cons hy .nil))) .non⟩
/-- x.reverse() -/
theorem ec_reverse {a : Addr} {ds : List PyData} (ho : Ec K to ρ C (pRef a) C1) (hc : C1 a = some (.lst ds)) :
    Ec K (tBM0 K "list" rReverse to) ρ C (pD K .none) (updC C1 a (.lst ds.reverse)) := fun σ H M Q e k z =>
  ho σ H M _ e k fun x H1 M1 e1 k1 hx => by
    have hx' : x = .ref a := hx
    subst hx'
    obtain ⟨xs, q1, q2⟩ := k1.lst hc
    exact ⟨.inl ⟨rfl, xs, .inl (.inl q1)⟩, a, xs, rfl, rfl, q1, z _ _ M1 e1 (k1.set hc (dpAll_reverse q2)) .non⟩
/-- list(x), x a list or a tuple -/
theorem ewk_listL {ds : List PyData} : EkW K (fun xs H Q => ∃ p ys, xs = [.ref p] ∧ (SqL K H p ys ∨ SqT K H p ys) ∧ ∀ l, H l = none → Q (.ref l) (upd H l (.lst ys))) C [pD K (.list ds)] (.lst ds) C := fun xs H M Q k h z => by
  match xs, h with
  | [v], ⟨h, _⟩ =>
    obtain ⟨a, ys, rfl, h1, h2⟩ := d_lst h
    refine ⟨a, ys, rfl, .inl (k.fz.seq h1), fun l hl => ?_⟩
    obtain ⟨n, k2⟩ := k.cell (c := .lst ds) (o := .lst ys) hl h2
    exact z l _ M (Same.refl _) n k2
theorem ewk_listT {ds : List PyData} : EkW K (fun xs H Q => ∃ p ys, xs = [.ref p] ∧ (SqL K H p ys ∨ SqT K H p ys) ∧ ∀ l, H l = none → Q (.ref l) (upd H l (.lst ys))) C [pD K (.tuple ds)] (.lst ds) C := fun xs H M Q k h z => by
  match xs, h with
  | [v], ⟨h, _⟩ =>
    obtain ⟨a, ys, rfl, h1, h2⟩ := d_tup h
    refine ⟨a, ys, rfl, .inr (sqT_mono k.fz h1), fun l hl => ?_⟩
    obtain ⟨n, k2⟩ := k.cell (c := .lst ds) (o := .lst ys) hl h2
    exact z l _ M (Same.refl _) n k2
theorem ewk_listC {a : Addr} {ds : List PyData} (hc : C a = some (.lst ds)) : EkW K (fun xs H Q => ∃ p ys, xs = [.ref p] ∧ (SqL K H p ys ∨ SqT K H p ys) ∧ ∀ l, H l = none → Q (.ref l) (upd H l (.lst ys))) C [pRef a] (.lst ds) C := fun xs H M Q k h z => by
  match xs, h with
  | [v], ⟨h, _⟩ =>
    have h' : v = .ref a := h
    subst h'
    obtain ⟨ys, h1, h2⟩ := k.lst hc
    refine ⟨a, ys, rfl, .inl (.inl (.inl h1)), fun l hl => ?_⟩
    obtain ⟨n, k2⟩ := k.cell (c := .lst ds) (o := .lst ys) hl h2
    exact z l _ M (Same.refl _) n k2
/-- tuple(x), x a list -/
theorem ek_tupleL {ds : List PyData} : Ek K (fun xs H Q => ∃ p ys, xs = [.ref p] ∧ ((SqL K H p ys ∧ ∀ l, H l = none → Q (.ref l) (upd H l (.tup ys))) ∨ (SqT K H p ys ∧ Q (.ref p) H))) C [pD K (.list ds)] (pD K (.tuple ds)) C := fun xs H M Q k h z => by
  match xs, h with
  | [v], ⟨h, _⟩ =>
    obtain ⟨a, ys, rfl, h1, h2⟩ := d_lst h
    refine ⟨a, ys, rfl, .inl ⟨k.fz.seq h1, fun l hl => ?_⟩⟩
    obtain ⟨s, k2⟩ := k.new (o := .tup ys) hl
    exact z _ _ _ s k2 (Dp.tup (.inl (.inl upd_same)) (dpAll_mono s h2))
theorem ek_tupleC {a : Addr} {ds : List PyData} (hc : C a = some (.lst ds)) : Ek K (fun xs H Q => ∃ p ys, xs = [.ref p] ∧ ((SqL K H p ys ∧ ∀ l, H l = none → Q (.ref l) (upd H l (.tup ys))) ∨ (SqT K H p ys ∧ Q (.ref p) H))) C [pRef a] (pD K (.tuple ds)) C := fun xs H M Q k h z => by
  match xs, h with
  | [v], ⟨h, _⟩ =>
    have h' : v = .ref a := h
    subst h'
    obtain ⟨ys, h1, h2⟩ := k.lst hc
    refine ⟨a, ys, rfl, .inl ⟨.inl (.inl h1), fun l hl => ?_⟩⟩
    obtain ⟨s, k2⟩ := k.new (o := .tup ys) hl
    exact z _ _ _ s k2 (Dp.tup (.inl (.inl upd_same)) (dpAll_mono s h2))
end
/-! ### a datum, frozen or a cell -/
section
variable {K : PySem.W.Frag} {ρ : En} {C C1 C2 C3 : Cs} {tl te to : TE} {ta : TA} {p q : Pd} {M0 : Hp} {D : Ends} {u : TS}
def Dat (K : PySem.W.Frag) (C : Cs) (p : Pd) (d : PyData) : Prop := p = pD K d ∨ ∃ a ds, p = pRef a ∧ C a = some (.lst ds) ∧ d = .list ds
theorem dat_D {d : PyData} : Dat K C (pD K d) d := .inl rfl
theorem dat_C {a : Addr} {ds : List PyData} (h : C a = some (.lst ds)) : Dat K C (pRef a) (.list ds) := .inr ⟨a, ds, rfl, h, rfl⟩
theorem Dat.sub {d : PyData} (h : Dat K C p d) (s : Sub C C1) : Dat K C1 p d := by
  rcases h with h | ⟨a, ds, h1, h2, h3⟩
  · exact .inl h
  · exact .inr ⟨a, ds, h1, s _ _ h2, h3⟩
theorem Dat.as {d : PyData} (h : Dat K C p d) : AsD K C p d := by
  rcases h with rfl | ⟨a, ds, rfl, h2, rfl⟩
  · exact asD_D
  · exact asD_C h2
theorem Dat.list {M H : Hp} {v : V} {ds : List PyData} (h : Dat K C p (.list ds)) (k : Ok K M C H) (hv : p.p M v) : ∃ a xs, v = .ref a ∧ SqL K H a xs ∧ DpAll K M xs ds := by
  rcases h with rfl | ⟨a, es, rfl, h2, h3⟩
  · obtain ⟨a, xs, rfl, h1, h2⟩ := d_lst hv
    exact ⟨a, xs, rfl, k.fz.seq h1, h2⟩
  · cases h3
    have hv' : v = .ref a := hv
    obtain ⟨xs, h1, h2⟩ := k.lst h2
    exact ⟨a, xs, hv', .inl (.inl h1), h2⟩
theorem Dat.tup {M H : Hp} {v : V} {ds : List PyData} (h : Dat K C p (.tuple ds)) (k : Ok K M C H) (hv : p.p M v) : ∃ a xs, v = .ref a ∧ SqT K M a xs ∧ DpAll K M xs ds := by
  rcases h with rfl | ⟨a, es, rfl, h2, h3⟩
  · exact d_tup hv
  · cases h3
theorem Dat.pd {d : PyData} (h : Dat K C p d) (hd : ∀ ds, d ≠ .list ds) : p = pD K d := by
  rcases h with h | ⟨a, es, rfl, h2, h3⟩
  · exact h
  · exact absurd h3 (hd es)
/-! rules by it -/
theorem er_ixA {ds : List PyData} {i : Int} {d : PyData} (h : Dat K C p (.list ds)) (e : atI ds i = some d) : Er K (rIxL K) C p (pD K (.int i)) (pD K d) C := fun x y H M Q k hx hy z => by
  obtain ⟨a, xs, rfl, h1, h2⟩ := h.list k hx
  have := d_int hy; subst this
  obtain ⟨v, q1, q2⟩ := atI_dp h2 e
  exact ⟨a, xs, i, v, rfl, rfl, h1, q1, z v H M (Same.refl M) k q2⟩
theorem ek_lenA {ds : List PyData} (hd : Dat K C p (.list ds)) : Ek K (fun xs H Q => ∃ p ys, xs = [.ref p] ∧ (SqL K H p ys ∨ SqT K H p ys) ∧ Q (.int ys.length) H) C [p] (pD K (.int ds.length)) C := fun xs H M Q k h z => by
  match xs, h with
  | [v], ⟨h, _⟩ =>
    obtain ⟨a, ys, rfl, h1, h2⟩ := hd.list k h
    exact ⟨a, ys, rfl, .inl h1, by rw [dpAll_len h2]; exact z _ H M (Same.refl _) k (.int _)⟩
theorem ek_isiA {d : PyData} {n : String} {b : Bool} (hd : Dat K C p d) (hb : kitB (dTy d) n = some b) : Ek K (rIsi K) C [p, pV (.ty n)] (pD K (.bool b)) C := fun xs H M Q k h z => by
  match xs, h with
  | [v, u], ⟨h, h2, _⟩ =>
    have h2' : u = .ty n := h2
    subst h2'
    exact ⟨v, .ty n, _, _, b, rfl, .ty n, ty_of (Same.refl _) (hd.as M H v k h), kit_ty hb, z _ H M (Same.refl _) k (.bl b)⟩
theorem ek_isIA {d : PyData} (hd : Dat K C p d) : Ek K (rIsi K) C [p, pV (.ty "int")] (pD K (.bool (isI d))) C := ek_isiA hd (by cases d <;> (dsimp only [dTy, isI]; decide +kernel))
theorem ek_isBA {d : PyData} (hd : Dat K C p d) : Ek K (rIsi K) C [p, pV (.ty "bool")] (pD K (.bool (isB d))) C := ek_isiA hd (by cases d <;> (dsimp only [dTy, isB]; decide +kernel))
theorem ek_isSA {d : PyData} (hd : Dat K C p d) : Ek K (rIsi K) C [p, pV (.ty "str")] (pD K (.bool (isS d))) C := ek_isiA hd (by cases d <;> (dsimp only [dTy, isS]; decide +kernel))
theorem ek_isLA {d : PyData} (hd : Dat K C p d) : Ek K (rIsi K) C [p, pV (.ty "list")] (pD K (.bool (isL d))) C := ek_isiA hd (by cases d <;> (dsimp only [dTy, isL]; decide +kernel))
theorem ek_isTA {d : PyData} (hd : Dat K C p d) : Ek K (rIsi K) C [p, pV (.ty "tuple")] (pD K (.bool (isT d))) C := ek_isiA hd (by cases d <;> (dsimp only [dTy, isT]; decide +kernel))
theorem ew_slA {tl th : TO} {ds : List PyData} {lo hi : Option Int} (h : Ec K te ρ C p C1) (h1 : Eo K tl ρ C1 lo C2) (h2 : Eo K th ρ C2 hi C3) (hd : Dat K C3 p (.list ds)) : Ew K (tSl (rSlL K) te tl th) ρ C (.lst (cutP ds lo hi)) C3 := fun σ H M Q e k z =>
  h σ H M _ e k fun v H1 M1 e1 k1 hv => h1 σ H1 M1 _ (e.mono e1) k1 fun H2 M2 e2 k2 => h2 σ H2 M2 _ ((e.mono e1).mono e2) k2 fun H3 M3 e3 k3 => by
    obtain ⟨a, xs, rfl, q1, q2⟩ := hd.list k3 (p.mono e3 (p.mono e2 hv))
    refine ⟨a, xs, rfl, q1, fun p hp => ?_⟩
    obtain ⟨s, k4⟩ := k3.cell (c := .lst (cutP ds lo hi)) (o := .lst (cutV xs lo hi)) hp (cut_dp q2)
    exact z _ _ _ ((e1.trans e2).trans e3) s k4
theorem ei_A {ds : List PyData} (h : Ec K tl ρ C p C1) (hd : Dat K C1 p (.list ds)) : Ei K (iList K tl) ρ C ds.length (fun i => pD K (ds.getD i .none)) C1 (fun C => Dat K C p (.list ds)) := fun σ H M R e k z =>
  h σ H M _ e k fun v H1 M1 e1 k1 hv => by
    obtain ⟨a, xs, rfl, q1, _⟩ := hd.list k1 hv
    refine ⟨a, rfl, ⟨xs, q1⟩, z _ H1 M1 e1 k1 fun C2 H2 M2 s2 k2 g2 => ?_⟩
    obtain ⟨a', xs, e', q3, q2⟩ := g2.list k2 (p.mono s2 hv)
    cases e'
    refine ⟨⟨xs, q3, by rw [dpAll_len q2]; exact Nat.le_refl _⟩, fun i hi => ⟨⟨xs, xs[i]'(by rw [dpAll_len q2]; exact hi), q3, List.getElem?_eq_getElem _⟩, fun x H3 y => ?_⟩⟩
    obtain ⟨rfl, y⟩ := y
    obtain ⟨d, e1, e2⟩ := dpAll_getV q2 (y xs q3)
    exact ⟨M2, Same.refl _, k2, by
      show Dp K M2 x (ds.getD i .none)
      rw [List.getD_eq_getElem?_getD, e1]; exact e2⟩
theorem ewk_listA {ds : List PyData} (hd : Dat K C p (.list ds)) : EkW K (fun xs H Q => ∃ p ys, xs = [.ref p] ∧ (SqL K H p ys ∨ SqT K H p ys) ∧ ∀ l, H l = none → Q (.ref l) (upd H l (.lst ys))) C [p] (.lst ds) C := fun xs H M Q k h z => by
  match xs, h with
  | [v], ⟨h, _⟩ =>
    obtain ⟨a, ys, rfl, h1, h2⟩ := hd.list k h
    refine ⟨a, ys, rfl, .inl h1, fun l hl => ?_⟩
    obtain ⟨n, k2⟩ := k.cell (c := .lst ds) (o := .lst ys) hl h2
    exact z l _ M (Same.refl _) n k2
/-- a new pair -/
theorem pair_new {M H : Hp} {T : Addr} {x y : V} {d e : PyData} (k : Ok K M C H) (hT : H T = none) (hx : Dp K M x d) (hy : Dp K M y e) : ∃ M', Same M M' ∧ Ok K M' C (upd H T (.tup [x, y])) ∧ Dp K M' (.ref T) (.tuple [d, e]) := by
  obtain ⟨s, k2⟩ := k.new (o := .tup [x, y]) hT
  exact ⟨_, s, k2, Dp.tup (.inl (.inl upd_same)) (.cons (dp_mono s hx) (.cons (dp_mono s hy) .nil))⟩
theorem ei_zip {ds es : List PyData} (h : Ea K ta ρ C [p, q] C1) (hp : Dat K C1 p (.list ds)) (hq : Dat K C1 q (.list es)) (hl : es.length = ds.length) :
    Ei K (RZ.iZipA K ta) ρ C ds.length (fun i => pD K (.tuple [ds.getD i .none, es.getD i .none])) C1 (fun C => Dat K C p (.list ds) ∧ Dat K C q (.list es)) := fun σ H M R e k z =>
  h σ H M _ e k fun vs H1 M1 e1 k1 hv => by
    match vs, hv with
    | [v, u], ⟨hv, hu, _⟩ =>
      obtain ⟨a, xs, rfl, q1, _⟩ := hp.list k1 hv
      obtain ⟨b, ys, rfl, q2, _⟩ := hq.list k1 hu
      refine ⟨a, b, xs, ys, rfl, .inl ⟨q1, q2, z _ H1 M1 e1 k1 fun C2 H2 M2 s2 k2 g2 => ?_⟩⟩
      obtain ⟨a', xs, e', r1, r2⟩ := g2.1.list k2 (p.mono s2 hv)
      cases e'
      obtain ⟨b', ys, e', t1, t2⟩ := g2.2.list k2 (q.mono s2 hu)
      cases e'
      have l1 := dpAll_len r2
      have l2 := dpAll_len t2
      refine ⟨⟨xs, ys, r1, t1, .inl (by omega)⟩, fun i hi => ⟨⟨xs, ys, xs[i]'(by omega), ys[i]'(by omega), r1, t1, List.getElem?_eq_getElem _, List.getElem?_eq_getElem _⟩, fun x H3 y => ?_⟩⟩
      obtain ⟨T, x1, y1, rfl, hT, rfl, f1, f2⟩ := y
      obtain ⟨d, d1, d2⟩ := dpAll_getV r2 (f1 xs r1)
      obtain ⟨e, e1, e2⟩ := dpAll_getV t2 (f2 ys t1)
      obtain ⟨M3, s3, k3, h3⟩ := pair_new k2 hT d2 e2
      refine ⟨M3, s3, k3, ?_⟩
      show Dp K M3 _ (.tuple [ds.getD i .none, es.getD i .none])
      rw [List.getD_eq_getElem?_getD, List.getD_eq_getElem?_getD, d1, e1]; exact h3
theorem ei_zipT {ds es : List PyData} (h : Ea K ta ρ C [pD K (.tuple ds), pD K (.tuple es)] C1) (hl : es.length = ds.length) :
    Ei K (RZ.iZipA K ta) ρ C ds.length (fun i => pD K (.tuple [ds.getD i .none, es.getD i .none])) C1 (fun _ => True) := fun σ H M R e k z =>
  h σ H M _ e k fun vs H1 M1 e1 k1 hv => by
    match vs, hv with
    | [v, u], ⟨hv, hu, _⟩ =>
      obtain ⟨a, xs, rfl, q1, r2⟩ := d_tup hv
      obtain ⟨b, ys, rfl, q2, t2⟩ := d_tup hu
      refine ⟨a, b, xs, ys, rfl, .inr ⟨sqT_mono k1.fz q1, sqT_mono k1.fz q2, z _ H1 M1 e1 k1 fun C2 H2 M2 s2 k2 _ => ?_⟩⟩
      have r1 := sqT_mono k2.fz (sqT_mono s2 q1)
      have t1 := sqT_mono k2.fz (sqT_mono s2 q2)
      have l1 := dpAll_len r2
      have l2 := dpAll_len t2
      refine ⟨⟨xs, ys, r1, t1, .inl (by omega)⟩, fun i hi => ⟨⟨xs, ys, xs[i]'(by omega), ys[i]'(by omega), r1, t1, List.getElem?_eq_getElem _, List.getElem?_eq_getElem _⟩, fun x H3 y => ?_⟩⟩
      obtain ⟨T, x1, y1, rfl, hT, rfl, f1, f2⟩ := y
      obtain ⟨d, d1, d2⟩ := dpAll_getV (dpAll_mono s2 r2) (f1 xs r1)
      obtain ⟨e, e1, e2⟩ := dpAll_getV (dpAll_mono s2 t2) (f2 ys t1)
      obtain ⟨M3, s3, k3, h3⟩ := pair_new k2 hT d2 e2
      refine ⟨M3, s3, k3, ?_⟩
      show Dp K M3 _ (.tuple [ds.getD i .none, es.getD i .none])
      rw [List.getD_eq_getElem?_getD, List.getD_eq_getElem?_getD, d1, e1]; exact h3
theorem ei_enum {ds : List PyData} (h : Ea K ta ρ C [p] C1) (hp : Dat K C1 p (.list ds)) : Ei K (iEnum K ta) ρ C ds.length (fun i => pD K (.tuple [.int (i : Int), ds.getD i .none])) C1 (fun C => Dat K C p (.list ds)) := fun σ H M R e k z =>
  h σ H M _ e k fun vs H1 M1 e1 k1 hv => by
    match vs, hv with
    | [v], ⟨hv, _⟩ =>
      obtain ⟨a, xs, rfl, q1, _⟩ := hp.list k1 hv
      refine ⟨a, xs, rfl, q1, z _ H1 M1 e1 k1 fun C2 H2 M2 s2 k2 g2 => ?_⟩
      obtain ⟨a', xs, e', r1, r2⟩ := g2.list k2 (p.mono s2 hv)
      cases e'
      have l1 := dpAll_len r2
      refine ⟨⟨xs, r1, by omega⟩, fun i hi => ⟨⟨xs, xs[i]'(by omega), r1, List.getElem?_eq_getElem _⟩, fun x H3 y => ?_⟩⟩
      obtain ⟨T, x1, rfl, hT, rfl, f1⟩ := y
      obtain ⟨d, d1, d2⟩ := dpAll_getV r2 (f1 xs r1)
      obtain ⟨M3, s3, k3, h3⟩ := pair_new k2 hT (Dp.int (i : Int)) d2
      refine ⟨M3, s3, k3, ?_⟩
      show Dp K M3 _ (.tuple [.int (i : Int), ds.getD i .none])
      rw [List.getD_eq_getElem?_getD, d1]; exact h3
/-- range(lo, hi, -1) -/
theorem ei_down {lo j : Int} (h : Ea K ta ρ C [pD K (.int lo), pD K (.int j), pD K (.int (-1))] C1) (h0 : -(2 ^ 62) ≤ lo) (h1 : lo < 2 ^ 62) (h2 : -(2 ^ 62) ≤ j) (h3 : j < 2 ^ 62) : Ei K (iRng3 ta) ρ C (lo - j).toNat (fun i => pD K (.int (lo - (i : Int)))) C1 (fun _ => True) := fun σ H M R e k z =>
  h σ H M _ e k fun vs H1 M1 e1 k1 hv => by
    match vs, hv with
    | [v, u, w], ⟨hv, hu, hw, _⟩ =>
      have := d_int hv; subst this
      have := d_int hu; subst this
      have := d_int hw; subst this
      refine ⟨lo, j, -1, _, rfl, RgC.neg h0 h1 h2 h3, z _ H1 M1 e1 k1 fun C2 H2 M2 _ k2 _ => ⟨Nat.le_refl _, fun i hi => ⟨hi, fun x H3 y => ?_⟩⟩⟩
      obtain ⟨rfl, rfl⟩ := y
      refine ⟨M2, Same.refl _, k2, ?_⟩
      have e : lo + (i : Nat) * (-1) = lo - (i : Int) := by omega
      rw [e]; exact Dp.int _
/-! targets of two -/
theorem egv_pair {i j : Nat} {vs : List Nat} {d e : PyData} (hi : i ∈ vs) (hj : j ∈ vs) : Egv K (gTup K 2 (gCons (gName i) (gCons (gName j) gNil))) ρ vs C (pD K (.tuple [d, e])) ((ρ.set i (some (pD K d))).set j (some (pD K e))) := fun v σ H M Q en k hv z => by
  obtain ⟨a, xs, rfl, h1, h2⟩ := d_tup hv
  cases h2 with
  | cons hx h2 =>
    cases h2 with
    | cons hy h2 =>
      cases h2
      exact ⟨a, _, rfl, sqT_mono k.fz h1, rfl, _, _, rfl, _, _, rfl, rfl, z _ H M (Same.refl _) (by rw [wipe_set hj, wipe_set hi]) ((en.set hx i).set hy j) k⟩
theorem eg_pair {i j : Nat} {d e : PyData} : Eg K (gTup K 2 (gCons (gName i) (gCons (gName j) gNil))) ρ C (pD K (.tuple [d, e])) ((ρ.set i (some (pD K d))).set j (some (pD K e))) C := fun v σ H M Q en k hv z => by
  obtain ⟨a, xs, rfl, h1, h2⟩ := d_tup hv
  cases h2 with
  | cons hx h2 =>
    cases h2 with
    | cons hy h2 =>
      cases h2
      exact ⟨a, _, rfl, sqT_mono k.fz h1, rfl, _, _, rfl, _, _, rfl, rfl, z _ H M (Same.refl _) ((en.set hx i).set hy j) k⟩
/-! more built-ins -/
theorem ek_all {bs : List Bool} : Ek K (rAll K) C [pD K (.list (bs.map PyData.bool))] (pD K (.bool (bs.all id))) C := fun xs H M Q k h z => by
  match xs, h with
  | [v], ⟨h, _⟩ =>
    obtain ⟨a, ys, rfl, h1, h2⟩ := d_lst h
    have := dpAll_bools h2; subst this
    exact ⟨a, bs, rfl, k.fz.seq h1, z _ H M (Same.refl _) k (.bl _)⟩
theorem ek_intB {b : Bool} : Ek K (fun xs H Q => (∃ i, xs = [.int i] ∧ Q (.int i) H) ∨ ∃ k, xs = [.bl k] ∧ Q (.int (if k then 1 else 0)) H) C [pD K (.bool b)] (pD K (.int (if b then 1 else 0))) C := fun xs H M Q k h z => by
  match xs, h with
  | [v], ⟨h, _⟩ => have := d_bl h; subst this; exact .inr ⟨b, rfl, z _ H M (Same.refl _) k (.int _)⟩
def isNone : PyData → Bool | .none => true | _ => false
theorem er_isN {d : PyData} : Er K (fun x y H Q => y = .non ∧ Q (.bl (decide (x = .non))) H) C (pD K d) (pD K .none) (pD K (.bool (isNone d))) C := fun x y H M Q k hx hy z => by
  have := d_non hy; subst this
  refine ⟨rfl, ?_⟩
  have e : decide (x = .non) = isNone d := by
    cases hx <;> simp [isNone]
  rw [e]
  exact z _ H M (Same.refl _) k (.bl _)
theorem er_isNA {d : PyData} (hd : Dat K C p d) : Er K (fun x y H Q => y = .non ∧ Q (.bl (decide (x = .non))) H) C p (pD K .none) (pD K (.bool (isNone d))) C := fun x y H M Q k hx hy z => by
  have := d_non hy; subst this
  refine ⟨rfl, ?_⟩
  have e : decide (x = .non) = isNone d := by
    have := hd.as M H x k hx
    cases this <;> simp [isNone]
  rw [e]
  exact z _ H M (Same.refl _) k (.bl _)
/-- x.clear(), x a list -/
theorem ec_clear {a : Addr} {ds : List PyData} (ho : Ec K to ρ C (pRef a) C1) (hc : C1 a = some (.lst ds)) : Ec K (tBM0 K "list" rClear to) ρ C (pD K .none) (updC C1 a (.lst [])) := fun σ H M Q e k z =>
  ho σ H M _ e k fun x H1 M1 e1 k1 hx => by
    have hx' : x = .ref a := hx
    subst hx'
    obtain ⟨xs, q1, q2⟩ := k1.lst hc
    exact ⟨.inl ⟨rfl, xs, .inl (.inl q1)⟩, a, xs, rfl, rfl, q1, z _ _ M1 e1 (k1.set hc (show DpAll K M1 [] [] from .nil)) .non⟩
end
theorem fn_never {P : Program} {w : World} {K : PySem.W.Frag} {mg : Str → Option Value} {base : Heap} {CX : CXT} {k : Nat} {f : Addr} {fd : FuncData} {ps : List Str} {sp : Sp} (h : ∀ vs H Q E, ¬ sp vs H Q E) : FnOk P w K mg base CX k f fd ps sp :=
  ⟨fun vs H Q E q => (h vs H Q E q).elim, fun _ _ _ _ _ _ _ _ _ _ _ _ _ q => (h _ _ _ _ q).elim⟩
theorem er_ipI {K : PySem.W.Frag} {C : Cs} {f : Int → Int → Int} {i j n : Int} (h : f i j = n) : Er K (ipI f) C (pD K (.int i)) (pD K (.int j)) (pD K (.int n)) C := by
  subst h
  exact er_scal (fun _ _ => d_int) (fun _ _ => d_int) (fun _ => .int _) fun H Q q => ⟨i, j, rfl, rfl, q⟩
/-! two cells -/
theorem upd2 {C : Cs} {a b : Addr} {p x y : Cell} (h : a ≠ b) : updC (updC (updC C b x) a p) b y = updC (updC C b y) a p := by
  rw [updC_comm (Ne.symm h), updC_updC]
  exact updC_comm h
theorem get2 {C : Cs} {a b : Addr} {p : Cell} (h : b ≠ a) {x : Option Cell} (e : C b = x) : updC C a p b = x := by
  rw [updC_ne h]; exact e
theorem none_ne {C : Cs} {a b : Addr} {p : Cell} (h : updC C a p b = none) : b ≠ a ∧ C b = none := by
  have : b ≠ a := fun e => by subst e; rw [updC_same] at h; cases h
  exact ⟨this, by rw [updC_ne this] at h; exact h⟩
theorem ec_neg {K : PySem.W.Frag} {ρ : En} {C C1 : Cs} {ta : TE} {i : Int} (h : Ec K ta ρ C (pD K (.int i)) C1) : Ec K (tUn (rU fun i => .int (-i)) ta) ρ C (pD K (.int (-i))) C1 :=
  ec_un h fun x H M Q k hx z => by have := d_int hx; subst this; exact ⟨_, rfl, z _ H M (Same.refl _) k (.int _)⟩
/-! ### tracked lists; sums of lists -/
section
variable {K : PySem.W.Frag} {ρ : En} {C C1 C2 C3 : Cs} {tl te to t : TE} {ta : TA} {p q : Pd} {M0 : Hp} {D : Ends} {u : TS} {c c' : Cell}
def pLP (K : PySem.W.Frag) (ds : List PyData) (M : Hp) (v : V) : Prop := ∃ (a : Addr) (xs : List V), v = .ref a ∧ M a = some (.lst xs) ∧ DpAll K M xs ds
/-- a frozen list that is tracked -/
def pL (K : PySem.W.Frag) (ds : List PyData) : Pd := ⟨pLP K ds, fun e ⟨a, xs, h1, h2, h3⟩ => ⟨a, xs, h1, e _ _ h2, dpAll_mono e h3⟩⟩
def Trk (K : PySem.W.Frag) (C : Cs) (p : Pd) (ds : List PyData) : Prop := ∀ (M H : Hp) (v : V), Ok K M C H → p.p M v → ∃ (a : Addr) (xs : List V), v = .ref a ∧ H a = some (.lst xs) ∧ DpAll K M xs ds
theorem trk_L {ds : List PyData} : Trk K C (pL K ds) ds := fun M H v k ⟨a, xs, h1, h2, h3⟩ => ⟨a, xs, h1, k.fz _ _ h2, h3⟩
theorem trk_C {a : Addr} {ds : List PyData} (h : C a = some (.lst ds)) : Trk K C (pRef a) ds := fun M H v k hv => by
  obtain ⟨xs, h1, h2⟩ := k.lst h
  exact ⟨a, xs, hv, h1, h2⟩
theorem Ew.listL {ds : List PyData} (h : Ew K t ρ C (.lst ds) C1) : Ec K t ρ C (pL K ds) C1 := fun σ H M Q e k z => h σ H M Q e k fun a H' M' s n k' => by
  obtain ⟨o, h1, h2, h3, h4⟩ := k'.freeze n
  cases o <;> first | exact False.elim h2 | skip
  rename_i xs
  exact z (.ref a) H' _ (s.trans h3) h4 ⟨a, xs, rfl, upd_same, dpAll_mono h3 h2⟩
theorem pL_D {ds : List PyData} (M : Hp) (v : V) (h : (pL K ds).p M v) : (pD K (.list ds)).p M v := by
  obtain ⟨a, xs, rfl, h2, h3⟩ := h
  exact Dp.lst (.inl (.inl h2)) h3
theorem er_cat {ds es : List PyData} (hp : Trk K C p ds) (hq : Trk K C q es) (hl : ds.length + es.length ≤ sizeLine) : ErW K rCat C p q (.lst (ds ++ es)) C := fun x y H M Q k hx hy z => by
  obtain ⟨a, xs, rfl, h1, h2⟩ := hp M H x k hx
  obtain ⟨b, ys, rfl, g1, g2⟩ := hq M H y k hy
  refine ⟨a, b, xs, ys, rfl, rfl, h1, g1, by rw [dpAll_len h2, dpAll_len g2]; exact hl, fun l hl => ?_⟩
  obtain ⟨n, k2⟩ := k.cell (c := .lst (ds ++ es)) (o := .lst (xs ++ ys)) hl (dpAll_append h2 g2)
  exact z l _ M (Same.refl _) n k2
theorem er_repL {ds : List PyData} {n : Int} (hp : Trk K C p ds) (h0 : -(2 ^ 63) ≤ n) (h1 : n < 2 ^ 63) (hl : ds.length * n.toNat ≤ sizeLine) : ErW K rRep C p (pD K (.int n)) (.lst (List.replicate n.toNat ds).flatten) C := fun x y H M Q k hx hy z => by
  obtain ⟨a, xs, rfl, q1, q2⟩ := hp M H x k hx
  have := d_int hy; subst this
  refine ⟨a, n, xs, rfl, rfl, q1, h0, h1, by rw [dpAll_len q2]; exact hl, fun l hl => ?_⟩
  obtain ⟨m, k2⟩ := k.cell (c := .lst (List.replicate n.toNat ds).flatten) (o := .lst (List.replicate n.toNat xs).flatten) hl (dpAll_flatrep q2 _)
  exact z l _ M (Same.refl _) m k2
/-! a new cell as an argument -/
theorem ek_sp {γ : Type} {A : γ → List Pd} {pre : γ → Cs → Prop} {r : γ → Pd} {eff : γ → Cs → Cs} {E : XK} (g : γ) (hp : pre g C) : Ek K (fun vs H Q => spF K A pre r eff vs H Q E) C (A g) (r g) (eff g C) := fun xs H M Q k h z => ⟨g, M, C, k, h, hp, fun v H' M' s k' hv => z v H' M' s k' hv⟩
theorem ec_call1W {sp : Sp} {E : XK} (h : Ew K te ρ C c C1) (hk : ∀ a, C1 a = none → Ek K (fun vs H Q => sp vs H Q E) (updC C1 a c) [pRef a] p (updC C1 a c')) : Ec K (tCall sp [] E (tCons te tNil)) ρ C p C1 := fun σ H M Q e k z =>
  h σ H M _ e k fun a H1 M1 e1 n1 k1 => by
    show sp ([.ref a] ++ []) H1 Q E
    rw [List.append_nil]
    exact hk a n1 [.ref a] H1 M1 Q k1 ⟨rfl, trivial⟩ fun v H2 M2 s2 k2 hv => z v H2 M2 (e1.trans s2) (k2.less (Sub.upd n1)) hv
/-! range by a step -/
theorem ei_step {j st : Int} (h : Ea K ta ρ C [pD K (.int 0), pD K (.int j), pD K (.int st)] C1) (h0 : 0 ≤ j) (h1 : j < 2 ^ 60) (h2 : 0 < st) (h3 : st < 1000) : Ei K (iRng3 ta) ρ C ((j + st - 1) / st).toNat (fun i => pD K (.int ((i : Int) * st))) C1 (fun _ => True) := fun σ H M R e k z =>
  h σ H M _ e k fun vs H1 M1 e1 k1 hv => by
    match vs, hv with
    | [v, u, w], ⟨hv, hu, hw, _⟩ =>
      have := d_int hv; subst this
      have := d_int hu; subst this
      have := d_int hw; subst this
      have b0 : 0 ≤ (j - 0 - 1) / st + 1 ∨ j = 0 := by
        by_cases hj : j = 0
        · exact .inr hj
        · have := Int.ediv_nonneg (show 0 ≤ j - 0 - 1 by omega) (show 0 ≤ st by omega)
          exact .inl (by omega)
      have hsz : Builtin.Range.rangeSize 0 j st = (((j + st - 1) / st).toNat : Int) := by
        unfold Builtin.Range.rangeSize
        rw [if_pos h2]
        by_cases hj : j = 0
        · subst hj
          have e0 : (0 + st - 1) / st = 0 := Int.ediv_eq_zero_of_lt (by omega) (by omega)
          rw [if_neg (by omega), e0]; rfl
        · have e0 : (j + st - 1) / st = (j - 0 - 1) / st + 1 := by
            rw [show j + st - 1 = (j - 0 - 1) + 1 * st by omega, Int.add_mul_ediv_right _ _ (by omega)]
          rw [if_pos (by omega), e0]
          rcases b0 with b | b <;> omega
      have hle : (j - 0 - 1) / st ≤ j := by
        by_cases hj : j = 0
        · subst hj; exact Int.le_trans (Int.ediv_le_ediv h2 (show (0 : Int) - 0 - 1 ≤ 0 by omega)) (by simp)
        · exact Int.le_trans (Int.ediv_le_self _ (by omega)) (by omega)
      have hsm : Builtin.Range.small 0 j st = true := by
        have hn : 0 ≤ (((j + st - 1) / st).toNat : Int) ∧ (((j + st - 1) / st).toNat : Int) ≤ j + 1 := by
          rw [← hsz]
          unfold Builtin.Range.rangeSize
          rw [if_pos h2]
          split
          · rcases b0 with b | b <;> omega
          · omega
        have hmul : (((j + st - 1) / st).toNat : Int) * st ≤ (j + 1) * 1000 := Int.mul_le_mul hn.2 (by omega) (by omega) (by omega)
        have hmul0 : 0 ≤ (((j + st - 1) / st).toNat : Int) * st := Int.mul_nonneg hn.1 (by omega)
        unfold Builtin.Range.small
        rw [hsz]
        simp only [Builtin.Range.rangeFitsLong, Bool.and_eq_true, Bool.or_eq_true, decide_eq_true_eq, beq_iff_eq]
        refine ⟨⟨⟨⟨⟨by omega, by omega⟩, by omega, by omega⟩, by omega, by omega⟩, by omega, by omega⟩, .inr ?_⟩
        rw [if_pos h2, decide_eq_true (by omega), decide_eq_true (by omega)]; rfl
      refine ⟨0, j, st, _, rfl, ⟨by omega, by omega, hsm, hsz⟩, z _ H1 M1 e1 k1 fun C2 H2 M2 _ k2 _ => ⟨Nat.le_refl _, fun i hi => ⟨hi, fun x H3 y => ?_⟩⟩⟩
      obtain ⟨rfl, rfl⟩ := y
      refine ⟨M2, Same.refl _, k2, ?_⟩
      rw [Int.zero_add]; exact Dp.int _
/-! cuts -/
theorem cut_to {α : Type} (l : List α) (m : Nat) : (l.drop (HT.sIx l.length 0 none)).take (HT.sIx l.length l.length (some (m : Int)) - HT.sIx l.length 0 none) = l.take m := by
  rw [HT.sIx_none, HT.sIx_nat, List.drop_zero, Nat.sub_zero]
  by_cases h : m ≤ l.length
  · rw [Nat.min_eq_left h]
  · rw [Nat.min_eq_right (by omega), List.take_length, List.take_of_length_le (by omega)]
theorem cut_from {α : Type} (l : List α) (m : Nat) : (l.drop (HT.sIx l.length 0 (some (m : Int)))).take (HT.sIx l.length l.length none - HT.sIx l.length 0 (some (m : Int))) = l.drop m := by
  rw [HT.sIx_none, HT.sIx_nat]
  by_cases h : m ≤ l.length
  · rw [Nat.min_eq_left h, List.take_of_length_le (by rw [List.length_drop]; omega)]
  · rw [Nat.min_eq_right (by omega), List.drop_of_length_le (Nat.le_refl _), List.drop_of_length_le (by omega), List.take_nil]
theorem cut_mid {α : Type} (l : List α) (p m : Nat) : (l.drop (HT.sIx l.length 0 (some (p : Int)))).take (HT.sIx l.length l.length (some ((p : Int) + (m : Int))) - HT.sIx l.length 0 (some (p : Int))) = (l.drop p).take m := by
  rw [HT.sIx_nat, show ((p : Int) + (m : Int)) = ((p + m : Nat) : Int) by omega, HT.sIx_nat]
  by_cases h : p ≤ l.length
  · rw [Nat.min_eq_left h]
    by_cases h2 : p + m ≤ l.length
    · rw [Nat.min_eq_left h2]; congr 1; omega
    · rw [Nat.min_eq_right (by omega), List.take_of_length_le (by rw [List.length_drop]; omega), List.take_of_length_le (by rw [List.length_drop]; omega)]
  · rw [Nat.min_eq_right (by omega), Nat.min_eq_right (by omega), List.drop_of_length_le (Nat.le_refl _), List.drop_of_length_le (by omega), List.take_nil, List.take_nil]
theorem cut_init {α : Type} (l : List α) : (l.drop (HT.sIx l.length 0 none)).take (HT.sIx l.length l.length (some (-1)) - HT.sIx l.length 0 none) = l.dropLast := by
  have e : HT.sIx l.length l.length (some (-1)) = l.length - 1 := by
    show (if (-1 : Int) < 0 then ((-1 : Int) + (l.length : Int)).toNat else min (-1 : Int).toNat l.length) = _
    rw [if_pos (by decide)]; omega
  rw [e, HT.sIx_none, List.drop_zero, Nat.sub_zero, List.dropLast_eq_take]
/-! texts' methods -/
end
/-- x * n, texts -/
def rMulS : R2 := fun x y H Q => ∃ a n, x = .str a ∧ y = .int n ∧ MulOk a n ∧ Q (.str (Txt.mul a n)) H
theorem op_mulS {X : Cx} : OpR X (binaryOp .Mult) rMulS := by
  intro pins s σ H x y v u Q I rx ry h
  obtain ⟨a, n, rfl, rfl, hok, q⟩ := h
  obtain ⟨t, rfl⟩ := rx
  obtain ⟨t', rfl⟩ := ry
  exact SB.mul hok fun t2 k => ⟨.str _, H, I.tok _, ⟨_, rfl⟩, q⟩
theorem er_mulS {K : PySem.W.Frag} {C : Cs} {x : Str} {n : Int} (h : MulOk x n) : Er K rMulS C (pD K (.str x)) (pD K (.int n)) (pD K (.str (Txt.mul x n))) C :=
  er_scal (fun _ _ => d_str) (fun _ _ => d_int) (fun _ => .str _) fun H Q q => ⟨x, n, rfl, rfl, h, q⟩
/-- s.m(t): a method of a text with one text -/
theorem ec_strM {K : PySem.W.Frag} {ρ : En} {C C1 C2 : Cs} {to te : TE} {a b : Str} {d : PyData} {r : V → List V → Hp → VK → Prop} (ho : Ec K to ρ C (pD K (.str a)) C1) (he : Ec K te ρ C1 (pD K (.str b)) C2) {z0 : V} (hz : ∀ M, Dp K M z0 d) (hr : ∀ H Q, Q z0 H → r (.str a) [.str b] H Q) :
    Ec K (tBM K "str" r to (tCons te tNil)) ρ C (pD K d) C2 := fun σ H M Q e k z =>
  ho σ H M _ e k fun x H1 M1 e1 k1 hx => by
    have := d_str hx; subst this
    refine ⟨rfl, he σ H1 M1 _ (e.mono e1) k1 fun y H2 M2 e2 k2 hy => ?_⟩
    have := d_str hy; subst this
    exact hr H2 Q (z _ H2 M2 (e1.trans e2) k2 (hz M2))
/-! garbage is dropped at the end -/
theorem Sub.none {C C1 : Cs} {a : Addr} (s : Sub C C1) (h : C1 a = Option.none) : C a = Option.none := by
  cases e : C a with
  | none => rfl
  | some c => rw [s a c e] at h; cases h
theorem RtW.less {K : PySem.W.Frag} {M0 : Hp} {R : VK} {c : Cell} {C C1 : Cs} (s : Sub C C1) (h : RtW K M0 R c C) : RtW K M0 R c C1 := fun a H M s1 n o => h a H M s1 (s.none n) (o.less s.both)
theorem Rt.less {K : PySem.W.Frag} {M0 : Hp} {R : VK} {p : Pd} {C C1 : Cs} (s : Sub C C1) (h : Rt K M0 R p C) : Rt K M0 R p C1 := fun v H M s1 o hv => h v H M s1 (o.less s) hv
/-! ### data that are not told word by word -/
/-- some datum with φ -/
def pE (K : PySem.W.Frag) (φ : PyData → Prop) : Pd := ⟨fun M v => ∃ d, φ d ∧ Dp K M v d, fun e ⟨d, h, h'⟩ => ⟨d, h, dp_mono e h'⟩⟩
/-- some whole number with φ -/
def pI (φ : Int → Prop) : Pd := ⟨fun _ v => ∃ i, φ i ∧ v = .int i, fun _ h => h⟩
def pBl (φ : Bool → Prop) : Pd := ⟨fun _ v => ∃ i, φ i ∧ v = .bl i, fun _ h => h⟩
def isZ (φ : Int → Prop) : PyData → Prop := fun d => ∃ i, d = .int i ∧ φ i
def isLs (φ : List PyData → Prop) : PyData → Prop := fun d => ∃ ds, d = .list ds ∧ φ ds
def isTx (φ : List Nat → Prop) : PyData → Prop := fun d => ∃ l, d = .str (sL l) ∧ φ l
/-- one int in a list -/
def pZ : Pd := pI fun _ => True
def purse : Cell := .lstP [pZ]
def EtE (K : PySem.W.Frag) (t : TT) (ρ : En) (C : Cs) (φ : Bool → Prop) (C' : Cs) : Prop := ∀ (σ : L2.St) (H M : Hp) (Q : Bool → Hp → Prop), EnvOk M ρ σ → Ok K M C H → (∀ b H' M', Same M M' → Ok K M' C' H' → φ b → Q b H') → t σ H Q
def EwE (K : PySem.W.Frag) (t : TE) (ρ : En) (C : Cs) (Φ : Cell → Prop) (C' : Cs) : Prop := ∀ (σ : L2.St) (H M : Hp) (Q : VK), EnvOk M ρ σ → Ok K M C H → (∀ a c H' M', Same M M' → Φ c → C' a = none → Ok K M' (updC C' a c) H' → Q (.ref a) H') → t σ H Q
def EoE (K : PySem.W.Frag) (t : TO) (ρ : En) (C : Cs) (φ : Option Int → Prop) (C' : Cs) : Prop := ∀ (σ : L2.St) (H M : Hp) (Q : Option Int → Hp → Prop), EnvOk M ρ σ → Ok K M C H → (∀ o H' M', Same M M' → Ok K M' C' H' → φ o → Q o H') → t σ H Q
section
variable {K : PySem.W.Frag} {M0 : Hp} {t u : TS} {te ta tb : TE} {D : Ends} {ρ ρ' : En} {C C1 C2 C' : Cs} {p q s : Pd} {c : Cell} {φ ψ : PyData → Prop} {f g : Int → Prop}
theorem Ec.toE {d : PyData} (h : Ec K te ρ C (pD K d) C') (hd : φ d) : Ec K te ρ C (pE K φ) C' := h.imp fun M v hv => ⟨d, hd, hv⟩
theorem Ec.mapE (h : Ec K te ρ C (pE K φ) C') (m : ∀ d, φ d → ψ d) : Ec K te ρ C (pE K ψ) C' := h.imp fun M v ⟨d, hd, hv⟩ => ⟨d, m d hd, hv⟩
theorem Ec.toI {i : Int} (h : Ec K te ρ C (pD K (.int i)) C') (hd : f i) : Ec K te ρ C (pI f) C' := h.imp fun M v hv => ⟨i, hd, d_int hv⟩
theorem Ec.mapI (h : Ec K te ρ C (pI f) C') (m : ∀ i, f i → g i) : Ec K te ρ C (pI g) C' := h.imp fun M v ⟨i, hd, hv⟩ => ⟨i, m i hd, hv⟩
theorem Ec.I_E (h : Ec K te ρ C (pI f) C') (m : ∀ i, f i → φ (.int i)) : Ec K te ρ C (pE K φ) C' := h.imp fun M v ⟨i, hd, hv⟩ => ⟨.int i, m i hd, by rw [hv]; exact .int i⟩
theorem Ec.E_I (h : Ec K te ρ C (pE K φ) C') (m : ∀ d, φ d → ∃ i, d = .int i ∧ f i) : Ec K te ρ C (pI f) C' := h.imp fun M v ⟨d, hd, hv⟩ => by
  obtain ⟨i, rfl, hf⟩ := m d hd
  exact ⟨i, hf, d_int hv⟩
theorem ec_op' {r : R2} (ha : Ec K ta ρ C p C1) (hb : Ec K tb ρ C1 q C2) (hr : Er K r C2 p q s C2) : Ec K (tOp r ta tb) ρ C s C2 := ec_op ha hb hr
theorem er_exL {r : R2} (h : ∀ d, φ d → Er K r C (pD K d) q s C') : Er K r C (pE K φ) q s C' := fun x y H M Q k ⟨d, hd, hx⟩ hy z => h d hd x y H M Q k hx hy z
theorem er_exR {r : R2} (h : ∀ d, φ d → Er K r C p (pD K d) s C') : Er K r C p (pE K φ) s C' := fun x y H M Q k hx ⟨d, hd, hy⟩ z => h d hd x y H M Q k hx hy z
theorem er_iL {r : R2} (h : ∀ i, f i → Er K r C (pD K (.int i)) q s C') : Er K r C (pI f) q s C' := fun x y H M Q k ⟨i, hi, hx⟩ hy z => h i hi x y H M Q k (by rw [hx]; exact .int i) hy z
theorem er_iR {r : R2} (h : ∀ i, f i → Er K r C p (pD K (.int i)) s C') : Er K r C p (pI f) s C' := fun x y H M Q k hx ⟨i, hi, hy⟩ z => h i hi x y H M Q k hx (by rw [hy]; exact .int i) z
theorem Er.toE {r : R2} {d : PyData} (h : Er K r C p q (pD K d) C') (hd : φ d) : Er K r C p q (pE K φ) C' := fun x y H M Q k hx hy z => h x y H M Q k hx hy fun v H' M' s' k' hv => z v H' M' s' k' ⟨d, hd, hv⟩
theorem Er.toI {r : R2} {i : Int} (h : Er K r C p q (pD K (.int i)) C') (hd : f i) : Er K r C p q (pI f) C' := fun x y H M Q k hx hy z => h x y H M Q k hx hy fun v H' M' s' k' hv => z v H' M' s' k' ⟨i, hd, d_int hv⟩
theorem Er.toB {r : R2} {b : Bool} {f : Bool → Prop} (h : Er K r C p q (pD K (.bool b)) C') (hd : f b) : Er K r C p q (pBl f) C' := fun x y H M Q k hx hy z => h x y H M Q k hx hy fun v H' M' s' k' hv => z v H' M' s' k' ⟨b, hd, d_bl hv⟩
/-- an operator on a number that isn't told -/
theorem ec_opI {r : R2} {n : Int → Int} (ha : Ec K ta ρ C p C1) (hb : Ec K tb ρ C1 (pI f) C2) (hr : ∀ i, f i → Er K r C2 p (pD K (.int i)) (pD K (.int (n i))) C2) : Ec K (tOp r ta tb) ρ C (pI fun m => ∃ i, f i ∧ m = n i) C2 :=
  ec_op ha hb (er_iR fun i hi => (hr i hi).toI ⟨i, hi, rfl⟩)
theorem ec_opIL {r : R2} {n : Int → Int} (ha : Ec K ta ρ C (pI f) C1) (hb : Ec K tb ρ C1 q C2) (hr : ∀ i, f i → Er K r C2 (pD K (.int i)) q (pD K (.int (n i))) C2) : Ec K (tOp r ta tb) ρ C (pI fun m => ∃ i, f i ∧ m = n i) C2 :=
  ec_op ha hb (er_iL fun i hi => (hr i hi).toI ⟨i, hi, rfl⟩)
theorem ec_opII {r : R2} {n : Int → Int → Int} (ha : Ec K ta ρ C (pI f) C1) (hb : Ec K tb ρ C1 (pI g) C2) (hr : ∀ i j, f i → g j → Er K r C2 (pD K (.int i)) (pD K (.int j)) (pD K (.int (n i j))) C2) : Ec K (tOp r ta tb) ρ C (pI fun m => ∃ i j, f i ∧ g j ∧ m = n i j) C2 :=
  ec_op ha hb (er_iL fun i hi => er_iR fun j hj => (hr i j hi hj).toI ⟨i, j, hi, hj, rfl⟩)
theorem ec_cmpI {r : R2} {n : Int → Bool} (ha : Ec K ta ρ C (pI f) C1) (hb : Ec K tb ρ C1 q C2) (hr : ∀ i, f i → Er K r C2 (pD K (.int i)) q (pD K (.bool (n i))) C2) : Ec K (tOp r ta tb) ρ C (pBl fun b => ∃ i, f i ∧ b = n i) C2 :=
  ec_op ha hb (er_iL fun i hi => (hr i hi).toB ⟨i, hi, rfl⟩)
theorem ec_cmpE {r : R2} {n : PyData → Bool} (ha : Ec K ta ρ C (pE K φ) C1) (hb : Ec K tb ρ C1 q C2) (hr : ∀ i, φ i → Er K r C2 (pD K i) q (pD K (.bool (n i))) C2) : Ec K (tOp r ta tb) ρ C (pBl fun b => ∃ i, φ i ∧ b = n i) C2 :=
  ec_op ha hb (er_exL fun i hi => (hr i hi).toB ⟨i, hi, rfl⟩)
/-! rules of lists of values -/
theorem ec_callK {ta : TA} {ps : List Pd} {sp : Sp} {E : XK} (h : Ea K ta ρ C ps C1) (hk : Ek K (fun vs H Q => sp vs H Q E) C1 ps s C2) : Ec K (tCall sp [] E ta) ρ C s C2 := fun σ H M Q e k z =>
  h σ H M _ e k fun vs H1 M1 e1 k1 h1 => by
    rw [List.append_nil]
    exact hk vs H1 M1 Q k1 h1 fun v H2 M2 s2 k2 hv => z v H2 M2 (e1.trans s2) k2 hv
theorem ek_ex0 {r : List V → Hp → VK → Prop} {ps : List Pd} (h : ∀ d, φ d → Ek K r C (pD K d :: ps) s C') : Ek K r C (pE K φ :: ps) s C' := fun xs H M Q k hx z => by
  match xs, hx with
  | x :: xs, ⟨⟨d, hd, h1⟩, h2⟩ => exact h d hd (x :: xs) H M Q k ⟨h1, h2⟩ z
theorem ek_ex1 {r : List V → Hp → VK → Prop} {ps : List Pd} (h : ∀ d, φ d → Ek K r C (p :: pD K d :: ps) s C') : Ek K r C (p :: pE K φ :: ps) s C' := fun xs H M Q k hx z => by
  match xs, hx with
  | x :: y :: xs, ⟨h0, ⟨d, hd, h1⟩, h2⟩ => exact h d hd (x :: y :: xs) H M Q k ⟨h0, h1, h2⟩ z
theorem ek_ex2 {r : List V → Hp → VK → Prop} {ps : List Pd} (h : ∀ d, φ d → Ek K r C (p :: q :: pD K d :: ps) s C') : Ek K r C (p :: q :: pE K φ :: ps) s C' := fun xs H M Q k hx z => by
  match xs, hx with
  | x :: y :: w :: xs, ⟨h0, h00, ⟨d, hd, h1⟩, h2⟩ => exact h d hd (x :: y :: w :: xs) H M Q k ⟨h0, h00, h1, h2⟩ z
theorem ek_i0 {r : List V → Hp → VK → Prop} {ps : List Pd} (h : ∀ i, f i → Ek K r C (pD K (.int i) :: ps) s C') : Ek K r C (pI f :: ps) s C' := fun xs H M Q k hx z => by
  match xs, hx with
  | x :: xs, ⟨⟨i, hi, h1⟩, h2⟩ => exact h i hi (x :: xs) H M Q k ⟨by rw [h1]; exact .int i, h2⟩ z
theorem ek_i1 {r : List V → Hp → VK → Prop} {ps : List Pd} (h : ∀ i, f i → Ek K r C (p :: pD K (.int i) :: ps) s C') : Ek K r C (p :: pI f :: ps) s C' := fun xs H M Q k hx z => by
  match xs, hx with
  | x :: y :: xs, ⟨h0, ⟨i, hi, h1⟩, h2⟩ => exact h i hi (x :: y :: xs) H M Q k ⟨h0, by rw [h1]; exact .int i, h2⟩ z
theorem ek_b0 {r : List V → Hp → VK → Prop} {ps : List Pd} {f : Bool → Prop} (h : ∀ i, f i → Ek K r C (pD K (.bool i) :: ps) s C') : Ek K r C (pBl f :: ps) s C' := fun xs H M Q k hx z => by
  match xs, hx with
  | x :: xs, ⟨⟨i, hi, h1⟩, h2⟩ => exact h i hi (x :: xs) H M Q k ⟨by rw [h1]; exact .bl i, h2⟩ z
theorem Ek.toI {r : List V → Hp → VK → Prop} {ps : List Pd} {i : Int} (h : Ek K r C ps (pD K (.int i)) C') (hd : f i) : Ek K r C ps (pI f) C' := fun xs H M Q k hx z => h xs H M Q k hx fun v H' M' s' k' hv => z v H' M' s' k' ⟨i, hd, d_int hv⟩
theorem Ek.mapI {r : List V → Hp → VK → Prop} {ps : List Pd} (h : Ek K r C ps (pI f) C') (m : ∀ i, f i → g i) : Ek K r C ps (pI g) C' := fun xs H M Q k hx z => h xs H M Q k hx fun v H' M' s' k' ⟨i, hi, hv⟩ => z v H' M' s' k' ⟨i, m i hi, hv⟩
theorem Ek.toE {r : List V → Hp → VK → Prop} {ps : List Pd} {d : PyData} (h : Ek K r C ps (pD K d) C') (hd : φ d) : Ek K r C ps (pE K φ) C' := fun xs H M Q k hx z => h xs H M Q k hx fun v H' M' s' k' hv => z v H' M' s' k' ⟨d, hd, hv⟩
theorem Ek.mapE {r : List V → Hp → VK → Prop} {ps : List Pd} (h : Ek K r C ps (pE K φ) C') (m : ∀ d, φ d → ψ d) : Ek K r C ps (pE K ψ) C' := fun xs H M Q k hx z => h xs H M Q k hx fun v H' M' s' k' ⟨i, hi, hv⟩ => z v H' M' s' k' ⟨i, m i hi, hv⟩
/-! displays -/
def AllD : List (PyData → Prop) → List PyData → Prop
  | [], [] => True
  | φ :: r, d :: ds => φ d ∧ AllD r ds
  | _, _ => False
theorem allE_data {M : Hp} : ∀ {φs : List (PyData → Prop)} {vs : List V}, AllP M (φs.map (pE K)) vs → ∃ ds, AllD φs ds ∧ DpAll K M vs ds
  | [], [], _ => ⟨[], trivial, .nil⟩
  | _ :: _, _ :: _, ⟨⟨d, hd, h⟩, t⟩ => by
    obtain ⟨ds, h1, h2⟩ := allE_data t
    exact ⟨d :: ds, ⟨hd, h1⟩, .cons h h2⟩
theorem allD_len : ∀ {φs : List (PyData → Prop)} {ds : List PyData}, AllD φs ds → ds.length = φs.length
  | [], [], _ => rfl
  | _ :: _, _ :: _, ⟨_, t⟩ => by rw [List.length_cons, List.length_cons, allD_len t]
def EaE (K : PySem.W.Frag) (t : TA) (ρ : En) (C : Cs) (φs : List (PyData → Prop)) (C' : Cs) : Prop := Ea K t ρ C (φs.map (pE K)) C'
theorem eae_nil : EaE K tNil ρ C [] C := ea_nil
theorem eae_cons {tr : TA} {φs : List (PyData → Prop)} (ha : Ec K ta ρ C (pE K φ) C1) (hr : EaE K tr ρ C1 φs C2) : EaE K (tCons ta tr) ρ C (φ :: φs) C2 := ea_cons ha hr
theorem ewe_lst {ta : TA} {φs : List (PyData → Prop)} (h : EaE K ta ρ C φs C1) (hl : φs.length ≤ sizeLine := by exact Nat.le_of_ble_eq_true rfl) : EwE K (tLst ta) ρ C (fun c => ∃ ds, c = .lst ds ∧ AllD φs ds) C1 := fun σ H M Q e k z =>
  h σ H M _ e k fun vs H1 M1 e1 k1 h1 => by
    obtain ⟨ds, a1, a2⟩ := allE_data h1
    have hl' : ds.length ≤ sizeLine := by rw [allD_len a1]; exact hl
    refine ⟨by rw [dpAll_len a2]; exact hl', fun p hp => ?_⟩
    obtain ⟨n, k2⟩ := k1.cell (c := .lst ds) (o := .lst vs) hp (show DpAll K M1 vs ds from a2)
    exact z p _ _ M1 e1 ⟨ds, rfl, a1⟩ n k2
theorem EwE.list {Φ : Cell → Prop} {φ : List PyData → Prop} (h : EwE K te ρ C Φ C') (m : ∀ c, Φ c → ∃ ds, c = .lst ds ∧ φ ds) : Ec K te ρ C (pE K (isLs φ)) C' := fun σ H M Q e k z => h σ H M Q e k fun a c H' M' s hc n k' => by
  obtain ⟨ds, rfl, hds⟩ := m c hc
  obtain ⟨o, h1, h2, h3, h4⟩ := k'.freeze n
  cases o <;> first | exact False.elim h2 | skip
  rename_i xs
  exact z (.ref a) H' _ (s.trans h3) h4 ⟨_, ⟨ds, rfl, hds⟩, Dp.lst (.inl (.inl upd_same)) (dpAll_mono h3 h2)⟩
theorem Ew.toE {Φ : Cell → Prop} (h : Ew K te ρ C c C') (hc : Φ c) : EwE K te ρ C Φ C' := fun σ H M Q e k z => h σ H M Q e k fun a H' M' s n k' => z a c H' M' s hc n k'
theorem EwE.map {Φ Ψ : Cell → Prop} (h : EwE K te ρ C Φ C') (m : ∀ c, Φ c → Ψ c) : EwE K te ρ C Ψ C' := fun σ H M Q e k z => h σ H M Q e k fun a c H' M' s hc n k' => z a c H' M' s (m c hc) n k'
/-! tests -/
theorem ete_test {t : TE} {f : Bool → Prop} (h : Ec K t ρ C (pBl f) C') : EtE K (tTest t) ρ C f C' := fun σ H M Q e k z => h σ H M _ e k fun v H' M' s k' ⟨b, hb, hv⟩ => ⟨b, hv, z b H' M' s k' hb⟩
theorem Et.toE {t : TT} {b : Bool} {f : Bool → Prop} (h : Et K t ρ C b C') (hb : f b) : EtE K t ρ C f C' := fun σ H M Q e k z => h σ H M _ e k fun H' M' s k' => z b H' M' s k' hb
theorem ete_not {t : TT} {f : Bool → Prop} (h : EtE K t ρ C f C1) : EtE K (tNot t) ρ C (fun b => f !b) C1 := fun σ H M Q e k z => h σ H M _ e k fun b H1 M1 s k1 hb => z (!b) H1 M1 s k1 (by show f (!!b); rw [Bool.not_not]; exact hb)
/-! statements -/
theorem ex_asgE {i : Nat} (h : Ec K te ρ C (pE K φ) C1) (k : ∀ d, φ d → Nx K M0 D.nx (ρ.set i (some (pD K d))) C1) : Ex K M0 (tAsg te (gName i)) D ρ C := fun σ H M s e o =>
  h σ H M _ e o fun v H1 M1 s1 o1 ⟨d, hd, hv⟩ => k d hd _ H1 M1 (s.trans s1) ((e.mono s1).set (p := pD K d) hv i) o1
theorem ex_asgI {i : Nat} (h : Ec K te ρ C (pI f) C1) (k : ∀ n, f n → Nx K M0 D.nx (ρ.set i (some (pD K (.int n)))) C1) : Ex K M0 (tAsg te (gName i)) D ρ C := fun σ H M s e o =>
  h σ H M _ e o fun v H1 M1 s1 o1 ⟨n, hd, hv⟩ => k n hd _ H1 M1 (s.trans s1) ((e.mono s1).set (p := pD K (.int n)) (by rw [hv]; exact .int n) i) o1
theorem ex_asgWE {i : Nat} {Φ : Cell → Prop} (h : EwE K te ρ C Φ C1) (k : ∀ a c, Φ c → C1 a = none → Nx K M0 D.nx (ρ.set i (some (pRef a))) (updC C1 a c)) : Ex K M0 (tAsg te (gName i)) D ρ C := fun σ H M s e o =>
  h σ H M _ e o fun a c H1 M1 s1 hc n1 o1 => k a c hc n1 _ H1 M1 (s.trans s1) ((e.mono s1).set (show (pRef a).p M1 (.ref a) from rfl) i) o1
theorem ex_sasgE {i : Nat} (h : Ec K te ρ C (pE K φ) C1) (k : ∀ d, φ d → Ex K M0 u D (ρ.set i (some (pD K d))) C1) : Ex K M0 (tSeq (tAsg te (gName i)) u) D ρ C := ex_seq (ex_asgE h k)
theorem ex_sasgI {i : Nat} (h : Ec K te ρ C (pI f) C1) (k : ∀ n, f n → Ex K M0 u D (ρ.set i (some (pD K (.int n)))) C1) : Ex K M0 (tSeq (tAsg te (gName i)) u) D ρ C := ex_seq (ex_asgI h k)
theorem ex_sasgWE {i : Nat} {Φ : Cell → Prop} (h : EwE K te ρ C Φ C1) (k : ∀ a c, Φ c → C1 a = none → Ex K M0 u D (ρ.set i (some (pRef a))) (updC C1 a c)) : Ex K M0 (tSeq (tAsg te (gName i)) u) D ρ C := ex_seq (ex_asgWE h k)
theorem ex_ifE {tc : TT} {f : Bool → Prop} (h : EtE K tc ρ C f C1) (h1 : f true → Ex K M0 t D ρ C1) (h2 : f false → Ex K M0 u D ρ C1) : Ex K M0 (tIfS tc t u) D ρ C := fun σ H M s e o =>
  h σ H M _ e o fun b H1 M1 s1 o1 hb => by
    cases b with
    | true => rw [if_pos rfl]; exact h1 hb σ H1 M1 (s.trans s1) (e.mono s1) o1
    | false => rw [if_neg Bool.false_ne_true]; exact h2 hb σ H1 M1 (s.trans s1) (e.mono s1) o1
theorem ex_sif0E {tc : TT} {f : Bool → Prop} (h : EtE K tc ρ C f C1) (h1 : f true → Ex K M0 t { D with nx := u D } ρ C1) (h2 : f false → Ex K M0 u D ρ C1) : Ex K M0 (tSeq (tIfS tc t tNext) u) D ρ C := ex_seq (ex_ifE h h1 h2)
theorem ec_ifEE {t : TT} {f : Bool → Prop} (h : EtE K t ρ C f C1) (h1 : f true → Ec K ta ρ C1 p C2) (h2 : f false → Ec K tb ρ C1 p C2) : Ec K (tIf t ta tb) ρ C p C2 := fun σ H M Q e k z => h σ H M _ e k fun b H1 M1 s k1 hb => by
  cases b with
  | true => rw [if_pos rfl]; exact h1 hb σ H1 M1 Q (e.mono s) k1 fun v H2 M2 s2 k2 hv => z v H2 M2 (s.trans s2) k2 hv
  | false => rw [if_neg Bool.false_ne_true]; exact h2 hb σ H1 M1 Q (e.mono s) k1 fun v H2 M2 s2 k2 hv => z v H2 M2 (s.trans s2) k2 hv
theorem Rt.ofE {R : VK} {d : PyData} (h : Rt K M0 R (pE K φ) C) (hd : φ d) : Rt K M0 R (pD K d) C := fun v H M s o hv => h v H M s o ⟨d, hd, hv⟩
theorem Rt.ofI {R : VK} {i : Int} (h : Rt K M0 R (pI f) C) (hd : f i) : Rt K M0 R (pD K (.int i)) C := fun v H M s o hv => h v H M s o ⟨i, hd, d_int hv⟩
theorem Rt.imp {R : VK} (h : Rt K M0 R p C) (m : ∀ M v, q.p M v → p.p M v) : Rt K M0 R q C := fun v H M s o hv => h v H M s o (m M v hv)
/-! a loop over what isn't told -/
def EiX {ι : Type} (K : PySem.W.Frag) (wi : TI) (ρ : En) (C : Cs) (φ : ι → Prop) (n : ι → Nat) (item : ι → Nat → Pd) (C' : Cs) (G : ι → Cs → Prop) : Prop := ∀ (σ : L2.St) (H M : Hp) (R : It → Hp → Prop), EnvOk M ρ σ → Ok K M C H →
  (∀ x, φ x → ∀ J H' M', Same M M' → Ok K M' C' H' →
    (∀ C2 H2 M2, Same M' M2 → Ok K M2 C2 H2 → G x C2 → J.stop (n x) H2 ∧ ∀ i, i < n x → J.go i H2 ∧ ∀ y H3, J.yld i H2 y H3 → ∃ M3, Same M2 M3 ∧ Ok K M3 C2 H3 ∧ (item x i).p M3 y) → R J H') → wi σ H R
structure ForOb (K : PySem.W.Frag) (M0 : Hp) (g : TG) (tb : TS) (D : Ends) (n : Nat) (item : Nat → Pd) (G : Cs → Prop) (ρ : En) (C1 : Cs) : Prop where
  ob : ∃ (I : Nat → En → Cs → Prop) (ρ0 : En) (C0 : Cs), EnvLe ρ ρ0 ∧ Sub C0 C1 ∧ I 0 ρ0 C0 ∧ (∀ i ρ C, i ≤ n → I i ρ C → G C) ∧
    (∀ M1, Same M0 M1 → ∀ i ρ C, i < n → I i ρ C → ∃ ρ2 C2, Eg K g ρ C (item i) ρ2 C2 ∧ Ex K M1 tb { D with nx := NI K M1 (I (i + 1)), ct := NI K M1 (I (i + 1)), bk := D.nx } ρ2 C2) ∧
    (∀ ρ C, I n ρ C → Nx K M0 D.nx ρ C)
theorem for_ob {g : TG} {tb : TS} {n : Nat} {item : Nat → Pd} {G : Cs → Prop} (I : Nat → En → Cs → Prop) {ρ0 : En} {C0 : Cs} (he : EnvLe ρ ρ0) (hc : Sub C0 C1) (h0 : I 0 ρ0 C0) (hG : ∀ i ρ C, i ≤ n → I i ρ C → G C)
    (turn : ∀ M1, Same M0 M1 → ∀ i ρ C, i < n → I i ρ C → ∃ ρ2 C2, Eg K g ρ C (item i) ρ2 C2 ∧ Ex K M1 tb { D with nx := NI K M1 (I (i + 1)), ct := NI K M1 (I (i + 1)), bk := D.nx } ρ2 C2)
    (done : ∀ ρ C, I n ρ C → Nx K M0 D.nx ρ C) : ForOb K M0 g tb D n item G ρ C1 := ⟨I, ρ0, C0, he, hc, h0, hG, turn, done⟩
theorem ex_forX {ι : Type} {wi : TI} {g : TG} {tb : TS} {φ : ι → Prop} {n : ι → Nat} {item : ι → Nat → Pd} {G : ι → Cs → Prop} (hi : EiX K wi ρ C φ n item C1 G) (ob : ∀ x, φ x → ForOb K M0 g tb D (n x) (item x) (G x) ρ C1) : Ex K M0 (tFor wi g tb) D ρ C := fun σ H M s e o => by
  refine hi σ H M _ e o fun x hx J H1 M1 s1 o1 hw => ?_
  obtain ⟨I, ρ0, C0, he, hc, h0, hG, turn, done⟩ := (ob x hx).ob
  refine ⟨fun i m σ H => m = n x - i ∧ i ≤ n x ∧ NI K M1 (I i) σ H, ⟨n x, by simp, Nat.zero_le _, ρ0, C0, M1, h0, Same.refl _, he _ _ (e.mono s1), o1.less hc⟩, ?_⟩
  rintro i m σ H ⟨rfl, hin, ρ2, C2, M2, hI, s12, e2, o2⟩
  obtain ⟨w1, w2⟩ := hw C2 H M2 s12 o2 (hG i ρ2 C2 hin hI)
  by_cases hlt : i < n x
  · obtain ⟨w3, w4⟩ := w2 i hlt
    refine .inr ⟨w3, NI K M1 (I (i + 1)), fun σ' H' h => ⟨n x - (i + 1), by omega, rfl, hlt, h⟩, fun y H' hy => ?_⟩
    obtain ⟨M3, s3, o3, hx⟩ := w4 y H' hy
    obtain ⟨ρ4, C4, hg, hb⟩ := turn M1 (s.trans s1) i ρ2 C2 hlt hI
    exact hg y σ H' M3 _ (e2.mono s3) o3 hx fun σ' H4 M4 s4 e4 o4 => hb σ' H4 M4 ((s12.trans s3).trans s4) e4 o4
  · have e' : i = n x := by omega
    subst e'
    exact .inl ⟨w1, done ρ2 C2 hI σ H M2 ((s.trans s1).trans s12) e2 o2⟩
/-- a loop over a list that isn't told -/
theorem eiX_list {φ : List PyData → Prop} (h : Ec K te ρ C (pE K (isLs φ)) C1) : EiX K (iList K te) ρ C φ List.length (fun ds i => pD K (ds.getD i .none)) C1 (fun _ _ => True) := fun σ H M R e k z =>
  h σ H M _ e k fun v H1 M1 s1 k1 ⟨d, ⟨ds, hd, hds⟩, hv⟩ => by
    subst hd
    obtain ⟨a, xs, rfl, q1, q2⟩ := d_lst hv
    refine ⟨a, rfl, ⟨xs, k1.fz.seq q1⟩, z ds hds _ H1 M1 s1 k1 fun C2 H2 M2 s2 k2 _ => ?_⟩
    have q3 : SqL K H2 a xs := k2.fz.seq (s2.seq q1)
    refine ⟨⟨xs, q3, by rw [dpAll_len q2]; exact Nat.le_refl _⟩, fun i hi => ⟨⟨xs, xs[i]'(by rw [dpAll_len q2]; exact hi), q3, List.getElem?_eq_getElem _⟩, fun x H3 y => ?_⟩⟩
    obtain ⟨rfl, y⟩ := y
    obtain ⟨d, e1, e2⟩ := dpAll_getV q2 (y xs q3)
    exact ⟨M2, Same.refl _, k2, by
      show Dp K M2 x (ds.getD i .none)
      rw [List.getD_eq_getElem?_getD, e1]; exact dp_mono s2 e2⟩
/-- a comprehension of things that aren't told -/
theorem ewe_lc {wi : TI} {g : TG} {tt : TT} {te : TE} {vs : List Nat} {n : Nat} {item : Nat → Pd} {G : Cs → Prop} (hi : Ei K wi ρ C n item C1 G) (φ : Nat → PyData → Prop) (hG : ∀ B, Sub C1 B → G B) (hn : n < sizeLine)
    (turn : ∀ i, i < n → ∀ B, Sub C1 B → ∃ ρ2, Egv K g (wipeR ρ vs) vs B (item i) ρ2 ∧ Et K tt ρ2 B true B ∧ Ec K te ρ2 B (pE K (φ i)) B) :
    EwE K (tLc wi g tt te vs) ρ C (fun c => ∃ ds, c = .lst ds ∧ ds.length = n ∧ ∀ i d, ds[i]? = some d → φ i d) C1 := fun σ H M Q e k z => by
  refine hi σ H M _ e k fun J H1 M1 s1 k1 hw D hD => ?_
  have hC1 : C1 D = none := (k1.free hD).2
  have P0 : Ok K M1 (updC C1 D (.lst [])) (upd H1 D (.lst [])) := (k1.cell (c := .lst []) (o := .lst []) hD (show DpAll K M1 [] [] from .nil)).2
  refine ⟨fun i m H => m = n - i ∧ i ≤ n ∧ ∃ M2 ds, ds.length = i ∧ (∀ j d, ds[j]? = some d → φ j d) ∧ Same M1 M2 ∧ Ok K M2 (updC C1 D (.lst ds)) H, ⟨n, by simp, Nat.zero_le _, M1, [], rfl, fun j d hd => by simp at hd, Same.refl _, P0⟩, ?_⟩
  rintro i m H2 ⟨rfl, hin, M2, ds, hl, hds, s2, k2⟩
  have hsub : Sub C1 (updC C1 D (.lst ds)) := Sub.upd hC1
  obtain ⟨w1, w2⟩ := hw _ H2 M2 s2 k2 (hG _ hsub)
  by_cases hlt : i < n
  · obtain ⟨w3, w4⟩ := w2 i hlt
    refine .inr ⟨w3, fun H' => ∃ M3 ds, ds.length = i + 1 ∧ (∀ j d, ds[j]? = some d → φ j d) ∧ Same M1 M3 ∧ Ok K M3 (updC C1 D (.lst ds)) H', fun H' h => ⟨n - (i + 1), by omega, rfl, hlt, h⟩, fun x H3 y => ?_⟩
    obtain ⟨M3, s3, k3, hx⟩ := w4 x H3 y
    obtain ⟨ρ2, t1, t2, t3⟩ := turn i hlt _ hsub
    refine t1 x _ H3 M3 _ ((((e.mono s1).mono s2).mono s3).wipe vs) k3 hx fun σ4 H4 M4 s4 hwp e4 k4 => ⟨by rw [hwp, wipe_wipe], ?_⟩
    refine t2 σ4 H4 M4 _ e4 k4 fun H5 M5 s5 k5 => ?_
    rw [if_pos rfl]
    refine t3 σ4 H5 M5 _ (e4.mono s5) k5 fun v H6 M6 s6 k6 ⟨d, hd, hv⟩ => ?_
    obtain ⟨acc, a1, a2⟩ := k6.lst updC_same
    refine ⟨acc, a1, by rw [dpAll_len a2, hl]; omega, M6, ds ++ [d], by rw [List.length_append, hl]; rfl, fun j e he => ?_, ((((s2.trans s3).trans s4).trans s5).trans s6), ?_⟩
    · by_cases hj : j < ds.length
      · rw [List.getElem?_append_left hj] at he; exact hds j e he
      · rw [List.getElem?_append_right (by omega)] at he
        have hj2 : j - ds.length = 0 := by
          rcases Nat.eq_zero_or_pos (j - ds.length) with h | h
          · exact h
          · rw [List.getElem?_eq_none (by simp only [List.length_cons, List.length_nil]; omega)] at he; cases he
        rw [hj2] at he
        have he : d = e := by simpa using he
        subst he
        rw [show j = i by omega]; exact hd
    · have := k6.set (c' := .lst (ds ++ [d])) (o := .lst (acc ++ [v])) updC_same (by
        show DpAll K M6 (acc ++ [v]) (ds ++ [d])
        exact dpAll_append a2 (.cons hv .nil))
      rw [updC_updC] at this
      exact this
  · have e' : i = n := by omega
    subst e'
    exact .inl ⟨w1, z D _ H2 M2 (s1.trans s2) ⟨ds, rfl, hl, hds⟩ hC1 k2⟩
/-- the purse opened and closed -/
theorem Ok.recell {M H : Hp} {a : Addr} {o : HO} (k : Ok K M C H) (hM : M a = none) (hH : H a = some o) (ho : CellOk K M c o) : Ok K M (updC C a c) H := ⟨k.fz, fun b d e => by
  by_cases hb : b = a
  · subst hb; rw [updC_same] at e; cases e; exact ⟨hM, o, hH, ho⟩
  · rw [updC_ne hb] at e; exact k.cs b d e⟩
theorem Ok.unpurse {M H : Hp} {a : Addr} (k : Ok K M C H) (h : C a = some purse) : ∃ i : Int, Ok K M (updC C a (.lst [.int i])) H := by
  obtain ⟨hM, o, h1, h2⟩ := k.cs a _ h
  cases o <;> first | exact False.elim h2 | skip
  rename_i xs
  match xs, h2 with
  | [x], ⟨⟨i, _, hx⟩, _⟩ =>
    subst hx
    exact ⟨i, k.recell hM h1 (show DpAll K M [.int i] [.int i] from .cons (.int i) .nil)⟩
theorem Ok.shut {M H : Hp} {a : Addr} {i : Int} (k : Ok K M (updC C a (.lst [.int i])) H) (h : C a = some purse) : Ok K M C H := by
  obtain ⟨hM, o, h1, h2⟩ := k.cs a _ updC_same
  cases o <;> first | exact False.elim h2 | skip
  rename_i xs
  have e : xs = [.int i] := dpAll_ints (ns := [i]) h2
  subst e
  have := k.recell (c := purse) hM h1 (show AllP M [pZ] [.int i] from ⟨⟨i, trivial, rfl⟩, trivial⟩)
  rw [updC_updC, updC_self h] at this
  exact this
theorem ex_open {a : Addr} (h : C a = some purse) (k : ∀ i : Int, Ex K M0 t D ρ (updC C a (.lst [.int i]))) : Ex K M0 t D ρ C := fun σ H M s e o => by
  obtain ⟨i, o'⟩ := o.unpurse h
  exact k i σ H M s e o'
theorem Rt.open {R : VK} {a : Addr} {i : Int} (k : Rt K M0 R p C) (h : C a = some purse) : Rt K M0 R p (updC C a (.lst [.int i])) := fun v H M s o hv => k v H M s (o.shut h) hv
theorem RtW.imp {R : VK} {c' : Cell} (k : RtW K M0 R c C) (m : ∀ M o, CellOk K M c' o → CellOk K M c o) : RtW K M0 R c' C := fun a H M s n o => k a H M s n (by
  obtain ⟨hM, ob, h1, h2⟩ := o.cs a _ updC_same
  have := o.recell (c := c) hM h1 (m M ob h2)
  rw [updC_updC] at this
  exact this)
theorem purse_of {i : Int} (M : Hp) (o : HO) (h : CellOk K M (.lst [.int i]) o) : CellOk K M purse o := by
  cases o <;> first | exact False.elim h | skip
  rename_i xs
  have e : xs = [.int i] := dpAll_ints (ns := [i]) h
  subst e
  exact ⟨⟨i, trivial, rfl⟩, trivial⟩
theorem ec_orVE {f g : Bool → Prop} (h1 : Ec K ta ρ C (pBl f) C1) (h2 : Ec K tb ρ C1 (pBl g) C1) : Ec K (tOrV ta tb) ρ C (pBl fun _ => True) C1 := fun σ H M Q e k z => h1 σ H M _ e k fun v H1 M1 s k1 ⟨a, _, hv⟩ => ⟨a, hv, by
  cases a with
  | false => rw [if_neg Bool.false_ne_true]; exact h2 σ H1 M1 Q (e.mono s) k1 fun v2 H2 M2 s2 k2 ⟨b, _, hv2⟩ => z v2 H2 M2 (s.trans s2) k2 ⟨b, trivial, hv2⟩
  | true => rw [if_pos rfl]; exact z _ H1 M1 s k1 ⟨true, trivial, rfl⟩⟩
theorem ec_andVE {f g : Bool → Prop} (h1 : Ec K ta ρ C (pBl f) C1) (h2 : Ec K tb ρ C1 (pBl g) C1) : Ec K (tAndV ta tb) ρ C (pBl fun _ => True) C1 := fun σ H M Q e k z => h1 σ H M _ e k fun v H1 M1 s k1 ⟨a, _, hv⟩ => ⟨a, hv, by
  cases a with
  | true => rw [if_pos rfl]; exact h2 σ H1 M1 Q (e.mono s) k1 fun v2 H2 M2 s2 k2 ⟨b, _, hv2⟩ => z v2 H2 M2 (s.trans s2) k2 ⟨b, trivial, hv2⟩
  | false => rw [if_neg Bool.false_ne_true]; exact z _ H1 M1 s k1 ⟨false, trivial, rfl⟩⟩
theorem Ec.toB {b : Bool} {f : Bool → Prop} (h : Ec K te ρ C (pD K (.bool b)) C') (hd : f b) : Ec K te ρ C (pBl f) C' := h.imp fun M v hv => ⟨b, hd, d_bl hv⟩
/-- int(b) -/
theorem ec_intBE {f : Bool → Prop} (h : Ec K te ρ C (pBl f) C1) : Ec K (tCB (fun xs H Q => (∃ i, xs = [.int i] ∧ Q (.int i) H) ∨ ∃ k, xs = [.bl k] ∧ Q (.int (if k then 1 else 0)) H) (tCons te tNil)) ρ C (pI fun i => i = 0 ∨ i = 1) C1 :=
  ec_cb (ea_cons h ea_nil) (ek_b0 fun b _ => ek_intB.toI (by cases b; exact .inl rfl; exact .inr rfl))
theorem allD_rep {φ : PyData → Prop} : ∀ {n : Nat} {ds : List PyData}, AllD (List.replicate n φ) ds → ∀ i, i < n → ∃ d, ds[i]? = some d ∧ φ d
  | 0, _, _, i, hi => by omega
  | n + 1, d :: ds, ⟨h, _⟩, 0, _ => ⟨d, rfl, h⟩
  | n + 1, d :: ds, ⟨_, t⟩, i + 1, hi => allD_rep (n := n) t i (by omega)
theorem eae_rep {tr : TA} {n : Nat} (ha : Ec K ta ρ C (pE K φ) C1) (hr : EaE K tr ρ C1 (List.replicate n φ) C2) : EaE K (tCons ta tr) ρ C (List.replicate (n + 1) φ) C2 := eae_cons ha hr
/-- [..][i] of numbers that aren't told -/
theorem ec_pick {ta : TA} {n : Nat} (ha : EaE K ta ρ C (List.replicate n φ) C1) (hn : n ≤ 1000) (hb : Ec K tb ρ C1 (pI g) C2) (hg : ∀ i, g i → 0 ≤ i ∧ i < (n : Int)) : Ec K (tOp (rIxL K) (tLst ta) tb) ρ C (pE K φ) C2 := by
  refine ec_op (EwE.list (φ := AllD (List.replicate n φ)) (ewe_lst ha (by rw [List.length_replicate]; exact Nat.le_trans hn (by decide))) fun c h => h) hb (er_exL fun d hd => er_iR fun i hi => ?_)
  obtain ⟨ds, rfl, hds⟩ := hd
  obtain ⟨d, h1, h2⟩ := allD_rep hds i.toNat (by have := hg i hi; omega)
  have e := atI_nat (j := i.toNat) h1
  rw [show ((i.toNat : Nat) : Int) = i by have := hg i hi; omega] at e
  exact (er_ixL e).toE h2
/-- x.append(y), y not told -/
theorem ex_appendE {to : TE} {a : Addr} {ds : List PyData} (ho : Ec K to ρ C (pRef a) C) (h0 : C a = some (.lst ds)) (h : Ec K te ρ C (pE K φ) C) (hl : ds.length < sizeLine) (k : ∀ d, φ d → Nx K M0 D.nx ρ (updC C a (.lst (ds ++ [d])))) :
    Ex K M0 (tDrop (tBM K "list" rAppend to (tCons te tNil))) D ρ C := fun σ H M s e o =>
  ho σ H M _ e o fun x H1 M1 e1 k1 hx => by
    have hx' : x = .ref a := hx
    subst hx'
    obtain ⟨xs, q1, q2⟩ := k1.lst h0
    refine ⟨.inl ⟨rfl, xs, .inl (.inl q1)⟩, h σ H1 M1 _ (e.mono e1) k1 fun y H2 M2 e2 k2 ⟨d, hd, hy⟩ => ?_⟩
    obtain ⟨xs, q1, q2⟩ := k2.lst h0
    exact ⟨a, xs, y, rfl, rfl, q1, by rw [dpAll_len q2]; exact hl, k d hd σ _ M2 (s.trans (e1.trans e2)) (e.mono (e1.trans e2)) (k2.set h0 (dpAll_append q2 (.cons hy .nil)))⟩
theorem ex_sappendE {to : TE} {a : Addr} {ds : List PyData} (ho : Ec K to ρ C (pRef a) C) (h0 : C a = some (.lst ds)) (h : Ec K te ρ C (pE K φ) C) (hl : ds.length < sizeLine) (k : ∀ d, φ d → Ex K M0 u D ρ (updC C a (.lst (ds ++ [d])))) :
    Ex K M0 (tSeq (tDrop (tBM K "list" rAppend to (tCons te tNil))) u) D ρ C := ex_seq (ex_appendE ho h0 h hl k)
def isTp (φ : List PyData → Prop) : PyData → Prop := fun d => ∃ ds, d = .tuple ds ∧ φ ds
theorem ec_tupE {ta : TA} {φs : List (PyData → Prop)} (h : EaE K ta ρ C φs C') (hl : φs.length ≤ sizeLine := by exact Nat.le_of_ble_eq_true rfl) : Ec K (tTup ta) ρ C (pE K (isTp (AllD φs))) C' := fun σ H M Q e k z =>
  h σ H M _ e k fun vs H1 M1 e1 k1 h1 => by
    obtain ⟨ds, a1, a2⟩ := allE_data h1
    refine ⟨by rw [dpAll_len a2, allD_len a1]; exact hl, fun a ha => ?_⟩
    obtain ⟨s, k2⟩ := k1.new (o := .tup vs) ha
    exact z _ _ _ (e1.trans s) k2 ⟨_, ⟨ds, rfl, a1⟩, Dp.tup (.inl (.inl upd_same)) (dpAll_mono s a2)⟩
theorem Ec.eqE {d : PyData} (h : Ec K te ρ C (pD K d) C') : Ec K te ρ C (pE K (fun e => e = d)) C' := h.toE rfl
/-- two that aren't told -/
theorem er_ee {r : R2} {χ : PyData → Prop} (h : ∀ d e, φ d → ψ e → ∃ f, χ f ∧ Er K r C (pD K d) (pD K e) (pD K f) C) : Er K r C (pE K φ) (pE K ψ) (pE K χ) C := er_exL fun d hd => er_exR fun e he => by
  obtain ⟨f, hf, hr⟩ := h d e hd he
  exact hr.toE hf
theorem er_ed {r : R2} {χ : PyData → Prop} {e : PyData} (h : ∀ d, φ d → ∃ f, χ f ∧ Er K r C (pD K d) (pD K e) (pD K f) C) : Er K r C (pE K φ) (pD K e) (pE K χ) C := er_exL fun d hd => by
  obtain ⟨f, hf, hr⟩ := h d hd
  exact hr.toE hf
theorem er_de {r : R2} {χ : PyData → Prop} {d : PyData} (h : ∀ e, ψ e → ∃ f, χ f ∧ Er K r C (pD K d) (pD K e) (pD K f) C) : Er K r C (pD K d) (pE K ψ) (pE K χ) C := er_exR fun e he => by
  obtain ⟨f, hf, hr⟩ := h e he
  exact hr.toE hf
theorem er_di {r : R2} {χ : PyData → Prop} {d : PyData} (h : ∀ i, f i → ∃ e, χ e ∧ Er K r C (pD K d) (pD K (.int i)) (pD K e) C) : Er K r C (pD K d) (pI f) (pE K χ) C := er_iR fun i hi => by
  obtain ⟨e, he, hr⟩ := h i hi
  exact hr.toE he
/-- cells opened and closed -/
theorem ex_openG {γ : Type} {a : Addr} {cE : Cell} {cOf : γ → Cell} {φ : γ → Prop} (h : C a = some cE) (m : ∀ M o, CellOk K M cE o → ∃ x, φ x ∧ CellOk K M (cOf x) o) (k : ∀ x, φ x → Ex K M0 t D ρ (updC C a (cOf x))) : Ex K M0 t D ρ C := fun σ H M s e o => by
  obtain ⟨hM, ob, h1, h2⟩ := o.cs a _ h
  obtain ⟨x, hx, h3⟩ := m M ob h2
  exact k x hx σ H M s e (o.recell hM h1 h3)
theorem Rt.openG {R : VK} {a : Addr} {cE : Cell} (k : Rt K M0 R p C) (h : C a = some cE) (m : ∀ M o, CellOk K M c o → CellOk K M cE o) : Rt K M0 R p (updC C a c) := fun v H M s o hv => by
  obtain ⟨hM, ob, h1, h2⟩ := o.cs a _ updC_same
  have := o.recell (c := cE) hM h1 (m M ob h2)
  rw [updC_updC, updC_self h] at this
  exact k v H M s this hv
/-- a purse of two -/
def nat0 (i : Int) : Prop := 0 ≤ i
def nat31 (i : Int) : Prop := 0 ≤ i ∧ i < 2147483647
def purse2 : Cell := .lstP [pI nat0, pI nat31]
theorem purse2_open (M : Hp) (o : HO) (h : CellOk K M purse2 o) : ∃ x : Int × Int, (nat0 x.1 ∧ nat31 x.2) ∧ CellOk K M (.lst [.int x.1, .int x.2]) o := by
  cases o <;> first | exact False.elim h | skip
  rename_i xs
  have h : AllP M [pI nat0, pI nat31] xs := h
  cases xs with
  | nil => exact False.elim h
  | cons x xs =>
    cases xs with
    | nil => exact False.elim h.2
    | cons y xs =>
      cases xs with
      | cons z xs => exact False.elim h.2.2
      | nil =>
        obtain ⟨i, hi, hx⟩ := h.1
        obtain ⟨j, hj, hy⟩ := h.2.1
        have a1 : DpAll K M [.int i, .int j] [.int i, .int j] := .cons (.int i) (.cons (.int j) .nil)
        rw [hx, hy]
        exact ⟨(i, j), ⟨hi, hj⟩, a1⟩
theorem purse2_of {i j : Int} (h0 : nat0 i) (h1 : nat31 j) (M : Hp) (o : HO) (h : CellOk K M (.lst [.int i, .int j]) o) : CellOk K M purse2 o := by
  cases o <;> first | exact False.elim h | skip
  rename_i xs
  have e : xs = [.int i, .int j] := dpAll_ints (ns := [i, j]) h
  subst e
  have a1 : (pI nat0).p M (.int i) := ⟨i, h0, rfl⟩
  have a2 : (pI nat31).p M (.int j) := ⟨j, h1, rfl⟩
  show AllP M [pI nat0, pI nat31] [.int i, .int j]
  exact ⟨a1, a2, trivial⟩
theorem ixN_nat {n j : Nat} (h : j < n) : ixN n (j : Int) = some j := by
  unfold ixN
  rw [if_pos (by omega), if_pos (by omega), Int.toNat_natCast]
theorem eiX_rng1 {ta : TA} (h : Ea K ta ρ C [pI f] C1) (hf : ∀ j, f j → -(2 ^ 62) ≤ j ∧ j < 2 ^ 62) : EiX K (iRng1 ta) ρ C f Int.toNat (fun _ i => pD K (.int (i : Int))) C1 (fun _ _ => True) := fun σ H M R e k z =>
  h σ H M _ e k fun vs H1 M1 e1 k1 h1 => by
    match vs, h1 with
    | [v], ⟨⟨j, hj, hv⟩, _⟩ =>
      have := hv; subst this
      refine ⟨j, rfl, (hf j hj).1, (hf j hj).2, z j hj _ H1 M1 e1 k1 fun C2 H2 M2 _ k2 _ => ⟨Nat.le_refl _, fun i hi => ⟨hi, fun x H3 y => ?_⟩⟩⟩
      obtain ⟨rfl, rfl⟩ := y
      refine ⟨M2, Same.refl _, k2, ?_⟩
      rw [Int.zero_add]; exact Dp.int _
theorem set_self {i : Nat} (hq : ρ[i]? = some (some p)) : ρ.set i (some p) = ρ := by
  apply List.ext_getElem?
  intro j
  by_cases hj : j = i
  · subst hj
    rw [hq, List.getElem?_set]
    have hl : j < ρ.length := by
      rcases Nat.lt_or_ge j ρ.length with h | h
      · exact h
      · rw [List.getElem?_eq_none h] at hq; cases hq
    rw [if_pos rfl, if_pos hl]
  · rw [List.getElem?_set_ne (Ne.symm hj)]
/-- an if without else that sets a name alone, not told -/
theorem ex_sifAE {tc : TT} {fb : Bool → Prop} {i : Nat} {d0 : PyData} (h : EtE K tc ρ C fb C) (hq : ρ[i]? = some (some (pD K d0))) (hd : fb false → φ d0) (h1 : fb true → Ec K te ρ C (pE K φ) C) (k : ∀ d, φ d → Ex K M0 u D (ρ.set i (some (pD K d))) C) : Ex K M0 (tSeq (tIfS tc (tAsg te (gName i)) tNext) u) D ρ C := by
  refine ex_sif0E h (fun hb => ex_asgE (h1 hb) k) (fun hb => ?_)
  have := k d0 (hd hb)
  rw [set_self hq] at this
  exact this
/-- a cell of this def's own is frozen when it is told -/
theorem ex_retL {a : Addr} {ds : List PyData} (h : Ec K te ρ (updC C a (.lst ds)) (pRef a) (updC C a (.lst ds))) (k : Rt K M0 D.rt (pD K (.list ds)) C) (ha : C a = none) : Ex K M0 (tRet te) D ρ (updC C a (.lst ds)) := fun σ H M s e o =>
  h σ H M _ e o fun v H1 M1 s1 o1 hv => by
    have hv : v = .ref a := hv
    subst hv
    obtain ⟨ob, h1, h2, h3, h4⟩ := o1.freeze ha
    cases ob <;> first | exact False.elim h2 | skip
    exact k _ H1 _ ((s.trans s1).trans h3) h4 (Dp.lst (.inl (.inl upd_same)) (dpAll_mono h3 h2))
end
/-! ### dicts from numbers to numbers -/
def dT (T : List (Int × Int)) : List (Key × PyData) := T.map fun p => (Sum.inl p.1, PyData.int p.2)
def vT (T : List (Int × Int)) : List (Key × V) := T.map fun p => (Sum.inl p.1, V.int p.2)
def getT (T : List (Int × Int)) (k : Int) : Option Int := (T.find? fun p => decide (p.1 = k)).map (·.2)
def putT (T : List (Int × Int)) (k v : Int) : List (Int × Int) := if (T.any fun p => decide (p.1 = k)) = true then T.map (fun p => if p.1 = k then (p.1, v) else p) else T ++ [(k, v)]
theorem dicOk_T {K : PySem.W.Frag} {M : Hp} : ∀ {T : List (Int × Int)} {kvs : List (Key × V)}, DicOk K M (dT T) kvs → kvs = vT T
  | [], [], _ => rfl
  | (k, v) :: T, (k', x) :: kvs, ⟨h1, h2, h3⟩ => by
    have e := dicOk_T (T := T) (kvs := kvs) h3
    have := d_int h2
    subst this
    rw [e, h1]; rfl
  | [], _ :: _, h => False.elim h
  | _ :: _, [], h => False.elim h
theorem T_dicOk {K : PySem.W.Frag} {M : Hp} : ∀ (T : List (Int × Int)), DicOk K M (dT T) (vT T)
  | [] => trivial
  | (k, v) :: T => ⟨rfl, Dp.int v, T_dicOk T⟩
theorem valV_T (T : List (Int × Int)) (k : Int) : valV (vT T) (Sum.inl k : Key) = (getT T k).map V.int := by
  unfold valV getT
  induction T with
  | nil => rfl
  | cons p T ih =>
    unfold vT at ih ⊢
    rw [List.map_cons]
    by_cases h : p.1 = k
    · rw [List.find?_cons_of_pos (by simpa using h), List.find?_cons_of_pos (by simpa using h)]; rfl
    · rw [List.find?_cons_of_neg (by simpa using h), List.find?_cons_of_neg (by simpa using h)]; exact ih
theorem putK_T (T : List (Int × Int)) (k v : Int) : putK (vT T) (Sum.inl k : Key) (V.int v) = vT (putT T k v) := by
  unfold putK putT
  have e : ((vT T).any fun kv => decide (kv.1 = Sum.inl k)) = T.any fun p => decide (p.1 = k) := by
    unfold vT
    rw [List.any_map]
    congr 1
    funext p
    simp
  rw [e]
  split
  · unfold vT
    rw [List.map_map, List.map_map]
    apply List.map_congr_left
    intro p _
    simp only [Function.comp]
    by_cases h : p.1 = k
    · rw [if_pos (by rw [h]), if_pos h]
    · rw [if_neg (by intro q; injection q with q; exact h q), if_neg h]
  · unfold vT; rw [List.map_append]; rfl
/-- a dict of numbers, frozen or a cell -/
def DDat (K : PySem.W.Frag) (C : Cs) (p : Pd) (T : List (Int × Int)) : Prop := p = pDic K (dT T) ∨ ∃ a, p = pRef a ∧ C a = some (.dic (dT T))
section
variable {K : PySem.W.Frag} {M0 : Hp} {t u : TS} {te td ty tv : TE} {D : Ends} {ρ ρ' : En} {C C1 C2 C3 C' : Cs} {p q s : Pd} {T S : List (Int × Int)}
theorem ddat_D : DDat K C (pDic K (dT T)) T := .inl rfl
theorem ddat_C {a : Addr} (h : C a = some (.dic (dT T))) : DDat K C (pRef a) T := .inr ⟨a, rfl, h⟩
theorem DDat.sub (h : DDat K C p T) (s : Sub C C1) : DDat K C1 p T := by
  rcases h with h | ⟨a, h1, h2⟩
  · exact .inl h
  · exact .inr ⟨a, h1, s _ _ h2⟩
theorem DDat.get {M H : Hp} {v : V} (h : DDat K C p T) (k : Ok K M C H) (hv : p.p M v) : ∃ a, v = .ref a ∧ H a = some (.dK (vT T)) := by
  rcases h with rfl | ⟨a, rfl, h⟩
  · obtain ⟨a, kvs, rfl, h1, h2⟩ := hv
    have := dicOk_T h2
    subst this
    exact ⟨a, rfl, k.fz _ _ h1⟩
  · obtain ⟨kvs, h1, h2⟩ := k.dic h
    have := dicOk_T h2
    subst this
    exact ⟨a, hv, h1⟩
theorem ec_dget {k v : Int} (h : Ec K td ρ C p C1) (hy : Ec K ty ρ C1 (pD K (.int k)) C2) (hd : DDat K C2 p T) (hg : getT T k = some v) : Ec K (tDGet td ty) ρ C (pD K (.int v)) C2 := fun σ H M Q e o z =>
  h σ H M _ e o fun x H1 M1 s1 o1 hx => hy σ H1 M1 _ (e.mono s1) o1 fun y H2 M2 s2 o2 hy => by
    obtain ⟨a, rfl, ha⟩ := hd.get o2 (p.mono s2 hx)
    have := d_int hy; subst this
    refine ⟨a, .int v, rfl, ?_, z _ H2 M2 (s1.trans s2) o2 (.int v)⟩
    have := DGet.k (k := .inl k) ha
    rw [valV_T, hg] at this
    exact this
theorem ec_din {k : Int} (hy : Ec K ty ρ C (pD K (.int k)) C1) (h : Ec K td ρ C1 p C2) (hd : DDat K C2 p T) : Ec K (tDIn ty td) ρ C (pD K (.bool (getT T k).isSome)) C2 := fun σ H M Q e o z =>
  hy σ H M _ e o fun y H1 M1 s1 o1 hy => h σ H1 M1 _ (e.mono s1) o1 fun x H2 M2 s2 o2 hx => by
    obtain ⟨a, rfl, ha⟩ := hd.get o2 hx
    have := d_int hy; subst this
    refine ⟨a, _, rfl, DGet.k (k := .inl k) ha, z _ H2 M2 (s1.trans s2) o2 ?_⟩
    rw [valV_T, Option.isSome_map]; exact .bl _
theorem ec_dnotin {k : Int} (hy : Ec K ty ρ C (pD K (.int k)) C1) (h : Ec K td ρ C1 p C2) (hd : DDat K C2 p T) : Ec K (tDNotIn ty td) ρ C (pD K (.bool !(getT T k).isSome)) C2 := fun σ H M Q e o z =>
  hy σ H M _ e o fun y H1 M1 s1 o1 hy => h σ H1 M1 _ (e.mono s1) o1 fun x H2 M2 s2 o2 hx => by
    obtain ⟨a, rfl, ha⟩ := hd.get o2 hx
    have := d_int hy; subst this
    refine ⟨a, _, rfl, DGet.k (k := .inl k) ha, z _ H2 M2 (s1.trans s2) o2 ?_⟩
    rw [valV_T, Option.isSome_map]; exact .bl _
theorem ex_dput {k v : Int} {a : Addr} (hv : Ec K tv ρ C (pD K (.int v)) C1) (h : Ec K td ρ C1 (pRef a) C2) (hy : Ec K ty ρ C2 (pD K (.int k)) C3) (hc : C3 a = some (.dic (dT T))) (hl : T.length < sizeLine)
    (n : Nx K M0 D.nx ρ (updC C3 a (.dic (dT (putT T k v))))) : Ex K M0 (sDPut td ty tv) D ρ C := fun σ H M s e o =>
  hv σ H M _ e o fun x H1 M1 s1 o1 hx => h σ H1 M1 _ (e.mono s1) o1 fun y H2 M2 s2 o2 hy2 => hy σ H2 M2 _ ((e.mono s1).mono s2) o2 fun z H3 M3 s3 o3 hz => by
    have := d_int hx; subst this
    have hy2 : y = .ref a := hy2
    subst hy2
    have := d_int hz; subst this
    obtain ⟨kvs, h1, h2⟩ := o3.dic hc
    have := dicOk_T h2; subst this
    refine ⟨a, _, rfl, DPut.k (k := .inl k) h1 (by unfold vT; rw [List.length_map]; exact hl), ?_⟩
    rw [putK_T]
    exact n σ _ M3 (s.trans ((s1.trans s2).trans s3)) (e.mono ((s1.trans s2).trans s3)) (o3.set hc (T_dicOk _))
theorem ex_sdput {k v : Int} {a : Addr} (hv : Ec K tv ρ C (pD K (.int v)) C1) (h : Ec K td ρ C1 (pRef a) C2) (hy : Ec K ty ρ C2 (pD K (.int k)) C3) (hc : C3 a = some (.dic (dT T))) (hl : T.length < sizeLine)
    (n : Ex K M0 u D ρ (updC C3 a (.dic (dT (putT T k v))))) : Ex K M0 (tSeq (sDPut td ty tv) u) D ρ C := ex_seq (ex_dput hv h hy hc hl n)
/-- dict(t) -/
theorem ewk_dictD (hd : DDat K C p T) : EkW K (fun xs H Q => ∃ (a : Addr) (kvs : List (Key × V)), xs = [.ref a] ∧ Rd H a (.dK kvs) ∧ ∀ p, H p = none → Q (.ref p) (upd H p (.dK kvs))) C [p] (.dic (dT T)) C := fun xs H M Q k h z => by
  match xs, h with
  | [v], ⟨h, _⟩ =>
    obtain ⟨a, rfl, ha⟩ := hd.get k h
    refine ⟨a, _, rfl, .inl ha, fun b hb => ?_⟩
    obtain ⟨n, k2⟩ := k.cell (c := .dic (dT T)) (o := .dK (vT T)) hb (T_dicOk T)
    exact z b _ M (Same.refl _) n k2
/-- sorted(t) -/
def keysT (T : List (Int × Int)) : List Int := PySem.W.sortI (T.map (·.1))
theorem ewk_sortedD (hd : DDat K C p T) (hl : T.length < 64) : EkW K (fun xs H Q => ∃ (a : Addr) (kvs : List (Key × V)) (ks : List Int), xs = [.ref a] ∧ Rd H a (.dK kvs) ∧ kvs.map (·.1) = ks.map Sum.inl ∧ ks.length < 64 ∧
    ∀ (ys : List Int) (p : Addr), ys.Perm ks → ys.Pairwise (· ≤ ·) → H p = none → Q (.ref p) (upd H p (.lst (ys.map V.int)))) C [p] (.lst ((keysT T).map PyData.int)) C := fun xs H M Q k h z => by
  match xs, h with
  | [v], ⟨h, _⟩ =>
    obtain ⟨a, rfl, ha⟩ := hd.get k h
    refine ⟨a, _, T.map (·.1), rfl, .inl ha, by unfold vT; rw [List.map_map, List.map_map]; rfl, by rw [List.length_map]; exact hl, fun ys b hp hs hb => ?_⟩
    have e := PySem.W.eq_sortI hp hs
    subst e
    obtain ⟨n, k2⟩ := k.cell (c := .lst ((keysT T).map PyData.int)) (o := .lst ((keysT T).map V.int)) hb (ints_dpAll _)
    exact z b _ M (Same.refl _) n k2
theorem ek_lenDT (hd : DDat K C p T) : Ek K (fun xs H Q => ∃ a kvs, xs = [V.ref a] ∧ H a = some (.dK kvs) ∧ Q (.int kvs.length) H) C [p] (pD K (.int T.length)) C := fun xs H M Q k h z => by
  match xs, h with
  | [v], ⟨h, _⟩ =>
    obtain ⟨a, rfl, ha⟩ := hd.get k h
    refine ⟨a, _, rfl, ha, z _ H M (Same.refl _) k ?_⟩
    unfold vT; rw [List.length_map]; exact .int _
theorem valV_self {x : Int × Int} (hv : getT S x.1 = some x.2) : valV (vT S) (Sum.inl x.1 : Key) = some (V.int x.2) := by rw [valV_T, hv]; rfl
theorem er_eqDT (h1 : DDat K C p T) (h2 : DDat K C q S) (hl : T.length = S.length) (hv : ∀ x ∈ T, getT S x.1 = some x.2) : Er K rEqDA C p q (pD K (.bool true)) C := fun x y H M Q k hx hy z => by
  obtain ⟨a, rfl, ha⟩ := h1.get k hx
  obtain ⟨b, rfl, hb⟩ := h2.get k hy
  refine ⟨a, b, _, _, rfl, rfl, ha, hb, by unfold vT; rw [List.length_map, List.length_map]; exact hl, fun w hw => ?_, z _ H M (Same.refl _) k (.bl true)⟩
  obtain ⟨x, hx, rfl⟩ := List.mem_map.mp hw
  exact ⟨valV_self (hv x hx), rfl⟩
theorem er_neDT (h1 : DDat K C p T) (h2 : DDat K C q S) (hl : T.length = S.length) (hv : ∀ x ∈ T, getT S x.1 = some x.2) : Er K rNeDA C p q (pD K (.bool false)) C := fun x y H M Q k hx hy z => by
  obtain ⟨a, rfl, ha⟩ := h1.get k hx
  obtain ⟨b, rfl, hb⟩ := h2.get k hy
  refine ⟨a, b, _, _, rfl, rfl, ha, hb, by unfold vT; rw [List.length_map, List.length_map]; exact hl, fun w hw => ?_, z _ H M (Same.refl _) k (.bl false)⟩
  obtain ⟨x, hx, rfl⟩ := List.mem_map.mp hw
  exact ⟨valV_self (hv x hx), rfl⟩
theorem ek_isDic {n : String} {b : Bool} (hd : DDat K C p T) (hb : kitB "dict" n = some b) : Ek K (rIsi K) C [p, pV (.ty n)] (pD K (.bool b)) C := fun xs H M Q k h z => by
  match xs, h with
  | [v, u], ⟨h, h2, _⟩ =>
    have h2' : u = .ty n := h2
    subst h2'
    obtain ⟨a, rfl, ha⟩ := hd.get k h
    exact ⟨_, .ty n, _, _, b, rfl, .ty n, .base (.dK ha), kit_ty hb, z _ H M (Same.refl _) k (.bl b)⟩
/-- dict([(k, v), ..]) -/
def dPair (p : Int × Int) : PyData := .tuple [.int p.1, .int p.2]
def mergeT (T more : List (Int × Int)) : List (Int × Int) := more.foldl (fun acc p => putT acc p.1 p.2) T
theorem mergeK_T : ∀ (more T : List (Int × Int)), mergeK (vT T) (vT more) = vT (mergeT T more)
  | [], T => rfl
  | p :: more, T => by
    show mergeK (putK (vT T) (Sum.inl p.1) (V.int p.2)) (vT more) = _
    rw [putK_T, mergeK_T more]; rfl
theorem any_of_nodup {T : List (Int × Int)} {k : Int} (h : k ∉ T.map (·.1)) : (T.any fun p => decide (p.1 = k)) = false := by
  rw [List.any_eq_false]
  intro p hp hk
  exact h (List.mem_map.mpr ⟨p, hp, by simpa using hk⟩)
theorem mergeT_app : ∀ (more T : List (Int × Int)), ((T ++ more).map (·.1)).Nodup → mergeT T more = T ++ more
  | [], T, _ => by simp [mergeT]
  | p :: more, T, h => by
    show mergeT (putT T p.1 p.2) more = _
    have hn : p.1 ∉ T.map (·.1) := by
      rw [List.map_append, List.nodup_append] at h
      intro q
      exact h.2.2 _ q _ List.mem_cons_self rfl
    have e : putT T p.1 p.2 = T ++ [p] := by
      unfold putT
      rw [any_of_nodup hn, if_neg Bool.false_ne_true]
    rw [e, mergeT_app more (T ++ [p]) (by rw [List.append_assoc]; exact h), List.append_assoc]; rfl
theorem pairs_of {M H : Hp} (hs : Same M H) : ∀ {vs : List V} {T : List (Int × Int)}, DpAll K M vs (T.map dPair) → ∃ ps : List Addr, vs = ps.map V.ref ∧ Paired (fun p kv => SqT K H p [kV kv.1, kv.2]) ps (vT T)
  | _, [], .nil => ⟨[], rfl, .nil⟩
  | _, p :: T, .cons h t => by
    obtain ⟨ps, rfl, hp⟩ := pairs_of (T := T) hs t
    obtain ⟨a, xs, rfl, h1, h2⟩ := d_tup h
    have e : xs = [.int p.1, .int p.2] := dpAll_ints (ns := [p.1, p.2]) h2
    subst e
    exact ⟨a :: ps, rfl, .cons (sqT_mono hs h1) hp⟩
theorem ewk_dictP (hn : (T.map (·.1)).Nodup) : EkW K (fun xs H Q => ∃ (a : Addr) (ps : List Addr) (kvs : List (Key × V)), xs = [.ref a] ∧ SqL K H a (ps.map V.ref) ∧ Paired (fun p kv => SqT K H p [kV kv.1, kv.2]) ps kvs ∧
    ∀ p, H p = none → Q (.ref p) (upd H p (.dK (mergeK [] kvs)))) C [pD K (.list (T.map dPair))] (.dic (dT T)) C := fun xs H M Q k h z => by
  match xs, h with
  | [v], ⟨h, _⟩ =>
    obtain ⟨a, ys, rfl, h1, h2⟩ := d_lst h
    obtain ⟨ps, rfl, hp⟩ := pairs_of (T := T) k.fz h2
    refine ⟨a, ps, vT T, rfl, k.fz.seq h1, hp, fun b hb => ?_⟩
    have e : mergeK [] (vT T) = vT T := by
      have := mergeK_T T []
      rw [mergeT_app T [] (by rw [List.nil_append]; exact hn), List.nil_append] at this
      exact this
    rw [e]
    obtain ⟨n, k2⟩ := k.cell (c := .dic (dT T)) (o := .dK (vT T)) hb (T_dicOk T)
    exact z b _ M (Same.refl _) n k2
/-- list(d.items()) -/
theorem ec_items (h : Ec K td ρ C p C1) (hd : DDat K C1 p T) : Ec K (LiI.tListItems td) ρ C (pD K (.list (T.map dPair))) C1 := fun σ H M Q e o z =>
  h σ H M _ e o fun x H1 M1 s1 o1 hx => by
    obtain ⟨a, rfl, ha⟩ := hd.get o1 hx
    refine ⟨a, _, rfl, ha, fun H' b ts k1 hb hts hnb hL hP => ?_⟩
    let M' : Hp := fun c => if c = b ∨ c ∈ ts then H' c else M1 c
    have out : ∀ c, H1 c ≠ none → ¬ (c = b ∨ c ∈ ts) := fun c hc q => by
      rcases q with rfl | q
      · exact hc hb
      · exact hc (hts c q)
    have e0 : ∀ c, M1 c ≠ none → ¬ (c = b ∨ c ∈ ts) := fun c hc => out c fun q => hc (o1.fz.free q)
    have s2 : Same M1 M' := fun c o hc => by
      show (if c = b ∨ c ∈ ts then H' c else M1 c) = some o
      rw [if_neg (e0 c (by rw [hc]; exact fun q => nomatch q))]; exact hc
    have ok : Ok K M' C1 H' := ⟨fun c o hc => by
        by_cases q : c = b ∨ c ∈ ts
        · have : M' c = H' c := if_pos q
          rw [this] at hc; exact hc
        · have : M' c = M1 c := if_neg q
          rw [this] at hc
          exact k1 c o (o1.fz c o hc), fun c cc hc => by
        obtain ⟨hM, ob, q1, q2⟩ := o1.cs c cc hc
        refine ⟨?_, ob, k1 c ob q1, cellOk_mono s2 q2⟩
        have : M' c = M1 c := if_neg (out c (by rw [q1]; exact fun q => nomatch q))
        rw [this]; exact hM⟩
    refine z _ H' M' (s1.trans s2) ok ?_
    have hb' : M' b = some (.lst (ts.map V.ref)) := by
      have : M' b = H' b := if_pos (.inl rfl)
      rw [this]; exact hL
    refine Dp.lst (.inl (.inl hb')) ?_
    have all : ∀ (ts' : List Addr) (T' : List (Int × Int)), (∀ t ∈ ts', t ∈ ts) → Paired (fun (t : Addr) (q : Key × V) => H' t = some (.tup [kV q.1, q.2])) ts' (vT T') → DpAll K M' (ts'.map V.ref) (T'.map dPair) := by
      intro ts'
      induction ts' with
      | nil =>
        intro T' _ hP
        cases T' with
        | nil => exact .nil
        | cons p T' => cases hP
      | cons t ts' ih =>
        intro T' hm hP
        cases T' with
        | nil => cases hP
        | cons p T' =>
          cases hP with
          | cons h1 h2 =>
            have ht : M' t = some (.tup [.int p.1, .int p.2]) := by
              have : M' t = H' t := if_pos (.inr (hm t List.mem_cons_self))
              rw [this]; exact h1
            exact .cons (Dp.tup (.inl (.inl ht)) (.cons (.int _) (.cons (.int _) .nil))) (ih T' (fun x hx => hm x (List.mem_cons_of_mem _ hx)) h2)
    exact all ts T (fun _ h => h) hP
end
/-! ### x.extend(t) -/
set_option maxRecDepth 8000 in
theorem list_extend_tupA (l : Addr) (items : Array Value) (n : Nat) (b : Addr) (items2 : Array Value) (n2 : Nat) (dd : Option Addr) (sl : Array (Option Value)) (hs0 : ¬(!items.isEmpty && Builtin.List.listTooLong (items.size + items2.size)) = true) (hs1 : items.size ≤ sizeLine) (hs2 : items.size + items2.size ≤ sizeLine + 1) :
    Meets (Builtin.«list.extend» ⟨[.ref l, .ref b], []⟩) (fun _ R s => s.heap.get? l = some { cls := .type "list", dict := none, data := .seq items n, slots := #[] } ∧ s.heap.get? b = some { cls := .type "tuple", dict := dd, data := .seq items2 n2, slots := sl } ∧ R (.ok (.ret Value.none)) { s with heap := s.heap.update l (Obj.mapSeq fun x => x ++ items2), toks := s.toks }) :=
  .of_wp fun prog w A R s h => by
    obtain ⟨hp, g, d, tk, os⟩ := s; obtain ⟨hl, hb, h⟩ := h; have f1 := AutoSeq1.idx_int; have f2 := AutoSeq1.sub_tuple_tuple; have f3 := AutoSeq1.sub_list_list; have f4 := AutoSeq1.sub_tuple_list; have f5 := AutoSeq1.sub_list_tuple;
    have hz' : (items ++ items2).size ≤ sizeLine + 1 := by rw [Array.size_append]; exact hs2
    wp_walk using (wpAny_updateSeq hl rfl (hz := hs1) (_hz' := hz')), wpAny_loadPart' hl, wpAny_loadPart' hb; exact ⟨_, rfl, h⟩
def rExtendT (K : PySem.W.Frag) : V → List V → Hp → VK → Prop := fun x vs H Q => ∃ l b xs zs, x = .ref l ∧ vs = [.ref b] ∧ H l = some (.lst xs) ∧ SqT K H b zs ∧ xs.length + zs.length ≤ sizeLine ∧ Q .non (upd H l (.lst (xs ++ zs)))
theorem mt_extendT {X : Cx} : MtM X "list.extend" (rExtendT X.K) := by
  intro pins s σ H x vs v us Q I rx rv h
  obtain ⟨l, b, xs, zs, rfl, rfl, hH, hB, hz, q⟩ := h
  cases rx
  obtain ⟨u, rfl, ru⟩ := rv.one
  cases ru
  obtain ⟨z, its, n, r, hl, e⟩ := I.lstM hH
  obtain ⟨its2, r2, ⟨⟨cls, dd, data, sl⟩, ho, hc, n2, hd⟩, hs⟩ := I.tuple hB
  simp only at hc hd
  subst hc hd
  have hl2 : zs.length = its2.length := r2.length
  have hsz : its.toArray.size + its2.toArray.size ≤ sizeLine := by rw [List.size_toArray, List.size_toArray]; omega
  have hlong : ¬ (!its.toArray.isEmpty && Builtin.List.listTooLong (its.toArray.size + its2.toArray.size)) = true := by
    rw [notLongL hsz, Bool.and_false]
    exact Bool.false_ne_true
  refine call_meets F.slot_list_extend ⟨_, e, rfl⟩ F.entry_list_extend (F.args_list_extend_2 _ _)
    (list_extend_tupA l its.toArray n b its2.toArray n2 dd sl hlong (by rw [List.size_toArray]; omega) (by omega)) ⟨e, ho, ?_⟩
  refine ⟨.non, _, I.lset (its' := its ++ its2) hH e (by simp) (r.append r2) ?_, rfl, q⟩
  rw [List.length_append]
  omega
theorem ec_extendT {K : PySem.W.Frag} {ρ : En} {C C1 : Cs} {to te : TE} {a : Addr} {ds es : List PyData} (ho : Ec K to ρ C (pRef a) C) (h0 : C a = some (.lst ds)) (h : Ec K te ρ C (pD K (.tuple es)) C1) (hc : C1 a = some (.lst ds)) (hl : ds.length + es.length ≤ sizeLine) :
    Ec K (tBM K "list" (rExtendT K) to (tCons te tNil)) ρ C (pD K .none) (updC C1 a (.lst (ds ++ es))) := fun σ H M Q e k z =>
  ho σ H M _ e k fun x H1 M1 e1 k1 hx => by
    have hx' : x = .ref a := hx
    subst hx'
    obtain ⟨xs, q1, q2⟩ := k1.lst h0
    refine ⟨.inl ⟨rfl, xs, .inl (.inl q1)⟩, h σ H1 M1 _ (e.mono e1) k1 fun y H2 M2 e2 k2 hy => ?_⟩
    obtain ⟨xs, q1, q2⟩ := k2.lst hc
    obtain ⟨b, zs, rfl, h1, h2⟩ := d_tup hy
    exact ⟨a, b, xs, zs, rfl, rfl, q1, sqT_mono k2.fz h1, by rw [dpAll_len q2, dpAll_len h2]; exact hl, z _ _ M2 (e1.trans e2) (k2.set hc (dpAll_append q2 h2)) .non⟩
/-! ### tuples and lists of anything; things with a ghost -/
def pTP (ps : List Pd) (M : Hp) (v : V) : Prop := ∃ (a : Addr) (xs : List V), v = .ref a ∧ M a = some (.tup xs) ∧ AllP M ps xs
def pT (ps : List Pd) : Pd := ⟨pTP ps, fun e ⟨a, xs, h1, h2, h3⟩ => ⟨a, xs, h1, e _ _ h2, allP_mono e h3⟩⟩
def pLsP (ps : List Pd) (M : Hp) (v : V) : Prop := ∃ (a : Addr) (xs : List V), v = .ref a ∧ M a = some (.lst xs) ∧ AllP M ps xs
def pLs (ps : List Pd) : Pd := ⟨pLsP ps, fun e ⟨a, xs, h1, h2, h3⟩ => ⟨a, xs, h1, e _ _ h2, allP_mono e h3⟩⟩
def pX {ι : Type} (φ : ι → Prop) (p : ι → Pd) : Pd := ⟨fun M v => ∃ x, φ x ∧ (p x).p M v, fun e ⟨x, h, h'⟩ => ⟨x, h, (p x).mono e h'⟩⟩
section
variable {K : PySem.W.Frag} {M0 : Hp} {t u : TS} {te : TE} {ta : TA} {D : Ends} {ρ : En} {C C1 C' : Cs} {p q : Pd} {ps : List Pd}
theorem ec_tupP (h : Ea K ta ρ C ps C') (hl : ps.length ≤ sizeLine := by exact Nat.le_of_ble_eq_true rfl) : Ec K (tTup ta) ρ C (pT ps) C' := fun σ H M Q e k z =>
  h σ H M _ e k fun vs H1 M1 e1 k1 h1 => ⟨by rw [allP_len h1]; exact hl, fun a ha => by
    obtain ⟨s, k2⟩ := k1.new (o := .tup vs) ha
    exact z _ _ _ (e1.trans s) k2 ⟨a, vs, rfl, upd_same, allP_mono s h1⟩⟩
theorem ec_lstP (h : Ea K ta ρ C ps C') (hl : ps.length ≤ sizeLine := by exact Nat.le_of_ble_eq_true rfl) : Ec K (tLst ta) ρ C (pLs ps) C' := fun σ H M Q e k z =>
  h σ H M _ e k fun vs H1 M1 e1 k1 h1 => ⟨by rw [allP_len h1]; exact hl, fun a ha => by
    obtain ⟨s, k2⟩ := k1.new (o := .lst vs) ha
    exact z _ _ _ (e1.trans s) k2 ⟨a, vs, rfl, upd_same, allP_mono s h1⟩⟩
theorem allP_get {M : Hp} : ∀ {ps : List Pd} {xs : List V} {j : Nat}, AllP M ps xs → ps[j]? = some p → ∃ v, xs[j]? = some v ∧ p.p M v
  | [], [], j, _, h => by simp at h
  | q :: ps, x :: xs, 0, ⟨h, _⟩, e => by
    have e : q = p := by simpa using e
    subst e; exact ⟨x, rfl, h⟩
  | q :: ps, x :: xs, j + 1, ⟨_, h⟩, e => allP_get (ps := ps) (xs := xs) (j := j) h e
theorem er_ixP {j : Nat} (h : ps[j]? = some p) : Er K (rIxT K) C (pT ps) (pD K (.int (j : Int))) p C := fun x y H M Q k hx hy z => by
  obtain ⟨a, xs, rfl, h1, h2⟩ := hx
  have := d_int hy; subst this
  obtain ⟨v, e1, e2⟩ := allP_get h2 h
  exact ⟨a, xs, _, v, rfl, rfl, .inl (.inl (k.fz _ _ h1)), atI_nat e1, z v H M (Same.refl _) k e2⟩
theorem er_ixLs {j : Nat} (h : ps[j]? = some p) : Er K (rIxL K) C (pLs ps) (pD K (.int (j : Int))) p C := fun x y H M Q k hx hy z => by
  obtain ⟨a, xs, rfl, h1, h2⟩ := hx
  have := d_int hy; subst this
  obtain ⟨v, e1, e2⟩ := allP_get h2 h
  exact ⟨a, xs, _, v, rfl, rfl, .inl (.inl (k.fz _ _ h1)), atI_nat e1, z v H M (Same.refl _) k e2⟩
theorem ex_asgX {ι : Type} {φ : ι → Prop} {pp : ι → Pd} {i : Nat} (h : Ec K te ρ C (pX φ pp) C1) (k : ∀ x, φ x → Nx K M0 D.nx (ρ.set i (some (pp x))) C1) : Ex K M0 (tAsg te (gName i)) D ρ C := fun σ H M s e o =>
  h σ H M _ e o fun v H1 M1 s1 o1 ⟨x, hx, hv⟩ => k x hx _ H1 M1 (s.trans s1) ((e.mono s1).set (p := pp x) hv i) o1
theorem ex_sasgX {ι : Type} {φ : ι → Prop} {pp : ι → Pd} {i : Nat} (h : Ec K te ρ C (pX φ pp) C1) (k : ∀ x, φ x → Ex K M0 u D (ρ.set i (some (pp x))) C1) : Ex K M0 (tSeq (tAsg te (gName i)) u) D ρ C := ex_seq (ex_asgX h k)
theorem Rt.ofX {ι : Type} {φ : ι → Prop} {pp : ι → Pd} {R : VK} (h : Rt K M0 R (pX φ pp) C) (x : ι) (hx : φ x) : Rt K M0 R (pp x) C := fun v H M s o hv => h v H M s o ⟨x, hx, hv⟩
theorem EnvOk.reset {M : Hp} {v : V} {i : Nat} {σ : L2.St} (e : EnvOk M ρ σ) (hv : σ[i]? = some (some v)) (hq : q.p M v) : EnvOk M (ρ.set i (some q)) σ := by
  have h := e.set (p := q) hq i
  have e2 : σ.set i (some v) = σ := by
    apply List.ext_getElem?
    intro j
    by_cases hj : j = i
    · subst hj
      have hl : j < σ.length := by
        rcases Nat.lt_or_ge j σ.length with h | h
        · exact h
        · rw [List.getElem?_eq_none h] at hv; cases hv
      rw [hv, List.getElem?_set, if_pos rfl, if_pos hl]
    · rw [List.getElem?_set_ne (Ne.symm hj)]
  rw [e2] at h
  exact h
/-- a cell of a name is frozen from here on -/
theorem ex_freezeL {i : Nat} {a : Addr} {ds : List PyData} (hi : ρ[i]? = some (some (pRef a))) (ha : C a = none) (k : Ex K M0 t D (ρ.set i (some (pL K ds))) C) : Ex K M0 t D ρ (updC C a (.lst ds)) := fun σ H M s e o => by
  obtain ⟨ob, h1, h2, h3, h4⟩ := o.freeze ha
  cases ob <;> first | exact False.elim h2 | skip
  rename_i xs
  obtain ⟨v, e1, e2⟩ := e.get hi
  have e2 : v = .ref a := e2
  subst e2
  exact k σ H _ (s.trans h3) ((e.mono h3).reset e1 (q := pL K ds) ⟨a, xs, rfl, upd_same, dpAll_mono h3 h2⟩) h4
theorem ex_freezeD {i : Nat} {a : Addr} {kds : List (Key × PyData)} (hi : ρ[i]? = some (some (pRef a))) (ha : C a = none) (k : Ex K M0 t D (ρ.set i (some (pDic K kds))) C) : Ex K M0 t D ρ (updC C a (.dic kds)) := fun σ H M s e o => by
  obtain ⟨ob, h1, h2, h3, h4⟩ := o.freeze ha
  cases ob <;> first | exact False.elim h2 | skip
  rename_i xs
  obtain ⟨v, e1, e2⟩ := e.get hi
  have e2 : v = .ref a := e2
  subst e2
  exact k σ H _ (s.trans h3) ((e.mono h3).reset e1 (q := pDic K kds) ⟨a, xs, rfl, upd_same, dicOk_mono h3 h2⟩) h4
end
theorem Ei.conv {K : PySem.W.Frag} {wi : TI} {ρ : En} {C C' : Cs} {n n' : Nat} {item : Nat → Pd} {G : Cs → Prop} (h : Ei K wi ρ C n item C' G) (e : n = n') : Ei K wi ρ C n' item C' G := e ▸ h
/-! ### cells that aren't told either -/
def EcN (K : PySem.W.Frag) (t : TE) (ρ : En) (C : Cs) (Φ : PyData → Cs → Prop) : Prop := ∀ (σ : L2.St) (H M : Hp) (Q : VK), EnvOk M ρ σ → Ok K M C H → (∀ v d C' H' M', Same M M' → Φ d C' → Ok K M' C' H' → Dp K M' v d → Q v H') → t σ H Q
def EwN (K : PySem.W.Frag) (t : TE) (ρ : En) (C : Cs) (Φ : Cell → Cs → Prop) : Prop := ∀ (σ : L2.St) (H M : Hp) (Q : VK), EnvOk M ρ σ → Ok K M C H → (∀ a c C' H' M', Same M M' → Φ c C' → C' a = none → Ok K M' (updC C' a c) H' → Q (.ref a) H') → t σ H Q
def tDead : TS := fun _ _ _ => False
theorem ps_dead {X : Cx} {st : Stmt} : PS X st tDead := ⟨fun _ _ _ _ _ _ h => False.elim h⟩
section
variable {K : PySem.W.Frag} {M0 : Hp} {t u : TS} {te td ty tv to : TE} {ta : TA} {D : Ends} {ρ ρ' : En} {C C1 C2 C3 C' : Cs} {p q : Pd} {ps : List Pd} {f : Int → Prop} {T : List (Int × Int)}
theorem ex_asgN {i : Nat} {Φ : PyData → Cs → Prop} (h : EcN K te ρ C Φ) (k : ∀ d C', Φ d C' → Nx K M0 D.nx (ρ.set i (some (pD K d))) C') : Ex K M0 (tAsg te (gName i)) D ρ C := fun σ H M s e o =>
  h σ H M _ e o fun v d C' H1 M1 s1 hd o1 hv => k d C' hd _ H1 M1 (s.trans s1) ((e.mono s1).set (p := pD K d) hv i) o1
theorem ex_sasgN {i : Nat} {Φ : PyData → Cs → Prop} (h : EcN K te ρ C Φ) (k : ∀ d C', Φ d C' → Ex K M0 u D (ρ.set i (some (pD K d))) C') : Ex K M0 (tSeq (tAsg te (gName i)) u) D ρ C := ex_seq (ex_asgN h k)
theorem ex_asgWN {i : Nat} {Φ : Cell → Cs → Prop} (h : EwN K te ρ C Φ) (k : ∀ a c C', Φ c C' → C' a = none → Nx K M0 D.nx (ρ.set i (some (pRef a))) (updC C' a c)) : Ex K M0 (tAsg te (gName i)) D ρ C := fun σ H M s e o =>
  h σ H M _ e o fun a c C' H1 M1 s1 hc n1 o1 => k a c C' hc n1 _ H1 M1 (s.trans s1) ((e.mono s1).set (show (pRef a).p M1 (.ref a) from rfl) i) o1
theorem ex_sasgWN {i : Nat} {Φ : Cell → Cs → Prop} (h : EwN K te ρ C Φ) (k : ∀ a c C', Φ c C' → C' a = none → Ex K M0 u D (ρ.set i (some (pRef a))) (updC C' a c)) : Ex K M0 (tSeq (tAsg te (gName i)) u) D ρ C := ex_seq (ex_asgWN h k)
/-- a comprehension that turns cells -/
theorem ewn_lc {wi : TI} {g : TG} {tt : TT} {te : TE} {vs : List Nat} {n : Nat} {item : Nat → Pd} {G : Cs → Prop} (hi : Ei K wi ρ C n item C1 G) (I : Nat → List PyData → Cs → Prop) (h0 : I 0 [] C1) (hG : ∀ B, G B) (hn : n < sizeLine) (hl : ∀ i ds Ci, I i ds Ci → ds.length ≤ i)
    (turn : ∀ i, i < n → ∀ ds Ci, I i ds Ci → ∀ D x, Ci D = none → ∃ ρ2, Egv K g (wipeR ρ vs) vs (updC Ci D x) (item i) ρ2 ∧ Et K tt ρ2 (updC Ci D x) true (updC Ci D x) ∧ EcN K te ρ2 (updC Ci D x) (fun d B => ∃ Cj, B = updC Cj D x ∧ Cj D = none ∧ I (i + 1) (ds ++ [d]) Cj)) :
    EwN K (tLc wi g tt te vs) ρ C (fun c C' => ∃ ds, c = .lst ds ∧ I n ds C') := fun σ H M Q e k z => by
  refine hi σ H M _ e k fun J H1 M1 s1 k1 hw D hD => ?_
  have hC1 : C1 D = none := (k1.free hD).2
  have P0 : Ok K M1 (updC C1 D (.lst [])) (upd H1 D (.lst [])) := (k1.cell (c := .lst []) (o := .lst []) hD (show DpAll K M1 [] [] from .nil)).2
  refine ⟨fun i m H => m = n - i ∧ i ≤ n ∧ ∃ M2 ds Ci, I i ds Ci ∧ Ci D = none ∧ Same M1 M2 ∧ Ok K M2 (updC Ci D (.lst ds)) H, ⟨n, by simp, Nat.zero_le _, M1, [], C1, h0, hC1, Same.refl _, P0⟩, ?_⟩
  rintro i m H2 ⟨rfl, hin, M2, ds, Ci, hI, hCi, s2, k2⟩
  obtain ⟨w1, w2⟩ := hw _ H2 M2 s2 k2 (hG _)
  by_cases hlt : i < n
  · obtain ⟨w3, w4⟩ := w2 i hlt
    refine .inr ⟨w3, fun H' => ∃ M3 ds Ci, I (i + 1) ds Ci ∧ Ci D = none ∧ Same M1 M3 ∧ Ok K M3 (updC Ci D (.lst ds)) H', fun H' h => ⟨n - (i + 1), by omega, rfl, hlt, h⟩, fun x H3 y => ?_⟩
    obtain ⟨M3, s3, k3, hx⟩ := w4 x H3 y
    obtain ⟨ρ2, t1, t2, t3⟩ := turn i hlt ds Ci hI D (.lst ds) hCi
    refine t1 x _ H3 M3 _ ((((e.mono s1).mono s2).mono s3).wipe vs) k3 hx fun σ4 H4 M4 s4 hwp e4 k4 => ⟨by rw [hwp, wipe_wipe], ?_⟩
    refine t2 σ4 H4 M4 _ e4 k4 fun H5 M5 s5 k5 => ?_
    rw [if_pos rfl]
    refine t3 σ4 H5 M5 _ (e4.mono s5) k5 fun v d B H6 M6 s6 hd k6 hv => ?_
    obtain ⟨Cj, rfl, hCj, hIj⟩ := hd
    obtain ⟨acc, a1, a2⟩ := k6.lst updC_same
    refine ⟨acc, a1, by rw [dpAll_len a2]; exact Nat.lt_of_le_of_lt (hl i ds Ci hI) (by omega), M6, ds ++ [d], Cj, hIj, hCj, ((((s2.trans s3).trans s4).trans s5).trans s6), ?_⟩
    have := k6.set (c' := .lst (ds ++ [d])) (o := .lst (acc ++ [v])) updC_same (by
      show DpAll K M6 (acc ++ [v]) (ds ++ [d])
      exact dpAll_append a2 (.cons hv .nil))
    rw [updC_updC] at this
    exact this
  · have e' : i = n := by omega
    subst e'
    exact .inl ⟨w1, z D _ Ci H2 M2 (s1.trans s2) ⟨ds, rfl, hI⟩ hCi k2⟩
/-- x.pop(i), i not told -/
theorem ecn_popAt {a : Addr} {ds : List PyData} (ho : Ec K to ρ C (pRef a) C) (hc : C a = some (.lst ds)) (h : Ec K te ρ C (pI f) C) (hf : ∀ i, f i → 0 ≤ i ∧ i < (ds.length : Int)) (hz : ds.length ≤ 1000000) :
    EcN K (tBM K "list" rPopAt to (tCons te tNil)) ρ C (fun d C' => ∃ k : Nat, k < ds.length ∧ ds[k]? = some d ∧ C' = updC C a (.lst (ds.eraseIdx k))) := fun σ H M Q e k z =>
  ho σ H M _ e k fun x H1 M1 e1 k1 hx => by
    have hx' : x = .ref a := hx
    subst hx'
    obtain ⟨xs, q1, q2⟩ := k1.lst hc
    refine ⟨.inl ⟨rfl, xs, .inl (.inl q1)⟩, h σ H1 M1 _ (e.mono e1) k1 fun y H2 M2 e2 k2 ⟨i, hi, hy⟩ => ?_⟩
    subst hy
    obtain ⟨xs, q1, q2⟩ := k2.lst hc
    obtain ⟨i0, i1⟩ := hf i hi
    have hl := dpAll_len q2
    have hk : i.toNat < ds.length := by omega
    obtain ⟨v, v1, v2⟩ := dpAll_get q2 (List.getElem?_eq_getElem hk)
    have hs : seqIndex? i xs.length = some i.toNat := (ixN_seq (j := i.toNat) (by unfold ixN; rw [if_pos i0, if_pos (by omega)])).1
    refine ⟨a, xs, i, i.toNat, v, rfl, rfl, q1, by omega, by omega, hs, v1, z v _ _ _ M2 (e1.trans e2) ⟨i.toNat, hk, List.getElem?_eq_getElem hk, rfl⟩ (k2.set hc (dpAll_erase i.toNat q2)) v2⟩
where
  dpAll_erase {K : PySem.W.Frag} {M : Hp} : ∀ {vs : List V} {ds : List PyData} (n : Nat), DpAll K M vs ds → DpAll K M (vs.eraseIdx n) (ds.eraseIdx n)
    | _, _, _, .nil => .nil
    | _, _, 0, .cons _ t => t
    | _, _, n + 1, .cons a t => .cons a (dpAll_erase n t)
theorem Ec.toN {d : PyData} {Φ : PyData → Cs → Prop} (h : Ec K te ρ C (pD K d) C') (hd : Φ d C') : EcN K te ρ C Φ := fun σ H M Q e k z => h σ H M Q e k fun v H' M' s k' hv => z v d C' H' M' s hd k' hv
theorem EcN.map {Φ Ψ : PyData → Cs → Prop} (h : EcN K te ρ C Φ) (m : ∀ d C', Φ d C' → Ψ d C') : EcN K te ρ C Ψ := fun σ H M Q e k z => h σ H M Q e k fun v d C' H' M' s hd k' hv => z v d C' H' M' s (m d C' hd) k' hv
/-- list(range(a, b)) -/
def rgI (a b : Int) : List Int := (List.range (b - a).toNat).map fun i : Nat => a + (i : Int)
theorem rgV_I (a b : Int) : rgV a b = (rgI a b).map V.int := by unfold rgV rgI; rw [List.map_map]; rfl
theorem ew_listRg2 {ta tb : TE} {i j : Int} (h1 : Ec K ta ρ C (pD K (.int i)) C1) (h2 : Ec K tb ρ C1 (pD K (.int j)) C2) (hr : RgOk i j) : Ew K (tLstRg (tRg2 ta tb)) ρ C (.lst ((rgI i j).map PyData.int)) C2 := fun σ H M Q e k z =>
  h1 σ H M _ e k fun x H1 M1 e1 k1 hx => h2 σ H1 M1 _ (e.mono e1) k1 fun y H2 M2 e2 k2 hy => by
    have := d_int hx; subst this
    have := d_int hy; subst this
    refine ⟨i, j, rfl, rfl, hr, fun a ha => ?_⟩
    rw [rgV_I]
    obtain ⟨n, k3⟩ := k2.cell (c := .lst ((rgI i j).map PyData.int)) (o := .lst ((rgI i j).map V.int)) ha (ints_dpAll _)
    exact z a _ M2 (e1.trans e2) n k3
theorem ew_listRg1 {ta : TE} {j : Int} (h1 : Ec K ta ρ C (pD K (.int j)) C1) (hr : RgOk 0 j) : Ew K (tLstRg (tRg1 ta)) ρ C (.lst ((rgI 0 j).map PyData.int)) C1 := fun σ H M Q e k z =>
  h1 σ H M _ e k fun x H1 M1 e1 k1 hx => by
    have := d_int hx; subst this
    refine ⟨j, rfl, hr, fun a ha => ?_⟩
    rw [rgV_I]
    obtain ⟨n, k3⟩ := k1.cell (c := .lst ((rgI 0 j).map PyData.int)) (o := .lst ((rgI 0 j).map V.int)) ha (ints_dpAll _)
    exact z a _ M1 e1 n k3
/-- k in x, a list of numbers -/
theorem inV_ints (k : Int) : ∀ ns : List Int, inV (.int k) (ns.map V.int) = decide (k ∈ ns)
  | [] => rfl
  | n :: ns => by
    have ih := inV_ints k ns
    unfold inV at ih ⊢
    rw [List.map_cons, List.any_cons, ih]
    have e : eqV (.int n) (.int k) = decide (n = k) := rfl
    rw [e]
    by_cases h : n = k
    · subst h; simp
    · have h' : ¬ k = n := fun q => h q.symm
      rw [decide_eq_false h, Bool.false_or]
      apply Bool.eq_iff_iff.mpr
      simp [h']
theorem flat_ints (ns : List Int) : (ns.map V.int).all flatV = true := by
  rw [List.all_map, List.all_eq_true]
  intro x _; rfl
theorem er_inI {k : Int} {ns : List Int} (hd : Dat K C q (.list (ns.map PyData.int))) : Er K (rIn K false) C (pD K (.int k)) q (pD K (.bool (decide (k ∈ ns)))) C := fun x y H M Q o hx hy z => by
  have := d_int hx; subst this
  obtain ⟨a, xs, rfl, h1, h2⟩ := hd.list o hy
  have := dpAll_ints h2; subst this
  refine ⟨a, _, rfl, .inl h1, rfl, flat_ints ns, z _ H M (Same.refl _) o ?_⟩
  rw [if_neg Bool.false_ne_true, inV_ints]; exact .bl _
theorem er_notInI {k : Int} {ns : List Int} (hd : Dat K C q (.list (ns.map PyData.int))) : Er K (rIn K true) C (pD K (.int k)) q (pD K (.bool (!decide (k ∈ ns)))) C := fun x y H M Q o hx hy z => by
  have := d_int hx; subst this
  obtain ⟨a, xs, rfl, h1, h2⟩ := hd.list o hy
  have := dpAll_ints h2; subst this
  refine ⟨a, _, rfl, .inl h1, rfl, flat_ints ns, z _ H M (Same.refl _) o ?_⟩
  rw [if_pos rfl, inV_ints]; exact .bl _
/-- dict([..]) of pairs that aren't told -/
theorem ewe_dictP {φ : List (Int × Int) → Prop} (h : Ec K te ρ C (pE K (isLs fun ds => ∃ T, ds = T.map dPair ∧ (T.map (·.1)).Nodup ∧ φ T)) C1) : EwE K (tCB (fun xs H Q => ∃ (a : Addr) (ps : List Addr) (kvs : List (Key × V)), xs = [.ref a] ∧ SqL K H a (ps.map V.ref) ∧ Paired (fun p kv => SqT K H p [kV kv.1, kv.2]) ps kvs ∧
    ∀ p, H p = none → Q (.ref p) (upd H p (.dK (mergeK [] kvs)))) (tCons te tNil)) ρ C (fun c => ∃ T, c = .dic (dT T) ∧ (T.map (·.1)).Nodup ∧ φ T) C1 := fun σ H M Q e k z =>
  ea_cons h ea_nil σ H M _ e k fun vs H1 M1 e1 k1 h1 => by
    match vs, h1 with
    | [v], ⟨⟨d, hd, hv⟩, _⟩ =>
      obtain ⟨ds, rfl, T, rfl, hn, hT⟩ := hd
      exact ewk_dictP (T := T) hn [v] H1 M1 Q k1 ⟨hv, trivial⟩ fun a H2 M2 s2 n2 k2 => z a _ H2 M2 (e1.trans s2) ⟨T, rfl, hn, hT⟩ n2 k2
theorem ex_dputI {k : Int} {a : Addr} (hv : Ec K tv ρ C (pI f) C1) (h : Ec K td ρ C1 (pRef a) C2) (hy : Ec K ty ρ C2 (pD K (.int k)) C3) (hc : C3 a = some (.dic (dT T))) (hl : T.length < sizeLine)
    (n : ∀ v, f v → Nx K M0 D.nx ρ (updC C3 a (.dic (dT (putT T k v))))) : Ex K M0 (sDPut td ty tv) D ρ C := fun σ H M s e o =>
  hv σ H M _ e o fun x H1 M1 s1 o1 ⟨v, hfv, hx⟩ => h σ H1 M1 _ (e.mono s1) o1 fun y H2 M2 s2 o2 hy2 => hy σ H2 M2 _ ((e.mono s1).mono s2) o2 fun z H3 M3 s3 o3 hz => by
    subst hx
    have hy2 : y = .ref a := hy2
    subst hy2
    have := d_int hz; subst this
    obtain ⟨kvs, h1, h2⟩ := o3.dic hc
    have := dicOk_T h2; subst this
    refine ⟨a, _, rfl, DPut.k (k := .inl k) h1 (by unfold vT; rw [List.length_map]; exact hl), ?_⟩
    rw [putK_T]
    exact n v hfv σ _ M3 (s.trans ((s1.trans s2).trans s3)) (e.mono ((s1.trans s2).trans s3)) (o3.set hc (T_dicOk _))
theorem eg_pairP {i j : Nat} : Eg K (gTup K 2 (gCons (gName i) (gCons (gName j) gNil))) ρ C (pT [p, q]) ((ρ.set i (some p)).set j (some q)) C := fun v σ H M Q en k hv z => by
  obtain ⟨a, xs, rfl, h1, h2⟩ := hv
  match xs, h2 with
  | [x, y], ⟨hx, hy, _⟩ =>
    exact ⟨a, _, rfl, .inl (.inl (k.fz _ _ h1)), rfl, _, _, rfl, _, _, rfl, rfl, z _ H M (Same.refl _) ((en.set hx i).set hy j) k⟩
theorem ex_sasgGX {ι : Type} {φ : ι → Prop} {pp : ι → Pd} {g : TG} (h : Ec K te ρ C (pX φ pp) C1) (k : ∀ x, φ x → ∃ ρ' C2, Eg K g ρ C1 (pp x) ρ' C2 ∧ Ex K M0 u D ρ' C2) : Ex K M0 (tSeq (tAsg te g) u) D ρ C := ex_seq fun σ H M s e o =>
  h σ H M _ e o fun v H1 M1 s1 o1 ⟨x, hx, hv⟩ => by
    obtain ⟨ρ', C2, hg, k⟩ := k x hx
    exact hg v σ H1 M1 _ (e.mono s1) o1 hv fun σ' H2 M2 s2 e2 o2 => k σ' H2 M2 ((s.trans s1).trans s2) e2 o2
end
/-- a cell of this def's own is told -/
theorem ex_retC {K : PySem.W.Frag} {M0 : Hp} {te : TE} {D : Ends} {ρ : En} {C : Cs} {a : Addr} {c : Cell} (h : Ec K te ρ (updC C a c) (pRef a) (updC C a c)) (k : RtW K M0 D.rt c C) (ha : C a = none) : Ex K M0 (tRet te) D ρ (updC C a c) := fun σ H M s e o =>
  h σ H M _ e o fun v H1 M1 s1 o1 hv => by
    have hv : v = .ref a := hv
    subst hv
    exact k a H1 M1 (s.trans s1) ha o1
/-- three cells beside the others -/
def three (C : Cs) (a b c : Addr) (x y z : Cell) : Cs := updC (updC (updC C a x) b y) c z
section
variable {C : Cs} {a b c : Addr} {x y z w : Cell}
theorem three_a (h1 : a ≠ b) (h2 : a ≠ c) : three C a b c x y z a = some x := by unfold three; rw [updC_ne h2, updC_ne h1, updC_same]
theorem three_b (h : b ≠ c) : three C a b c x y z b = some y := by unfold three; rw [updC_ne h, updC_same]
theorem three_c : three C a b c x y z c = some z := updC_same
theorem three_o {d : Addr} (h1 : d ≠ a) (h2 : d ≠ b) (h3 : d ≠ c) : three C a b c x y z d = C d := by unfold three; rw [updC_ne h3, updC_ne h2, updC_ne h1]
theorem three_ua (h1 : a ≠ b) (h2 : a ≠ c) : updC (three C a b c x y z) a w = three C a b c w y z := by
  unfold three; rw [updC_comm h2.symm, updC_comm h1.symm, updC_updC]
theorem three_ub (h : b ≠ c) : updC (three C a b c x y z) b w = three C a b c x w z := by
  unfold three; rw [updC_comm h.symm, updC_updC]
theorem three_uc : updC (three C a b c x y z) c w = three C a b c x y w := updC_updC
theorem three_sub (ha : C a = none) (hb : C b = none) (hc : C c = none) : Sub C (three C a b c x y z) := Sub.updU hc (Sub.updU hb (Sub.upd ha))
end
/-- pe_bm with the written part by name (for comprehensions) -/
theorem pe_bmK {X : Cx} {o e : Expr} {es : List Expr} {to : TE} {t : TA} {name : Str} {apos cpos : Pos} {T id : String} {r : V → List V → Hp → VK → Prop} (K : PySem.W.Frag) (hK : X.K = K)
    (pa : PlainAttrs T) (slot : Slot T name id) (hty : typeOf (.builtin id) = pure (.type "method_descriptor")) (hm : MtR X id r) (ho : PE X o to) (ha : PA X (e :: es) t)
    (hbase : attributeBase o name X.env (eval o X.env) = eval o X.env := by rfl)
    (hfew : ((backTo cpos (starEach (e :: es) X.env)).all (fun x => !x.1) && (backToKw cpos (keywordEach [] X.env)).all (fun x => x.1.isSome)
      && decide ((e :: es).length + ([] : List Keyword).length + (if ([] : List Keyword).isEmpty then 0 else 1) < 30)) = true := by rfl)
    (hline : (apos.endLine == cpos.line) = true := by rfl) (hs : starEach (e :: es) X.env = (false, eval e X.env) :: starEach es X.env := by rfl) (hplain : (backTo cpos (starEach es X.env)).any (·.1) = false := by rfl) :
    PE X (.Call (.Attribute o name apos) (e :: es) [] cpos) (tBM K T r to t) := by
  subst hK
  exact pe_bm pa slot hty hm ho ha hbase hfew hline hs hplain
end Fz

open PySem PySem.Spec PyProof.Rows L2 Fz in
local macro_rules | `(tactic| walk_at "ev") => `(tactic| repeat' (first
  | with_reducible exact Fz.ec_int
  | ((with_reducible apply Fz.ec_var); exact rfl)
  | with_reducible exact Fz.ec_str
  | with_reducible exact Fz.ec_bl
  | with_reducible exact Fz.ec_non
  | with_reducible apply Fz.ec_op
  | with_reducible apply Fz.ec_neg
  | with_reducible exact Fz.er_add
  | with_reducible exact Fz.er_sub
  | with_reducible apply Fz.er_mul
  | with_reducible apply Fz.er_mod
  | with_reducible apply Fz.er_div
  | with_reducible apply Fz.er_divW
  | with_reducible apply Fz.er_pow
  | with_reducible exact Fz.er_lt
  | with_reducible exact Fz.er_le
  | with_reducible exact Fz.er_gt
  | with_reducible exact Fz.er_ge
  | with_reducible exact Fz.er_eqI
  | with_reducible exact Fz.er_neI
  | with_reducible exact Fz.er_eqS
  | with_reducible exact Fz.er_neS
  | with_reducible exact Fz.er_eqB
  | with_reducible exact Fz.er_neB
  | with_reducible apply Fz.er_ixC
  | with_reducible apply Fz.er_ixT
  | with_reducible apply Fz.er_ixL
  | with_reducible apply Fz.er_rep1
  | with_reducible apply Fz.er_catT
  | with_reducible apply Fz.ec_tupD
  | with_reducible apply Fz.ec_lstD
  | with_reducible exact Fz.ead_nil
  | with_reducible apply Fz.ead_cons
  | with_reducible exact Fz.ea_nil
  | with_reducible apply Fz.ea_cons
  | with_reducible apply Fz.ec_cb
  | with_reducible exact Fz.ek_abs
  | with_reducible exact Fz.ek_max2
  | with_reducible exact Fz.ek_min2
  | with_reducible exact Fz.ek_lenL
  | with_reducible exact Fz.ek_lenT
  | with_reducible apply Fz.ek_lenC
  | with_reducible apply Fz.ek_lenS
  | with_reducible exact Fz.ek_isI
  | with_reducible exact Fz.ek_isB
  | with_reducible exact Fz.ek_isS
  | with_reducible exact Fz.ek_isL
  | with_reducible exact Fz.ek_isT
  | with_reducible exact Fz.ec_val
  | with_reducible apply Fz.et_test
  | with_reducible apply Fz.et_B
  | with_reducible apply Fz.et_not
  | with_reducible apply Fz.ec_chain
  | with_reducible exact Fz.er_inS
  | with_reducible exact Fz.er_notInS
  | with_reducible apply Fz.et_or
  | with_reducible apply Fz.et_and
  | with_reducible apply Fz.ec_orV
  | with_reducible apply Fz.ec_andV
  | with_reducible apply Fz.ec_notV
  | with_reducible exact Fz.eo_none
  | with_reducible apply Fz.eo_some
  | with_reducible apply Fz.ec_slT
  | ((with_reducible show _ ≤ PySem.sizeLine); exact Nat.le_of_ble_eq_true rfl)
  | ((with_reducible show _ = _ → _); intro _)
  | ((with_reducible show _ = some _); (first | assumption | exact Fz.updC_same))
  | exact L2.atI_nat (j := 0) rfl
  | exact L2.atI_nat (j := 1) rfl
  | exact L2.atI_nat (j := 2) rfl
  | exact L2.atI_nat (j := 3) rfl
  | exact L2.atI_nat (j := 4) rfl
  | exact L2.atI_nat (j := 5) rfl))
open PySem PySem.Spec PyProof.Rows L2 Fz in
local macro_rules | `(tactic| walk_at "evc") => `(tactic| ((first | with_reducible apply Fz.Ec.conv | with_reducible apply Fz.Et.conv | with_reducible apply Fz.Ea.conv | with_reducible apply Fz.EaD.conv); (walk_at "ev"); (all_goals (try exact rfl))))
local macro_rules | `(tactic| walk_at "le") => `(tactic| repeat (first | exact Fz.EnvLe.nil | apply Fz.EnvLe.same | apply Fz.EnvLe.drop))

namespace Cd
open PySem PySem.Spec PyProof.Rows L2 Fz
def topS (i : Nat) : Stmt := PySem.Challenge.pw_chaindisk_k09_chains_told.main.body.getD i (.Pass ⟨0, 0, 0, 0⟩)
abbrev s_chain_from : Stmt := topS 7
theorem sc_chain_from : FnScope ["table", "block", "found", "word"] ["table", "block"] (defScope s_chain_from) := ⟨rfl, rfl, rfl, by decide +kernel, rfl, by decide +kernel, by decide +kernel⟩
abbrev s__law_digits : Stmt := topS 9
theorem sc__law_digits : FnScope ["_law_script", "_law_k", "_law_cell"] ["_law_script", "_law_k"] (defScope s__law_digits) := ⟨rfl, rfl, rfl, by decide +kernel, rfl, by decide +kernel, by decide +kernel⟩
abbrev s__law_take : Stmt := topS 10
theorem sc__law_take : FnScope ["_law_held", "_law_many", "_law_found"] ["_law_held", "_law_many"] (defScope s__law_take) := ⟨rfl, rfl, rfl, by decide +kernel, rfl, by decide +kernel, by decide +kernel⟩
abbrev s__law_laid : Stmt := topS 11
theorem sc__law_laid : FnScope ["_law_held", "_law_count", "_law_table", "_law_pool", "_law_chains", "_law_k", "_law_many", "_law_chain", "_law_j"] ["_law_held"] (defScope s__law_laid) := ⟨rfl, rfl, rfl, by decide +kernel, rfl, by decide +kernel, by decide +kernel⟩
abbrev s_law : Stmt := topS 12
theorem sc_law : FnScope ["_law_script", "_law_k", "_law_held", "_law_table", "_law_chains", "_law_handed", "_law_chain", "_law_at", "_law_told", "_law_block"] ["_law_script"] (defScope s_law) := ⟨rfl, rfl, rfl, by decide +kernel, rfl, by decide +kernel, by decide +kernel⟩
structure Txt (K : PySem.W.Frag) (mg : Str → Option Value) : Prop where
  b_abs : mg "abs" = none
  b_bool : mg "bool" = none
  b_dict : mg "dict" = none
  b_isinstance : mg "isinstance" = none
  b_len : mg "len" = none
  b_list : mg "list" = none
  b_max : mg "max" = none
  b_min : mg "min" = none
  b_range : mg "range" = none
  c_FREE : ∃ t, mg "FREE" = some (.int 0 t)
  c_END : ∃ t, mg "END" = some (.int 1 t)
  c_BAD : ∃ t, mg "BAD" = some (.int 2 t)
section
variable {P : Program} {w : World} {K : PySem.W.Frag} {mg : Str → Option Value} {base : Heap}
/-! ### chain_from -/
/-- a chain: each block's word names the next one, the last one's is 1 -/
def LinkT (T : List (Int × Int)) : List Int → Prop
  | [] => True
  | [b] => getT T b = some 1
  | b :: c :: r => getT T b = some c ∧ LinkT T (c :: r)
structure ChT (T : List (Int × Int)) (ch : List Int) : Prop where
  link : LinkT T ch
  nodup : ch.Nodup
  big : ∀ b ∈ ch, 3 ≤ b
  len : ch.length ≤ 1000
theorem LinkT.at {T : List (Int × Int)} : ∀ {ch : List Int} {j : Nat}, LinkT T ch → j < ch.length → getT T (ch.getD j 0) = some ((ch ++ [1]).getD (j + 1) 0)
  | [], j, _, h => by simp at h
  | [b], 0, h, _ => h
  | [b], j + 1, _, h => by simp at h
  | b :: c :: r, 0, h, _ => h.1
  | b :: c :: r, j + 1, h, hj => LinkT.at (ch := c :: r) (j := j) h.2 (by simpa using hj)
def sp_chain_from (K : PySem.W.Frag) : Sp := spW (γ := Pd × List (Int × Int) × Int × List Int) K (fun g => [g.1, pD K (.int g.2.2.1)]) (fun g C => DDat K C g.1 g.2.1 ∧ ChT g.2.1 (g.2.2.1 :: g.2.2.2)) (fun g => .lst ((g.2.2.1 :: g.2.2.2).map PyData.int)) (fun _ C => C)

theorem ok_chain_from {f : Addr} {fd : FuncData} (D : Def K mg "chain_from" s_chain_from ["table", "block"] f fd) (T : Txt K mg) : Cal P w K mg base CX0 "chain_from" 1 ["table", "block"] (sp_chain_from K) f fd := by
  refine ⟨okW D.F sc_chain_from (fun _ => rfl) (fun cdv Ar outer s H E hr => ⟨_, (pss_cons (ps_if (pt_cmp (pc_dnotin (hu_of hr) (pv 1) (pv 0)))
  (pss_one Fz.ps_dead) pss_nil)
  (pss_cons (ps_set (i := 2) sc_chain_from.nd rfl (by first | exact .inl rfl | exact .inr rfl) (pe_lst (pa_cons (pv 1) pa_nil)))
  (pss_cons (ps_while PassesOwn.never (pt_cmpR op_ne (pe_dget (hu_of hr) (pv 0) (pe_ix ix_list (pv 2) (pe_un un_neg pe_int) (fun _ _ => rfl)) (fun _ _ => rfl)) (pe_glob (v := .int 1) (by rfl) T.c_END.choose_spec ⟨_, rfl⟩) (nomark _))
  (pss_cons (ps_set (i := 3) sc_chain_from.nd rfl (by first | exact .inl rfl | exact .inr rfl) (pe_dget (hu_of hr) (pv 0) (pe_ix ix_list (pv 2) (pe_un un_neg pe_int) (fun _ _ => rfl)) (fun _ _ => rfl)))
  (pss_cons (ps_if (pw_or (pt_cmpR op_eq (pv 3) (pe_glob (v := .int 0) (by rfl) T.c_FREE.choose_spec ⟨_, rfl⟩) (nomark _)) (pw_or (pt_cmpR op_eq (pv 3) (pe_glob (v := .int 2) (by rfl) T.c_BAD.choose_spec ⟨_, rfl⟩) (nomark _)) (pw_or (pt_cmp (pc_dnotin (hu_of hr) (pv 3) (pv 0))) (pw_or1 (pt_cmpR op_in_seq (pv 3) (pv 2) (by rfl)))))).pt
  (pss_one Fz.ps_dead) pss_nil)
  (pss_one (ps_expr (pe_bm PySem.F.plainAttrs_list PySem.F.slot_list_append PySem.F.type_list_append mt_append (pv 2) (pa_cons (pv 3) pa_nil)))))))
  (pss_one (ps_ret (pv 2)))))), fun g C M0 R hp hR => ?_⟩), D.g, D.F.kp, D.b⟩
  try dsimp only [cxOf, Cx.nox, Cx.wish]
  show Ex K M0 _ _ [some _, some _, none, none] C
  obtain ⟨p, T, b, r⟩ := g
  dsimp only at hp hR ⊢
  obtain ⟨hd, ht⟩ := hp
  generalize hch : b :: r = ch at ht hR
  have hb0 : ch.getD 0 0 = b := by rw [← hch]; rfl
  have hl0 : 0 < ch.length := by rw [← hch]; simp
  have hb : ∃ v, getT T b = some v := ⟨_, by have := ht.link.at hl0; rw [hb0] at this; exact this⟩
  obtain ⟨v0, hv0⟩ := hb
  refine ex_sif0 (b := !true) (et_test (Ec.conv (ec_dnotin (ec_var rfl) (ec_var rfl) hd) (by rw [hv0]; rfl))) (fun h => nomatch h) (fun _ => ?_)
  refine ex_sasgW (C1 := C) (ew_lstD (ead_cons (ec_var rfl) ead_nil)) (fun a ha => ?_)
  have hz : ∀ {n : Nat}, n ≤ 1000 → n < sizeLine := fun h => Nat.lt_of_le_of_lt h (by decide)
  have hlen := ht.len
  have last : ∀ {j : Nat}, j < ch.length → atI (((ch.take (j + 1)).map PyData.int)) (-1) = some (.int (ch.getD j 0)) := fun {j} hj => by
    have hl : ((ch.take (j + 1)).map PyData.int).length = j + 1 := by rw [List.length_map, List.length_take]; omega
    unfold atI ixN
    rw [if_neg (by decide), if_pos (by rw [hl]; omega), hl]
    show ((ch.take (j + 1)).map PyData.int)[((-1 : Int) + ((j + 1 : Nat) : Int)).toNat]? = _
    rw [show ((-1 : Int) + ((j + 1 : Nat) : Int)).toNat = j by omega, List.getElem?_map, List.getElem?_take, if_pos (by omega), List.getD_eq_getElem?_getD, List.getElem?_eq_getElem hj]; rfl
  refine ex_swhile (fun m ρ' C' => ∃ (j : Nat) (x : Option Pd), j < ch.length ∧ m = ch.length - j ∧ ρ' = [some p, some (pD K (.int b)), some (pRef a), x] ∧ updC C a (.lst ((ch.take (j + 1)).map PyData.int)) = C') ch.length ⟨0, none, hl0, rfl, rfl, by rw [← hch]; rfl⟩ ?_
  rintro m ρ' C' ⟨j, x, hj, rfl, rfl, rfl⟩
  have hw := ht.link.at hj
  have hd' : DDat K (updC C a (.lst ((ch.take (j + 1)).map PyData.int))) p T := hd.sub (Sub.upd ha)
  refine ⟨!decide ((ch ++ [1]).getD (j + 1) 0 = 1), _, et_test (ec_op (ec_dget (ec_var rfl) (ec_op (ec_var rfl) (ec_neg ec_int) (er_ixC updC_same (last hj))) hd' hw) ec_int er_neI), fun hb => ?_, fun hb => ?_⟩
  · have hb : ¬ (ch ++ [1]).getD (j + 1) 0 = 1 := by simpa using hb
    have hj1 : j + 1 < ch.length := by
      rcases Nat.lt_or_ge (j + 1) ch.length with h | h
      · exact h
      · refine absurd ?_ hb
        rw [List.getD_eq_getElem?_getD, List.getElem?_append_right h, show j + 1 - ch.length = 0 by omega]; rfl
    have ew : (ch ++ [1]).getD (j + 1) 0 = ch.getD (j + 1) 0 := by
      rw [List.getD_eq_getElem?_getD, List.getElem?_append_left hj1, List.getD_eq_getElem?_getD]
    have hm : ch.getD (j + 1) 0 ∈ ch := by rw [List.getD_eq_getElem?_getD, List.getElem?_eq_getElem hj1]; exact List.getElem_mem hj1
    have h3 := ht.big _ hm
    have hv := ht.link.at hj1
    have hni : ch.getD (j + 1) 0 ∉ ch.take (j + 1) := by
      intro h
      obtain ⟨i, hi, e⟩ := List.getElem_of_mem h
      rw [List.length_take] at hi
      rw [List.getElem_take, List.getD_eq_getElem?_getD, List.getElem?_eq_getElem hj1] at e
      exact List.pairwise_iff_getElem.mp ht.nodup i (j + 1) (by omega) hj1 (by omega) e
    rw [ew] at hw
    refine ⟨fun ρ' C' => ∃ (x : Option Pd), ρ' = [some p, some (pD K (.int b)), some (pRef a), x] ∧ updC C a (.lst ((ch.take (j + 1 + 1)).map PyData.int)) = C', fun ρ' C' ⟨x, h1, h2⟩ => ⟨ch.length - (j + 1), by omega, j + 1, x, hj1, rfl, h1, h2⟩, ?_⟩
    refine ex_sasg (C1 := updC C a (.lst ((ch.take (j + 1)).map PyData.int))) (ec_dget (ec_var rfl) (ec_op (ec_var rfl) (ec_neg ec_int) (er_ixC updC_same (last hj))) hd' hw) ?_
    refine ex_sif0 (b := false || (false || (!true || false))) ?_ (fun h => nomatch h) (fun _ => ?_)
    · refine et_or (et_test (Ec.conv (ec_op (ec_var rfl) ec_int er_eqI) (by rw [decide_eq_false (by omega)]))) (fun _ => et_or (et_test (Ec.conv (ec_op (ec_var rfl) ec_int er_eqI) (by rw [decide_eq_false (by omega)]))) (fun _ => et_or (et_test (Ec.conv (ec_dnotin (ec_var rfl) (ec_var rfl) hd') (by rw [hv]; rfl))) (fun _ => et_test (Ec.conv (ec_op (ec_var rfl) (ec_var rfl) (er_inI (dat_C updC_same))) (by rw [decide_eq_false hni])))))
    refine ex_drop (C1 := updC C a (.lst ((ch.take (j + 1 + 1)).map PyData.int))) (Ec.conv' (ec_append (ec_var rfl) updC_same (ec_var rfl) updC_same (hz (by rw [List.length_map, List.length_take]; omega))) ?_) (nx_I ⟨_, rfl, rfl⟩)
    rw [updC_updC, List.take_succ_eq_append_getElem (i := j + 1) hj1, List.map_append, List.getD_eq_getElem?_getD, List.getElem?_eq_getElem hj1]; rfl
  · have hb : (ch ++ [1]).getD (j + 1) 0 = 1 := by simpa using hb
    have hj1 : ¬ j + 1 < ch.length := fun hj1 => by
      have ew : (ch ++ [1]).getD (j + 1) 0 = ch.getD (j + 1) 0 := by
        rw [List.getD_eq_getElem?_getD, List.getElem?_append_left hj1, List.getD_eq_getElem?_getD]
      have hm : ch.getD (j + 1) 0 ∈ ch := by rw [List.getD_eq_getElem?_getD, List.getElem?_eq_getElem hj1]; exact List.getElem_mem hj1
      have h3 := ht.big _ hm
      omega
    have e : ch.take (j + 1) = ch := List.take_of_length_le (by omega)
    rw [e]
    exact Nx.of (ex_retC (ec_var rfl) hR ha)

/-! ### _law_digits -/
/-- a cell of the script, 0 where there is none -/
def cellN (ns : List Int) (k : Nat) : Int := ns.getD k 0
def dig0 (c : Int) : Int := (if c < 0 then -c else c) / 2 * (c % 2)
def dig1 (c : Int) (k : Nat) : Int := (c % 2147483647 * 48271 + 40692 * (k : Int) + 11) % 2147483629
theorem dig0_ok (c : Int) : 0 ≤ dig0 c := by
  unfold dig0
  apply Int.mul_nonneg
  · split <;> omega
  · omega
theorem dig1_ok (c : Int) (k : Nat) : 0 ≤ dig1 c k ∧ dig1 c k < 2147483647 := by unfold dig1; omega
def sp__law_digits (K : PySem.W.Frag) : Sp := spW (γ := List Int × Nat) K (fun g => [pD K (.list (g.1.map PyData.int)), pD K (.int (g.2 : Int))]) (fun g _ => g.2 ≤ 1000)
  (fun _ => purse2) (fun _ C => C)

theorem ok__law_digits {f : Addr} {fd : FuncData} (D : Def K mg "_law_digits" s__law_digits ["_law_script", "_law_k"] f fd) (T : Txt K mg) : Cal P w K mg base CX0 "_law_digits" 1 ["_law_script", "_law_k"] (sp__law_digits K) f fd := by
  refine ⟨okW D.F sc__law_digits (fun _ => rfl) (fun cdv Ar outer s H E hr => ⟨_, (pss_cons (ps_set (i := 2) sc__law_digits.nd rfl (by first | exact .inl rfl | exact .inr rfl) pe_int)
  (pss_cons (ps_if (pt_cmpR op_lt (pv 1) (pe_callB call_len_seq (by rfl) T.b_len PySem.boot_len (pa_cons (pv 0) pa_nil)) (nomark _))
  (pss_one (ps_set (i := 2) sc__law_digits.nd rfl (by first | exact .inl rfl | exact .inr rfl) (pe_ix ix_list (pv 0) (pv 1) (fun _ _ => rfl)))) pss_nil)
  (pss_one (ps_ret (pe_lst (pa_cons (pe_op op_mul (pe_op op_fdiv (pe_callB call_abs (by rfl) T.b_abs (by decide +kernel) (pa_cons (pv 2) pa_nil)) pe_int) (pe_op op_mod (pv 2) pe_int)) (pa_cons (pe_op op_mod (pe_op op_add (pe_op op_add (pe_op op_mul (pe_op op_mod (pv 2) pe_int) pe_int) (pe_op op_mul pe_int (pv 1))) pe_int) pe_int) pa_nil))))))), fun g C M0 R hp hR => ?_⟩), D.g, D.F.kp, D.b⟩
  try dsimp only [cxOf, Cx.nox, Cx.wish]
  show Ex K M0 _ _ [some _, some _, none] C
  obtain ⟨ns, k⟩ := g
  dsimp only at hp hR ⊢
  replace hR : RtW K M0 R (.lst [.int (dig0 (cellN ns k)), .int (dig1 (cellN ns k) k)]) C := hR.imp (purse2_of (dig0_ok _) (dig1_ok _ _))
  unfold dig0 dig1 at hR
  refine ex_sasg ec_int (ex_sifA (b := decide ((k : Int) < ((ns.map PyData.int).length : Int))) (p := pD K (.int (cellN ns k))) (q := pD K (.int 0)) ?_ rfl (fun hb => ?_) (fun hb => ?_) (ex_retW (C1 := C) (ew_lstD ?_) hR))
  · walk_at "ev"
  · have h : (k : Int) < ((ns.map PyData.int).length : Int) := of_decide_eq_true hb
    rw [List.length_map] at h
    have h' : k < ns.length := by omega
    refine ec_op (ec_var rfl) (ec_var rfl) (er_ixL (atI_nat (j := k) ?_))
    rw [List.getElem?_map, List.getElem?_eq_getElem h']
    show some (PyData.int ns[k]) = some (PyData.int (cellN ns k))
    unfold cellN
    rw [List.getD_eq_getElem?_getD, List.getElem?_eq_getElem h']; rfl
  · have h : ¬ (k : Int) < ((ns.map PyData.int).length : Int) := of_decide_eq_false hb
    rw [List.length_map] at h
    unfold cellN
    rw [List.getD_eq_getElem?_getD, List.getElem?_eq_none (by omega)]; rfl
  · have e1 : (cellN ns k) % 2 < 2 := by omega
    have e2 : 0 ≤ (cellN ns k) % 2 := by omega
    walk_at "ev"
    · exact ⟨by decide, by decide⟩
    · decide
    · exact .inr ⟨by omega, by omega⟩
    · decide
    · exact .inr ⟨by decide, by decide⟩
    · exact .inl ⟨by decide, by decide⟩
    · decide

/-! ### _law_take -/
def mix (h : Int) : Int := (h * 48271 + 12345) % 2147483647
/-- what a purse gives, and what it holds then -/
def tk (h : Int × Int) (m : Int) : Int := if 0 < h.1 then h.1 % m else
  (if 100000000 < m then (mix h.2 * mix h.2 % 2147483629 / 5 * 2147483629 + mix (mix h.2) * mix (mix h.2) % 2147483629) else mix h.2 * mix h.2 % 2147483629 / 5) % m
def tkS (h : Int × Int) (m : Int) : Int × Int := if 0 < h.1 then (h.1 / m, h.2) else (h.1, if 100000000 < m then mix (mix h.2) else mix h.2)
def Purse (h : Int × Int) : Prop := 0 ≤ h.1 ∧ 0 ≤ h.2 ∧ h.2 < 2147483647
def dPurse (h : Int × Int) : Cell := .lst [.int h.1, .int h.2]
theorem mix_ok (h : Int) : 0 ≤ mix h ∧ mix h < 2147483647 := by unfold mix; omega
theorem tk_ok {h : Int × Int} {m : Int} (hm : 0 < m) : 0 ≤ tk h m ∧ tk h m < m := by
  unfold tk
  split
  · exact ⟨Int.emod_nonneg _ (by omega), Int.emod_lt_of_pos _ hm⟩
  · exact ⟨Int.emod_nonneg _ (by omega), Int.emod_lt_of_pos _ hm⟩
theorem tkS_ok {h : Int × Int} {m : Int} (ho : Purse h) (hm : 0 < m) : Purse (tkS h m) := by
  unfold tkS Purse at *
  split
  · exact ⟨Int.ediv_nonneg ho.1 (by omega), ho.2⟩
  · have h1 := mix_ok h.2
    have h2 := mix_ok (mix h.2)
    refine ⟨ho.1, ?_⟩
    dsimp only
    split
    · exact h2
    · exact h1
def sp__law_take (K : PySem.W.Frag) : Sp := spF (γ := Addr × Int) K (fun g => [pRef g.1, pD K (.int g.2)]) (fun g C => C g.1 = some purse2 ∧ 0 < g.2 ∧ g.2 ≤ 1000000000000)
  (fun g => pI (fun i => 0 ≤ i ∧ i < g.2)) (fun _ C => C)
theorem sq_small {x : Int} (h : 0 ≤ x ∧ x < 2147483647) : CMul x x := .inl ⟨by omega, by omega⟩
theorem ec_takeI {K : PySem.W.Frag} {ρ : En} {C : Cs} {a : Addr} {f : Int → Prop} {tv tm : TE} {E : XK} (hv : Ec K tv ρ C (pRef a) C) (hc : C a = some purse2) (hm : Ec K tm ρ C (pI f) C)
    (h0 : ∀ m, f m → 0 < m ∧ m ≤ 1000000000000) : Ec K (tCall (sp__law_take K) [] E (tCons tv (tCons tm tNil))) ρ C (pI fun i => ∃ m, f m ∧ 0 ≤ i ∧ i < m) C :=
  ec_callK (ea_cons hv (ea_cons hm ea_nil)) (ek_i1 fun m hm => (ek_sp (a, m) ⟨hc, h0 m hm⟩).mapI fun i hi => ⟨m, hm, hi⟩)
theorem ec_take {K : PySem.W.Frag} {ρ : En} {C : Cs} {a : Addr} {m : Int} {tv tm : TE} {E : XK} (hv : Ec K tv ρ C (pRef a) C) (hm : Ec K tm ρ C (pD K (.int m)) C) (hc : C a = some purse2)
    (h0 : 0 < m) (h1 : m ≤ 1000000000000) : Ec K (tCall (sp__law_take K) [] E (tCons tv (tCons tm tNil))) ρ C (pI fun i => 0 ≤ i ∧ i < m) C :=
  ec_call (ps := []) (a, m) (ea_cons hv (ea_cons hm ea_nil)) ⟨hc, h0, h1⟩

theorem ok__law_take {f : Addr} {fd : FuncData} (D : Def K mg "_law_take" s__law_take ["_law_held", "_law_many"] f fd) (T : Txt K mg) : Cal P w K mg base CX0 "_law_take" 1 ["_law_held", "_law_many"] (sp__law_take K) f fd := by
  refine ⟨okF D.F sc__law_take (fun _ => rfl) (fun cdv Ar outer s H E hr => ⟨_, (pss_cons (ps_if (pt_cmpR op_gt (pe_ix ix_list (pv 0) pe_int (fun _ _ => rfl)) pe_int (nomark _))
  (pss_cons (ps_set (i := 2) sc__law_take.nd rfl (by first | exact .inl rfl | exact .inr rfl) (pe_op op_mod (pe_ix ix_list (pv 0) pe_int (fun _ _ => rfl)) (pv 1)))
  (pss_cons (ps_asg (pe_op op_fdivW (pe_ix ix_list (pv 0) pe_int (fun _ _ => rfl)) (pv 1)) (pg_sub (pv 0) pe_int set_list))
  (pss_one (ps_ret (pv 2))))) pss_nil)
  (pss_cons (ps_asg (pe_op op_mod (pe_op op_add (pe_op op_mul (pe_ix ix_list (pv 0) pe_int (fun _ _ => rfl)) pe_int) pe_int) pe_int) (pg_sub (pv 0) pe_int set_list))
  (pss_cons (ps_set (i := 2) sc__law_take.nd rfl (by first | exact .inl rfl | exact .inr rfl) (pe_op op_fdivW (pe_op op_mod (pe_op op_mul (pe_ix ix_list (pv 0) pe_int (fun _ _ => rfl)) (pe_ix ix_list (pv 0) pe_int (fun _ _ => rfl))) pe_int) pe_int))
  (pss_cons (ps_if (pt_cmpR op_gt (pv 1) (pe_op op_pow pe_int pe_int) (nomark _))
  (pss_cons (ps_asg (pe_op op_mod (pe_op op_add (pe_op op_mul (pe_ix ix_list (pv 0) pe_int (fun _ _ => rfl)) pe_int) pe_int) pe_int) (pg_sub (pv 0) pe_int set_list))
  (pss_one (ps_set (i := 2) sc__law_take.nd rfl (by first | exact .inl rfl | exact .inr rfl) (pe_op op_add (pe_op op_mul (pv 2) pe_int) (pe_op op_mod (pe_op op_mul (pe_ix ix_list (pv 0) pe_int (fun _ _ => rfl)) (pe_ix ix_list (pv 0) pe_int (fun _ _ => rfl))) pe_int))))) pss_nil)
  (pss_one (ps_ret (pe_op op_mod (pv 2) (pv 1)))))))), fun g C M0 R hp hR => ?_⟩), D.g, D.F.kp, D.b⟩
  try dsimp only [cxOf, Cx.nox, Cx.wish]
  show Ex K M0 _ _ [some _, some _, none] C
  obtain ⟨a, m⟩ := g
  dsimp only at hp hR ⊢
  obtain ⟨hc0, hm, hm2⟩ := hp
  refine ex_openG (cOf := dPurse) (φ := Purse) hc0 purse2_open fun h hh => ?_
  obtain ⟨h0, h1⟩ := h
  have hh' := hh
  obtain ⟨p0, p1, p2⟩ := hh
  dsimp only at p0 p1 p2
  have hc : updC C a (dPurse (h0, h1)) a = some (.lst [.int h0, .int h1]) := updC_same
  have hS := tkS_ok hh' hm
  replace hR : Rt K M0 R (pD K (.int (tk (h0, h1) m))) (updC (updC C a (dPurse (h0, h1))) a (dPurse (tkS (h0, h1) m))) := by
    rw [updC_updC]
    exact (hR.openG hc0 (purse2_of hS.1 hS.2)).ofI (tk_ok hm)
  revert hR hc
  generalize updC C a (dPurse (h0, h1)) = C1
  clear hc0
  revert C1
  clear C
  intro C hc hR
  have hw : CDivW h0 m := wide_div (b := 40) hm (by omega) (by decide) (by decide)
  have b1 := mix_ok h1
  have b2 := mix_ok (mix h1)
  refine ex_sif0 (b := decide (0 < h0)) ?_ (fun hb => ?_) (fun hb => ?_)
  · walk_at "evc"
  · have hb := of_decide_eq_true hb
    refine ex_sasg (C1 := C) (p := pD K (.int (h0 % m))) ?_ (ex_ssetL (d := .int (h0 / m)) (j := 0) ?_ (ec_var rfl) ec_int hc rfl rfl (ex_ret (ec_var rfl) ?_))
    · walk_at "evc"
      exact hm
    · walk_at "evc"
      exact hw
    · unfold tk tkS at hR
      dsimp only at hR
      rw [if_pos hb, if_pos hb] at hR
      exact hR
  · have hb := of_decide_eq_false hb
    have hc1 : updC C a (.lst [.int h0, .int (mix h1)]) a = some (.lst [.int h0, .int (mix h1)]) := updC_same
    have hc2 : updC C a (.lst [.int h0, .int (mix (mix h1))]) a = some (.lst [.int h0, .int (mix (mix h1))]) := updC_same
    have b3 : 0 ≤ mix h1 * mix h1 % 2147483629 / 5 ∧ mix h1 * mix h1 % 2147483629 / 5 < 2147483629 := by
      have q1 := Int.emod_nonneg (mix h1 * mix h1) (show (2147483629 : Int) ≠ 0 by decide)
      have q2 := Int.emod_lt_of_pos (mix h1 * mix h1) (show (0 : Int) < 2147483629 by decide)
      omega
    refine ex_ssetL (C' := updC C a (.lst [.int h0, .int (mix h1)])) (d := .int (mix h1)) (j := 1) ?_ (ec_var rfl) ec_int hc rfl rfl ?_
    · walk_at "evc"
      · exact .inr ⟨by decide, by decide⟩
      · decide
    refine ex_sasg (C1 := updC C a (.lst [.int h0, .int (mix h1)])) (p := pD K (.int (mix h1 * mix h1 % 2147483629 / 5))) ?_ ?_
    · walk_at "evc"
      · exact sq_small b1
      · decide
      · exact wide_div (b := 40) (j := 5) (by decide) (by decide) (by decide) (by decide)
    refine ex_sif0 (b := decide (100000000 < m)) ?_ (fun hb2 => ?_) (fun hb2 => ?_)
    · walk_at "evc"
      exact ⟨by decide, by decide, by decide⟩
    · have hb2 := of_decide_eq_true hb2
      refine ex_ssetL (C' := updC C a (.lst [.int h0, .int (mix (mix h1))])) (d := .int (mix (mix h1))) (j := 1) ?_ (ec_var rfl) ec_int hc1 rfl updC_updC ?_
      · walk_at "evc"
        · exact .inr ⟨by decide, by decide⟩
        · decide
      refine ex_asg (C1 := updC C a (.lst [.int h0, .int (mix (mix h1))])) (p := pD K (.int (mix h1 * mix h1 % 2147483629 / 5 * 2147483629 + mix (mix h1) * mix (mix h1) % 2147483629))) ?_ (Nx.of (ex_ret (ec_op (ec_var rfl) (ec_var rfl) (er_mod hm)) ?_))
      · walk_at "evc"
        · exact .inr ⟨by decide, by decide⟩
        · exact sq_small b2
        · decide
      · unfold tk tkS at hR
        dsimp only at hR
        rw [if_neg hb, if_neg hb, if_pos hb2, if_pos hb2] at hR
        exact hR
    · have hb2 := of_decide_eq_false hb2
      refine ex_ret (ec_op (ec_var rfl) (ec_var rfl) (er_mod hm)) ?_
      unfold tk tkS at hR
      dsimp only at hR
      rw [if_neg hb, if_neg hb, if_neg hb2, if_neg hb2] at hR
      exact hR

/-! ### _law_laid -/
def dLi (ns : List Int) : PyData := .list (ns.map PyData.int)
structure Laid (n : Nat) (T : List (Int × Int)) (P : List Int) (cs : List (List Int)) : Prop where
  keys : T.map (·.1) = rgI 3 (3 + n)
  pn : P.Nodup
  pk : ∀ x ∈ P, 3 ≤ x ∧ x < 3 + n
  ch : ∀ c ∈ cs, c ≠ [] ∧ ChT T c
  ap : ∀ c ∈ cs, ∀ x ∈ c, x ∉ P
def sp__law_laid (K : PySem.W.Frag) : Sp := spF (γ := Addr) K (fun a => [pRef a]) (fun a C => C a = some purse2) (fun _ => pX (fun x : List (Int × Int) × List (List Int) => x.1.length ≤ 100 ∧ (x.1.map (·.1)).Nodup ∧ x.2.length ≤ 100 ∧ ∀ c ∈ x.2, c ≠ [] ∧ ChT x.1 c) (fun x => pT [pDic K (dT x.1), pL K (x.2.map dLi)])) (fun _ C => C)
theorem rgI_len (a b : Int) : (rgI a b).length = (b - a).toNat := by unfold rgI; rw [List.length_map, List.length_range]
theorem rgI_nodup (a b : Int) : (rgI a b).Nodup := by
  unfold rgI
  rw [List.nodup_iff_pairwise_ne]
  refine (List.pairwise_map.mpr (List.pairwise_lt_range.imp ?_))
  intro x y h q
  have q : a + (x : Int) = a + (y : Int) := q
  omega
theorem mem_rgI {a b x : Int} : x ∈ rgI a b ↔ a ≤ x ∧ x < b := by
  unfold rgI
  constructor
  · intro h
    obtain ⟨i, hi, rfl⟩ := List.mem_map.mp h
    rw [List.mem_range] at hi
    omega
  · intro h
    exact List.mem_map.mpr ⟨(x - a).toNat, List.mem_range.mpr (by omega), by show a + ((x - a).toNat : Int) = x; omega⟩
theorem putT_keys {T : List (Int × Int)} {k v : Int} (h : k ∈ T.map (·.1)) : (putT T k v).map (·.1) = T.map (·.1) := by
  unfold putT
  rw [if_pos]
  · rw [List.map_map]
    apply List.map_congr_left
    intro p _
    simp only [Function.comp]
    split <;> rfl
  · obtain ⟨p, hp, e⟩ := List.mem_map.mp h
    rw [List.any_eq_true]
    exact ⟨p, hp, by simpa using e⟩
theorem getT_put {T : List (Int × Int)} {k v x : Int} (h : k ∈ T.map (·.1)) : getT (putT T k v) x = if x = k then some v else getT T x := by
  have ha : (T.any fun p => decide (p.1 = k)) = true := by
    obtain ⟨p, hp, e⟩ := List.mem_map.mp h
    rw [List.any_eq_true]
    exact ⟨p, hp, by simpa using e⟩
  unfold putT
  rw [if_pos ha]
  clear ha
  unfold getT
  induction T with
  | nil => simp at h
  | cons p T ih =>
    rw [List.map_cons]
    by_cases e : p.1 = k
    · rw [if_pos e]
      by_cases hx : x = k
      · rw [List.find?_cons_of_pos (by simpa using e.trans hx.symm), if_pos hx]; rfl
      · have hpx : ¬ p.1 = x := fun q => hx (q.symm.trans e)
        rw [List.find?_cons_of_neg (by simpa using hpx), if_neg hx, List.find?_cons_of_neg (by simpa using hpx)]
        by_cases hk : k ∈ T.map (·.1)
        · have := ih hk; rw [if_neg hx] at this; exact this
        · have e2 : T.map (fun p => if p.1 = k then (p.1, v) else p) = T := by
            conv => rhs; rw [← List.map_id T]
            apply List.map_congr_left
            intro q hq
            rw [if_neg (fun z => hk (List.mem_map.mpr ⟨q, hq, z⟩))]; rfl
          rw [e2]
    · rw [if_neg e]
      have hk : k ∈ T.map (·.1) := by
        rcases List.mem_cons.mp h with h | h
        · exact absurd h.symm e
        · exact h
      by_cases hpx : p.1 = x
      · rw [List.find?_cons_of_pos (by simpa using hpx), List.find?_cons_of_pos (by simpa using hpx)]
        have hx : ¬ x = k := fun q => e (hpx.trans q)
        rw [if_neg hx]
      · rw [List.find?_cons_of_neg (by simpa using hpx), List.find?_cons_of_neg (by simpa using hpx)]
        exact ih hk
theorem LinkT.congr {T S : List (Int × Int)} : ∀ {ch : List Int}, LinkT T ch → (∀ x ∈ ch, getT S x = getT T x) → LinkT S ch
  | [], _, _ => trivial
  | [b], h, e => (e b List.mem_cons_self).trans h
  | b :: c :: r, h, e => ⟨(e b List.mem_cons_self).trans h.1, LinkT.congr (ch := c :: r) h.2 fun x hx => e x (List.mem_cons_of_mem _ hx)⟩
theorem LinkT.of {T : List (Int × Int)} : ∀ {ch : List Int}, (∀ j, j < ch.length → getT T (ch.getD j 0) = some ((ch ++ [1]).getD (j + 1) 0)) → LinkT T ch
  | [], _ => trivial
  | [b], h => h 0 (by simp)
  | b :: c :: r, h => ⟨h 0 (by simp), LinkT.of (ch := c :: r) fun j hj => h (j + 1) (by simpa using hj)⟩
theorem pairs_from : ∀ (ds : List PyData) (k : Int), (∀ (i : Nat) d, ds[i]? = some d → ∃ v : Int, d = dPair (k + (i : Int), v)) → ∃ T : List (Int × Int), ds = T.map dPair ∧ T.map (·.1) = (List.range ds.length).map fun i : Nat => k + (i : Int)
  | [], k, _ => ⟨[], rfl, rfl⟩
  | d :: ds, k, h => by
    obtain ⟨v, hv⟩ := h 0 d rfl
    obtain ⟨T, rfl, hT⟩ := pairs_from ds (k + 1) fun i e he => by
      obtain ⟨v, hv⟩ := h (i + 1) e he
      exact ⟨v, by rw [hv]; congr 2; show k + ((i + 1 : Nat) : Int) = k + 1 + (i : Int); omega⟩
    refine ⟨(k, v) :: T, by rw [hv, List.map_cons]; congr 2; show (k + ((0 : Nat) : Int), v) = (k, v); simp, ?_⟩
    rw [List.map_cons, List.length_cons, List.range_succ_eq_map, List.map_cons, List.map_map, hT]
    congr 1
    · show k = k + ((0 : Nat) : Int); omega
    · apply List.map_congr_left
      intro i _
      show k + 1 + (i : Int) = k + ((i + 1 : Nat) : Int)
      omega
theorem erase_map (l : List Int) (k : Nat) : (l.map PyData.int).eraseIdx k = (l.eraseIdx k).map PyData.int := by
  induction l generalizing k with
  | nil => rfl
  | cons a l ih =>
    cases k with
    | zero => rfl
    | succ k => show PyData.int a :: (l.map PyData.int).eraseIdx k = _; rw [ih]; rfl
theorem erase_perm {l : List Int} {k : Nat} {x : Int} (h : l[k]? = some x) : (x :: l.eraseIdx k).Perm l := by
  induction l generalizing k with
  | nil => simp at h
  | cons a l ih =>
    cases k with
    | zero =>
      have e : a = x := by simpa using h
      subst e
      exact List.Perm.refl _
    | succ k =>
      have := ih (k := k) (by simpa using h)
      exact (List.Perm.swap a x _).trans (List.Perm.cons a this)
theorem nodup_len {l m : List Int} (h : l.Nodup) (hs : ∀ x ∈ l, x ∈ m) : l.length ≤ m.length := by
  induction l generalizing m with
  | nil => exact Nat.zero_le _
  | cons a l ih =>
    rw [List.nodup_cons] at h
    have ha : a ∈ m := hs a List.mem_cons_self
    have := ih (m := m.erase a) h.2 fun x hx => (List.mem_erase_of_ne (fun e : x = a => h.1 (e ▸ hx))).mpr (hs x (List.mem_cons_of_mem _ hx))
    rw [List.length_erase_of_mem ha] at this
    have : 0 < m.length := List.length_pos_of_mem ha
    rw [List.length_cons]; omega

theorem ok__law_laid {f : Addr} {fd : FuncData} (D : Def K mg "_law_laid" s__law_laid ["_law_held"] f fd) (T : Txt K mg) {f__law_take : Addr} {fd__law_take : FuncData} (c__law_take : Cal P w K mg base CX0 "_law_take" 1 ["_law_held", "_law_many"] (sp__law_take K) f__law_take fd__law_take) : Cal P w K mg base CX0 "_law_laid" 2 ["_law_held"] (sp__law_laid K) f fd := by
  refine ⟨okF D.F sc__law_laid (fun _ => rfl) (fun cdv Ar outer s H E hr => ⟨_, (pss_cons (ps_set (i := 1) sc__law_laid.nd rfl (by first | exact .inl rfl | exact .inr rfl) (pe_op op_add pe_int (pe_call c__law_take.G (hr.mono (by omega)) (by rfl) c__law_take.g c__law_take.kp c__law_take.b .nil pass0 (pa_cons (pv 0) (pa_cons pe_int pa_nil)))))
  (pss_cons (ps_set (i := 2) sc__law_laid.nd rfl (by first | exact .inl rfl | exact .inr rfl) (pe_callTy (call_dictP rfl) (by rfl) T.b_dict (by decide +kernel) (pa_cons (pe_lc (own := [("_law_k", 5)]) rfl sc__law_laid.nd (pi_range1 (by rfl) T.b_range (pa_cons (pv 1) pa_nil)) (blkOk_by (N := ["_law_held", "_law_count", "_law_table", "_law_pool", "_law_chains", "_law_k", "_law_many", "_law_chain", "_law_j"]) (sc := defScope s__law_laid) (by decide +kernel)) (fun _ _ _ _ _ => (pg_name (i := 5) sc__law_laid.nd rfl (Or.inl rfl) (Or.inr rfl))) (fun _ _ _ _ _ => pts_nil) (fun _ _ _ _ _ => (pe_tup (pa_cons (pe_op op_add pe_int (pv 5)) (pa_cons (pe_ix (r := rIxL K) ix_list (pe_lst (pa_cons pe_int (pa_cons pe_int pa_nil))) (pe_call c__law_take.G (hr.mono (by omega)) (by rfl) c__law_take.g c__law_take.kp c__law_take.b .nil pass0 (pa_cons (pv 0) (pa_cons pe_int pa_nil))) (fun _ _ => rfl)) pa_nil))))) pa_nil)))
  (pss_cons (ps_set (i := 3) sc__law_laid.nd rfl (by first | exact .inl rfl | exact .inr rfl) (pe_listRg rfl (by rfl) T.b_list (prg_2 (by rfl) T.b_range pe_int (pe_op op_add pe_int (pv 1)))))
  (pss_cons (ps_set (i := 4) sc__law_laid.nd rfl (by first | exact .inl rfl | exact .inr rfl) (pe_lst pa_nil))
  (pss_cons (ps_for PassesOwn.never rfl (pi_range1 (by rfl) T.b_range (pa_cons (pe_op op_add pe_int (pe_call c__law_take.G (hr.mono (by omega)) (by rfl) c__law_take.g c__law_take.kp c__law_take.b .nil pass0 (pa_cons (pv 0) (pa_cons pe_int pa_nil)))) pa_nil)) (pg_name (i := 5) sc__law_laid.nd rfl (by first | exact .inl rfl | exact .inr rfl))
  (pss_cons (ps_set (i := 6) sc__law_laid.nd rfl (by first | exact .inl rfl | exact .inr rfl) (pe_callB (call_min2 rfl) (by rfl) T.b_min (by decide +kernel) (pa_cons (pe_callB call_len_seq (by rfl) T.b_len PySem.boot_len (pa_cons (pv 3) pa_nil)) (pa_cons (pe_ix ix_list (pe_lst (pa_cons pe_int (pa_cons (pe_op op_add pe_int (pe_call c__law_take.G (hr.mono (by omega)) (by rfl) c__law_take.g c__law_take.kp c__law_take.b .nil pass0 (pa_cons (pv 0) (pa_cons pe_int pa_nil)))) (pa_cons (pv 1) pa_nil)))) (pe_call c__law_take.G (hr.mono (by omega)) (by rfl) c__law_take.g c__law_take.kp c__law_take.b .nil pass0 (pa_cons (pv 0) (pa_cons pe_int pa_nil))) (fun _ _ => rfl)) pa_nil))))
  (pss_cons (ps_setLc (i := 7) (own := [("_law_j", 8)]) rfl sc__law_laid.nd rfl rfl (sw_true rfl rfl rfl (by decide +kernel)) (pi_range1 (by rfl) T.b_range (pa_cons (pv 6) pa_nil)) (blkOk_by (N := ["_law_held", "_law_count", "_law_table", "_law_pool", "_law_chains", "_law_k", "_law_many", "_law_chain", "_law_j"]) (sc := defScope s__law_laid) (by decide +kernel)) (fun _ _ _ _ _ => (pg_name (i := 8) sc__law_laid.nd rfl (Or.inl rfl) (Or.inr rfl))) (fun _ _ _ _ _ => pts_nil) (fun _ _ _ _ _ => (Fz.pe_bmK K rfl PySem.F.plainAttrs_list PySem.F.slot_list_pop PySem.F.type_list_pop mt_popAt (pv 3) (pa_cons (pe_call c__law_take.G (hr.mono (by omega)) (by rfl) c__law_take.g c__law_take.kp c__law_take.b .nil pass0 (pa_cons (pv 0) (pa_cons (pe_callB (r := fun xs H Q => ∃ p ys, xs = [.ref p] ∧ (SqL K H p ys ∨ SqT K H p ys) ∧ Q (.int ys.length) H) call_len_seq (by rfl) T.b_len PySem.boot_len (pa_cons (pv 3) pa_nil)) pa_nil))) pa_nil))))
  (pss_cons (ps_for PassesOwn.never rfl (pi_range1 (by rfl) T.b_range (pa_cons (pe_callB call_len_seq (by rfl) T.b_len PySem.boot_len (pa_cons (pv 7) pa_nil)) pa_nil)) (pg_name (i := 8) sc__law_laid.nd rfl (by first | exact .inl rfl | exact .inr rfl))
  (pss_one (ps_dput (hu_of hr) (pv 2) (pe_ix ix_list (pv 7) (pv 8) (fun _ _ => rfl)) (pe_ix ix_list (pe_op op_cat (pv 7) (pe_lst (pa_cons pe_int pa_nil))) (pe_op op_add (pv 8) pe_int) (fun _ _ => rfl)) rfl)))
  (pss_one (ps_if (pt_cmpR (op_neD hr.units) (pv 7) (pe_lst pa_nil) (nomark _))
  (pss_one (ps_expr (pe_bm PySem.F.plainAttrs_list PySem.F.slot_list_append PySem.F.type_list_append mt_append (pv 4) (pa_cons (pv 7) pa_nil)))) pss_nil))))))
  (pss_one (ps_ret (pe_tup (pa_cons (pv 2) (pa_cons (pv 4) pa_nil)))))))))), fun g C M0 R hp hR => ?_⟩), D.g, D.F.kp, D.b⟩
  try dsimp only [cxOf, Cx.nox, Cx.wish]
  show Ex K M0 _ _ [some _, none, none, none, none, none, none, none, none] C
  have hp : C g = some purse2 := hp
  have tk : ∀ {ρ : En} {m : Int} {te : TE} {C : Cs}, C g = some purse2 → ρ[0]? = some (some (pRef g)) → Ec K te ρ C (pD K (.int m)) C → 0 < m → m ≤ 1000000000000 → Ec K (tCall (sp__law_take K) [] E0 (tCons (tVar 0) (tCons te tNil))) ρ C (pI fun i => 0 ≤ i ∧ i < m) C := fun hp h hm h0 h1 => ec_take (ec_var h) hm hp h0 h1
  have hz : ∀ {n : Nat}, n ≤ 1000 → n < sizeLine := fun h => Nat.lt_of_le_of_lt h (by decide)
  refine ex_sasgI (f := fun c => 2 ≤ c ∧ c ≤ 40) (C1 := C) (Ec.mapI (ec_opI (n := fun i => 2 + i) ec_int (tk hp rfl ec_int (by decide) (by decide)) fun i _ => er_add) (by rintro m ⟨i, hi, rfl⟩; omega)) fun c' hc' => ?_
  obtain ⟨n, rfl⟩ : ∃ n : Nat, c' = (n : Int) := ⟨c'.toNat, by omega⟩
  refine ex_sasgWE (C1 := C) (ewe_dictP (φ := fun T => T.map (·.1) = rgI 3 (3 + n)) (Ec.mapE (EwE.list (φ := fun ds => ds.length = (n : Int).toNat ∧ ∀ (i : Nat) d, ds[i]? = some d → ∃ v : Int, d = dPair (3 + (i : Int), v)) (ewe_lc (ei_rng1 (j := (n : Int)) (ea_cons (ec_var rfl) ea_nil) (by omega) (by omega)) (fun i d => ∃ v : Int, d = dPair (3 + (i : Int), v)) (fun _ _ => trivial) (hz (by omega)) fun i hi B hB => ⟨_, egv_name (by simp), et_yes, Ec.mapE (ec_tupE (eae_cons (Ec.eqE (ec_op ec_int (ec_var rfl) er_add)) (eae_cons (ec_pick (φ := isZ fun _ => True) (n := 2) (eae_rep (ec_int.toE ⟨_, rfl, trivial⟩) (eae_rep (ec_int.toE ⟨_, rfl, trivial⟩) eae_nil)) (by decide) (tk (hB g _ hp) rfl ec_int (by decide) (by decide)) (fun i hi => hi)) eae_nil))) ?_⟩) (fun c h => h)) ?_)) fun t cc hcc ht => ?_
  · rintro d ⟨ds, rfl, hds⟩
    match ds, hds with
    | [_, _], ⟨rfl, ⟨v, rfl, _⟩, _⟩ => exact ⟨v, rfl⟩
  · rintro d ⟨ds, rfl, hl, hds⟩
    obtain ⟨T, h1, h2⟩ := pairs_from ds 3 hds
    have h3 : T.map (·.1) = rgI 3 (3 + n) := by
      rw [h2, hl]; unfold rgI
      rw [show ((3 : Int) + (n : Int) - 3).toNat = (n : Int).toNat by omega]
    exact ⟨ds, rfl, T, h1, by rw [h3]; exact rgI_nodup _ _, h3⟩
  obtain ⟨T0, rfl, _, hT0⟩ := hcc
  refine ex_sasgW (C1 := updC C t (.dic (dT T0))) (ew_listRg2 ec_int (ec_op ec_int (ec_var rfl) er_add) (RgOk.of_le (by omega) (by omega) (by omega) (by omega))) (fun q hq => ?_)
  refine ex_sasgW (C1 := updC (updC C t (.dic (dT T0))) q (.lst ((rgI 3 (3 + n)).map PyData.int))) (c := .lst []) (ew_lstD ead_nil) (fun s hs => ?_)
  have tq : t ≠ q := fun e => by rw [← e, updC_same] at hq; cases hq
  have qs : q ≠ s := fun e => by rw [← e, updC_same] at hs; cases hs
  have ts : t ≠ s := fun e => by rw [← e, updC_ne tq, updC_same] at hs; cases hs
  have hq' : C q = none := by rw [updC_ne (Ne.symm tq)] at hq; exact hq
  have hs' : C s = none := by rw [updC_ne (Ne.symm qs), updC_ne (Ne.symm ts)] at hs; exact hs
  have gt : g ≠ t := neC_of_none hp ht
  have gq : g ≠ q := neC_of_none hp hq'
  have gs : g ≠ s := neC_of_none hp hs'
  have pu : ∀ x y z, three C t q s x y z g = some purse2 := fun x y z => by rw [three_o gt gq gs]; exact hp
  have st : ∀ {T P cs}, Laid n T P cs → Laid n T P cs := fun h => h
  refine ex_seq (ex_forX (C1 := three C t q s (.dic (dT T0)) (.lst ((rgI 3 (3 + n)).map PyData.int)) (.lst [])) (eiX_rng1 (f := fun i => 1 ≤ i ∧ i ≤ 8) (ea_cons (Ec.mapI (ec_opI (n := fun i => 1 + i) ec_int (tk (pu _ _ _) rfl ec_int (by decide) (by decide)) fun i _ => er_add) (by rintro m ⟨i, hi, rfl⟩; omega)) ea_nil) (fun i hi => ⟨by omega, by omega⟩)) fun kk hkk => ?_)
  refine for_ob (fun i ρ' C' => ∃ T P cs, Laid n T P cs ∧ cs.length ≤ i ∧ ρ' = [some (pRef g), some (pD K (.int (n : Int))), some (pRef t), some (pRef q), some (pRef s), none, none, none, none] ∧ three C t q s (.dic (dT T)) (.lst (P.map PyData.int)) (.lst (cs.map dLi)) = C') (by walk_at "le") (Sub.refl _) ⟨T0, _, [], ⟨hT0, rgI_nodup _ _, fun x hx => mem_rgI.mp hx, fun c h => by simp at h, fun c h => by simp at h⟩, Nat.le_refl _, rfl, rfl⟩ (fun _ _ _ _ _ => trivial) ?_ ?_
  · rintro M1 s1 i ρ' C' hi ⟨T, P, cs, hL, hcl, rfl, rfl⟩
    refine ⟨_, _, eg_name, ?_⟩
    generalize hCC : three C t q s (.dic (dT T)) (.lst (P.map PyData.int)) (.lst (cs.map dLi)) = CC
    have cq : CC q = some (.lst (P.map PyData.int)) := by rw [← hCC]; exact three_b qs
    have cg : CC g = some purse2 := by rw [← hCC]; exact pu _ _ _
    have hPl : P.length ≤ n := by
      have hsub : ∀ x ∈ P, x ∈ rgI 3 (3 + n) := fun x hx => mem_rgI.mpr (hL.pk x hx)
      have := nodup_len hL.pn hsub
      rw [rgI_len] at this
      omega
    refine ex_sasgI (f := fun m => 0 ≤ m ∧ m ≤ P.length) (C1 := CC) (ec_cb (ea_cons (Ec.conv (ec_cb (ea_cons (ec_var rfl) ea_nil) (ek_lenC cq)) (by rw [List.length_map])) (ea_cons (Ec.E_I (f := fun m => 0 ≤ m) (ec_pick (φ := isZ fun m => 0 ≤ m) (n := 3) (eae_rep (ec_int.toE ⟨_, rfl, by decide⟩) (eae_rep (Ec.I_E (ec_opI (n := fun i => 1 + i) ec_int (tk cg rfl ec_int (by decide) (by decide)) fun i _ => er_add) (by rintro m ⟨i, hi, rfl⟩; exact ⟨_, rfl, by omega⟩)) (eae_rep (Ec.toE (ec_var rfl) ⟨_, rfl, by omega⟩) eae_nil))) (by decide) (tk cg rfl ec_int (by decide) (by decide)) (fun i hi => hi)) (fun d h => h)) ea_nil)) (ek_i1 fun m hm => ek_min2.toI (by split <;> omega))) fun m hm => ?_
    refine ex_sasgWN (ewn_lc (C1 := CC) (G := fun _ => True) (item := fun i => pD K (.int (i : Int))) (n := m.toNat) (ei_rng1 (j := m) (ea_cons (ec_var rfl) ea_nil) (by omega) (by omega)) (fun j ds Ci => ∃ ch P' : List Int, ds = ch.map PyData.int ∧ ch.length = j ∧ (ch ++ P').Perm P ∧ updC CC q (.lst (P'.map PyData.int)) = Ci) ⟨[], P, rfl, rfl, List.Perm.refl _, updC_self cq⟩ (fun _ => trivial) (hz (by omega)) (fun j ds Ci ⟨ch, P', h1, h2, _⟩ => by rw [h1, List.length_map, h2]; exact Nat.le_refl _) ?_) ?_
    · rintro j hj ds Ci ⟨ch, P', rfl, hch, hperm, rfl⟩ D x hD
      have cq' : updC CC q (.lst (P'.map PyData.int)) q = some (.lst (P'.map PyData.int)) := updC_same
      have cg' : updC CC q (.lst (P'.map PyData.int)) g = some purse2 := by rw [updC_ne gq]; exact cg
      have qD : q ≠ D := neC_of_none cq' hD
      have gD : g ≠ D := neC_of_none cg' hD
      have hpl : ch.length + P'.length = P.length := by
        have := hperm.length_eq
        rw [List.length_append] at this
        exact this
      refine ⟨_, egv_name (by simp), et_yes, EcN.map (ecn_popAt (ds := P'.map PyData.int) (ec_var rfl) (by rw [updC_ne qD]; exact cq') (tk (by rw [updC_ne gD]; exact cg') rfl (Ec.conv (ec_cb (ea_cons (ec_var rfl) ea_nil) (ek_lenC (by rw [updC_ne qD]; exact cq'))) (by rw [List.length_map])) (by omega) (by omega)) (fun i hi => by rw [List.length_map]; exact hi) (by rw [List.length_map]; omega)) ?_⟩
      rintro d B ⟨k, hk, hd, rfl⟩
      rw [List.length_map] at hk
      rw [List.getElem?_map, List.getElem?_eq_getElem hk] at hd
      have hd : PyData.int P'[k] = d := by simpa using hd
      subst hd
      refine ⟨updC CC q (.lst ((P'.eraseIdx k).map PyData.int)), ?_, ?_, ch ++ [P'[k]], P'.eraseIdx k, by rw [List.map_append]; rfl, by rw [List.length_append, hch]; rfl, ?_, rfl⟩
      · rw [updC_comm (Ne.symm qD), updC_updC, erase_map]
      · rw [updC_ne (Ne.symm qD)] at hD ⊢; exact hD
      · rw [List.append_assoc]
        exact (List.Perm.append_left ch (erase_perm (List.getElem?_eq_getElem hk))).trans hperm
    rintro h cc C' ⟨ds, rfl, ch, P', rfl, hch, hperm, rfl⟩ hh
    refine ex_freezeL (i := 7) rfl hh ?_
    rw [← hCC, three_ub qs]
    have hnd : (ch ++ P').Nodup := hperm.nodup_iff.mpr hL.pn
    have chP : ∀ x ∈ ch, x ∈ P := fun x hx => hperm.mem_iff.mp (List.mem_append_left _ hx)
    have chk : ∀ x ∈ ch, x ∈ T.map (·.1) := fun x hx => by rw [hL.keys]; exact mem_rgI.mpr (hL.pk x (chP x hx))
    have chn : ch.Nodup := (List.nodup_append.mp hnd).1
    have hchl : ch.length ≤ 40 := by omega
    have hTl : ∀ {T' : List (Int × Int)}, T'.map (·.1) = T.map (·.1) → T'.length = n := fun {T'} hk => by
      have := congrArg List.length (hk.trans hL.keys)
      rw [List.length_map, rgI_len] at this
      omega
    refine ex_sfor (n := ch.length) (item := fun i => pD K (.int (i : Int))) (G := fun _ => True) (C1 := three C t q s (.dic (dT T)) (.lst (P'.map PyData.int)) (.lst (cs.map dLi))) (Ei.conv (ei_rng1 (j := (ch.length : Int)) (ea_cons (Ec.conv (ec_cb (ea_cons (Ec.imp (ec_var rfl) pL_D) ea_nil) ek_lenL) (by rw [List.length_map])) ea_nil) (by omega) (by omega)) (Int.toNat_natCast _))
      (fun j ρ' C' => ∃ T', T'.map (·.1) = T.map (·.1) ∧ (∀ i, i < j → getT T' (ch.getD i 0) = some ((ch ++ [1]).getD (i + 1) 0)) ∧ (∀ x, x ∉ ch → getT T' x = getT T x) ∧ ρ' = [some (pRef g), some (pD K (.int (n : Int))), some (pRef t), some (pRef q), some (pRef s), none, none, some (pL K (ch.map PyData.int)), none] ∧ three C t q s (.dic (dT T')) (.lst (P'.map PyData.int)) (.lst (cs.map dLi)) = C') (by walk_at "le") (Sub.refl _) ⟨T, rfl, fun i hi => by omega, fun _ _ => rfl, rfl, rfl⟩ (fun _ _ _ _ _ => trivial) ?_ ?_
    · rintro M2 s2 j ρ2 C2 hj ⟨T', hk, hlk, hot, rfl, rfl⟩
      refine ⟨_, _, eg_name, ?_⟩
      have hgj : ch.getD j 0 = ch[j] := by rw [List.getD_eq_getElem?_getD, List.getElem?_eq_getElem hj]; rfl
      have hkj : ch.getD j 0 ∈ T'.map (·.1) := by rw [hk, hgj]; exact chk _ (List.getElem_mem hj)
      refine ex_dput (v := (ch ++ [1]).getD (j + 1) 0) (k := ch.getD j 0) (a := t) (T := T') (C1 := three C t q s (.dic (dT T')) (.lst (P'.map PyData.int)) (.lst (cs.map dLi))) (C2 := three C t q s (.dic (dT T')) (.lst (P'.map PyData.int)) (.lst (cs.map dLi))) (C3 := three C t q s (.dic (dT T')) (.lst (P'.map PyData.int)) (.lst (cs.map dLi)))
        (ec_op (Ew.list (ew_op (ec_var rfl) (Ew.listL (ew_lstD (ead_cons ec_int ead_nil))) (er_cat trk_L trk_L (Nat.le_of_lt (hz (by simp only [List.length_map, List.length_cons, List.length_nil]; omega)))))) (ec_op (ec_var rfl) ec_int er_add) (er_ixL ?_)) (ec_var rfl) (ec_op (Ec.imp (ec_var rfl) pL_D) (ec_var rfl) (er_ixL (atI_nat (j := j) ?_))) (three_a tq ts) (hz (by rw [hTl hk]; omega)) ?_
      · have hj1 : j + 1 < (ch ++ [1]).length := by rw [List.length_append]; simp only [List.length_cons, List.length_nil]; omega
        have := atI_nat (j := j + 1) (xs := (ch ++ [1]).map PyData.int) (v := .int ((ch ++ [1]).getD (j + 1) 0)) (by rw [List.getElem?_map, List.getD_eq_getElem?_getD, List.getElem?_eq_getElem hj1]; rfl)
        rw [List.map_append] at this
        exact this
      · rw [List.getElem?_map, List.getElem?_eq_getElem hj, hgj]; rfl
      · rw [three_ua tq ts]
        refine nx_Iw (by walk_at "le") (Sub.refl _) ⟨putT T' (ch.getD j 0) ((ch ++ [1]).getD (j + 1) 0), (putT_keys hkj).trans hk, fun i hi => ?_, fun x hx => ?_, rfl, rfl⟩
        · rw [getT_put hkj]
          by_cases e : i = j
          · subst e; rw [if_pos rfl]
          · have hij : i < j := by omega
            rw [if_neg, hlk i hij]
            rw [hgj, List.getD_eq_getElem?_getD, List.getElem?_eq_getElem (by omega)]
            exact List.pairwise_iff_getElem.mp chn i j (by omega) hj hij
        · rw [getT_put hkj, if_neg (fun e => hx (by rw [e, hgj]; exact List.getElem_mem hj))]
          exact hot x hx
    · rintro ρ2 C2 ⟨T', hk, hlk, hot, rfl, rfl⟩
      have hL' : Laid n T' P' cs := ⟨hk.trans hL.keys, (List.nodup_append.mp hnd).2.1, fun x hx => hL.pk x (hperm.mem_iff.mp (List.mem_append_right _ hx)), fun c hc => by
          obtain ⟨c1, c2⟩ := hL.ch c hc
          exact ⟨c1, c2.link.congr fun x hx => hot x fun q => hL.ap c hc x hx (chP x q), c2.nodup, c2.big, c2.len⟩, fun c hc x hx q => hL.ap c hc x hx (hperm.mem_iff.mp (List.mem_append_right _ q))⟩
      have hcT : ChT T' ch := ⟨LinkT.of hlk, chn, fun x hx => (hL.pk x (chP x hx)).1, by omega⟩
      refine ex_if (C1 := three C t q s (.dic (dT T')) (.lst (P'.map PyData.int)) (.lst (cs.map dLi))) (b := !(ch.map PyData.int).isEmpty) (et_test (Ec.conv (ec_op (Ec.imp (ec_var rfl) pL_D) (Ew.list (ew_lstD ead_nil)) (er_neD asD_D asD_D (shp_list (n := 0) shp_ints).shaped (shp_list (n := 0) (fun d h => by simp at h)).shaped)) (by rw [eqv_nil]))) (fun hb => ?_) (fun hb => ?_)
      · have hne : ch ≠ [] := fun e => by rw [e] at hb; simp at hb
        refine ex_drop (C1 := three C t q s (.dic (dT T')) (.lst (P'.map PyData.int)) (.lst ((cs ++ [ch]).map dLi))) (Ec.conv' (ec_append (a := s) (ds := cs.map dLi) (d := dLi ch) (ec_var rfl) three_c (Ec.imp (ec_var rfl) pL_D) three_c (hz (by rw [List.length_map]; omega))) (by rw [three_uc, List.map_append]; rfl)) (nx_Iw (by walk_at "le") (Sub.refl _) ⟨T', P', cs ++ [ch], ?_, by rw [List.length_append]; simp only [List.length_cons, List.length_nil]; omega, rfl, rfl⟩)
        refine ⟨hL'.keys, hL'.pn, hL'.pk, fun c hc => ?_, fun c hc x hx => ?_⟩
        · rcases List.mem_append.mp hc with hc | hc
          · exact hL'.ch c hc
          · rw [List.mem_singleton] at hc; subst hc; exact ⟨hne, hcT⟩
        · rcases List.mem_append.mp hc with hc | hc
          · exact hL'.ap c hc x hx
          · rw [List.mem_singleton] at hc; subst hc
            exact fun q => (List.nodup_append.mp hnd).2.2 x hx x q rfl
      · exact ex_next (nx_Iw (by walk_at "le") (Sub.refl _) ⟨T', P', cs, hL', by omega, rfl, rfl⟩)
  · rintro ρ' C' ⟨T, P, cs, hL, hcl, rfl, rfl⟩
    have hTl : T.length = n := by
      have := congrArg List.length hL.keys
      rw [List.length_map, rgI_len] at this
      omega
    refine Nx.of (ex_freezeL (C := updC (updC C t (.dic (dT T))) q (.lst (P.map PyData.int))) (i := 4) rfl (by rw [updC_ne (Ne.symm qs), updC_ne (Ne.symm ts)]; exact hs') ?_)
    refine ex_wk (EnvLe.refl _) (Sub.upd (by rw [updC_ne (Ne.symm tq)]; exact hq')) ?_
    refine ex_freezeD (i := 2) rfl ht ?_
    exact ex_ret (C1 := C) (ec_tupP (ea_cons (ec_var rfl) (ea_cons (ec_var rfl) ea_nil))) (hR.ofX (T, cs) ⟨by show T.length ≤ 100; omega, by show (T.map (·.1)).Nodup; rw [hL.keys]; exact rgI_nodup _ _, by show cs.length ≤ 100; omega, hL.ch⟩)

/-! ### law -/
def sp_law (K : PySem.W.Frag) : Sp := spLaw K
theorem LinkT.tail {T : List (Int × Int)} {b : Int} : ∀ {ch : List Int}, LinkT T (b :: ch) → LinkT T ch
  | [], _ => trivial
  | _ :: _, h => h.2
theorem ChT.drop {T : List (Int × Int)} {ch : List Int} (h : ChT T ch) (l : Nat) : ChT T (ch.drop l) := by
  refine ⟨?_, h.nodup.sublist (List.drop_sublist _ _), fun b hb => h.big b (List.mem_of_mem_drop hb), by rw [List.length_drop]; have := h.len; omega⟩
  have := h.link
  clear h
  induction l generalizing ch with
  | zero => exact this
  | succ l ih =>
    cases ch with
    | nil => rw [List.drop_nil]; trivial
    | cons b ch => exact ih this.tail
theorem coll_none (q : Nat → PyData) : ∀ n, coll (fun _ => false) q n = []
  | 0 => rfl
  | n + 1 => by unfold coll; rw [coll_none q n]; rfl
theorem getT_mem : ∀ {T : List (Int × Int)} {x : Int × Int}, (T.map (·.1)).Nodup → x ∈ T → getT T x.1 = some x.2
  | [], _, _, h => by simp at h
  | p :: T, x, hn, h => by
    unfold getT
    rw [List.map_cons, List.nodup_cons] at hn
    by_cases e : p.1 = x.1
    · rw [List.find?_cons_of_pos (by simpa using e)]
      rcases List.mem_cons.mp h with h | h
      · rw [← h]; rfl
      · exact absurd (show x.1 ∈ T.map (·.1) from List.mem_map.mpr ⟨x, h, rfl⟩) (by rw [← e]; exact hn.1)
    · rw [List.find?_cons_of_neg (by simpa using e)]
      rcases List.mem_cons.mp h with h | h
      · rw [← h] at e; exact absurd rfl e
      · exact getT_mem (T := T) hn.2 h

theorem ok_law {f : Addr} {fd : FuncData} (D : Def K mg "law" s_law ["_law_script"] f fd) (T : Txt K mg) {f_chain_from : Addr} {fd_chain_from : FuncData} (c_chain_from : Cal P w K mg base CX0 "chain_from" 1 ["table", "block"] (sp_chain_from K) f_chain_from fd_chain_from) {f__law_digits : Addr} {fd__law_digits : FuncData} (c__law_digits : Cal P w K mg base CX0 "_law_digits" 1 ["_law_script", "_law_k"] (sp__law_digits K) f__law_digits fd__law_digits) {f__law_laid : Addr} {fd__law_laid : FuncData} (c__law_laid : Cal P w K mg base CX0 "_law_laid" 2 ["_law_held"] (sp__law_laid K) f__law_laid fd__law_laid) : Cal P w K mg base CX0 "law" 3 ["_law_script"] (sp_law K) f fd := by
  refine ⟨okF D.F sc_law (fun _ => rfl) (fun cdv Ar outer s H E hr => ⟨_, (pss_cons (ps_for PassesOwn.never rfl (pi_range1 (by rfl) T.b_range (pa_cons (pe_callB (call_max2 rfl) (by rfl) T.b_max (by decide +kernel) (pa_cons pe_int (pa_cons (pe_callB (call_min2 rfl) (by rfl) T.b_min (by decide +kernel) (pa_cons (pe_callB call_len_seq (by rfl) T.b_len PySem.boot_len (pa_cons (pv 0) pa_nil)) (pa_cons pe_int pa_nil))) pa_nil))) pa_nil)) (pg_name (i := 1) sc_law.nd rfl (by first | exact .inl rfl | exact .inr rfl))
  (pss_cons (ps_set (i := 2) sc_law.nd rfl (by first | exact .inl rfl | exact .inr rfl) (pe_call c__law_digits.G (hr.mono (by omega)) (by rfl) c__law_digits.g c__law_digits.kp c__law_digits.b .nil pass0 (pa_cons (pv 0) (pa_cons (pv 1) pa_nil))))
  (pss_cons (ps_asg (pe_call c__law_laid.G (hr.mono (by omega)) (by rfl) c__law_laid.g c__law_laid.kp c__law_laid.b .nil pass0 (pa_cons (pv 2) pa_nil)) (pg_tup rfl (pgs_cons (pg_name (i := 3) sc_law.nd rfl (by first | exact .inl rfl | exact .inr rfl)) (pgs_cons (pg_name (i := 4) sc_law.nd rfl (by first | exact .inl rfl | exact .inr rfl)) pgs_nil))))
  (pss_cons (ps_set (i := 5) sc_law.nd rfl (by first | exact .inl rfl | exact .inr rfl) (pe_callTy call_dictD (by rfl) T.b_dict (by decide +kernel) (pa_cons (pv 3) pa_nil)))
  (pss_cons (ps_for PassesOwn.never rfl (pi_list (pv 4)) (pg_name (i := 6) sc_law.nd rfl (by first | exact .inl rfl | exact .inr rfl))
  (pss_one (ps_for PassesOwn.never rfl (pi_range1 (by rfl) T.b_range (pa_cons (pe_callB call_len_seq (by rfl) T.b_len PySem.boot_len (pa_cons (pv 6) pa_nil)) pa_nil)) (pg_name (i := 7) sc_law.nd rfl (by first | exact .inl rfl | exact .inr rfl))
  (pss_cons (ps_set (i := 8) sc_law.nd rfl (by first | exact .inl rfl | exact .inr rfl) (pe_call c_chain_from.G (hr.mono (by omega)) (by rfl) c_chain_from.g c_chain_from.kp c_chain_from.b .nil pass0 (pa_cons (pv 5) (pa_cons (pe_ix ix_list (pv 6) (pv 7) (fun _ _ => rfl)) pa_nil))))
  (pss_cons (ps_if (pw_or (pt_not (pt_val (pe_callB call_isi (by rfl) T.b_isinstance (by decide +kernel) (pa_cons (pv 8) (pa_cons (pe_bltn (v := .ty "list") (u := .type "list") (by rfl) T.b_list (by decide +kernel) rfl) pa_nil))))) (pw_or1 (pt_cmpR (op_neD hr.units) (pv 8) (pe_slice sl_list (pv 6) (po_some (pv 7)) po_none) (nomark _)))).pt
  (pss_one (ps_ret pe_bl)) pss_nil)
  (pss_cons (ps_if (pt_cmpR (op_neD hr.units) (pe_lc (own := [("_law_block", 9)]) rfl sc_law.nd (pi_list (pv 8)) (blkOk_by (N := ["_law_script", "_law_k", "_law_held", "_law_table", "_law_chains", "_law_handed", "_law_chain", "_law_at", "_law_told", "_law_block"]) (sc := defScope s_law) (by decide +kernel)) (fun _ _ _ _ _ => (pg_name (i := 9) sc_law.nd rfl (Or.inl rfl) (Or.inr rfl))) (fun _ _ _ _ _ => (pts_one (pt_val (pe_callB (r := rIsi K) call_isi (by rfl) T.b_isinstance (by decide +kernel) (pa_cons (pv 9) (pa_cons (pe_bltn (v := .ty "bool") (u := .type "bool") (by rfl) T.b_bool (by decide +kernel) rfl) pa_nil)))))) (fun _ _ _ _ _ => (pv 9))) (pe_lst pa_nil) (nomark _))
  (pss_one (ps_ret pe_bl)) pss_nil)
  (pss_one (ps_expr (pe_bm PySem.F.plainAttrs_list PySem.F.slot_list_append PySem.F.type_list_append mt_append (pv 8) (pa_cons pe_int pa_nil))))))))))
  (pss_one (ps_if (pt_cmpR (op_ne_dictA (Nat.lt_of_le_of_lt (Nat.le_add_right _ 64) hr.units)) (pv 5) (pv 3) (nomark _))
  (pss_one (ps_ret pe_bl)) pss_nil)))))))
  (pss_one (ps_ret pe_bl))), fun g C M0 R hp hR => ?_⟩), D.g, D.F.kp, D.b⟩
  try dsimp only [cxOf, Cx.nox, Cx.wish]
  show Ex K M0 _ _ [some _, none, none, none, none, none, none, none, none, none] C
  obtain ⟨hl, hb⟩ := hp
  obtain ⟨hi, ehi, h2, h30⟩ : ∃ hi : Int, hi = (if (if (10 : Int) < ((g.map PyData.int).length : Int) then 10 else ((g.map PyData.int).length : Int)) > 2 then (if (10 : Int) < ((g.map PyData.int).length : Int) then 10 else ((g.map PyData.int).length : Int)) else 2) ∧ 2 ≤ hi ∧ hi ≤ 10 := by
    refine ⟨_, rfl, ?_, ?_⟩ <;> (split <;> (try split) <;> omega)
  refine ex_sfor (n := hi.toNat) (item := fun i => pD K (.int (i : Int))) (G := fun _ => True) (C1 := C) (ei_rng1 ?_ (by omega) (by omega))
    (fun _ ρ' C' => ρ' = [some (pD K (.list (g.map PyData.int))), none, none, none, none, none, none, none, none, none] ∧ C = C') (EnvLe.refl _) (Sub.refl _) ⟨rfl, rfl⟩ (fun _ _ _ _ _ => trivial) ?_ ?_
  · rw [ehi]
    walk_at "ev"
  · rintro M1 s1 i ρ' C' hi' ⟨rfl, rfl⟩
    refine ⟨_, _, eg_name, ?_⟩
    refine ex_sasgW (C1 := C) (ew_call (g, i) (by walk_at "ev") (by show i ≤ 1000; omega)) (fun a ha => ?_)
    show Ex K M1 _ _ _ (updC C a purse2)
    have hc : updC C a purse2 a = some purse2 := updC_same
    refine ex_sasgGX (C1 := updC C a purse2) (ec_call (ps := []) a (ea_cons (ec_var rfl) ea_nil) hc) fun x hx => ?_
    obtain ⟨T, cs⟩ := x
    obtain ⟨hTl, hTn, hcl, hch⟩ := hx
    dsimp only at hTl hTn hcl hch ⊢
    refine ⟨_, _, eg_pairP, ?_⟩
    refine ex_sasgW (C1 := updC C a purse2) (ew_cb (ea_cons (ec_var rfl) ea_nil) (ewk_dictD ddat_D)) (fun h hh => ?_)
    have qs : Sub C (updC (updC C a purse2) h (.dic (dT T))) := (Sub.upd ha).trans (Sub.upd hh)
    have ch0 : updC (updC C a purse2) h (.dic (dT T)) h = some (.dic (dT T)) := updC_same
    revert qs ch0
    generalize updC (updC C a purse2) h (.dic (dT T)) = CC
    intro qs ch0
    have hz : ∀ {n : Nat}, n ≤ 10000 → n < sizeLine := fun h => Nat.lt_of_le_of_lt h (by decide)
    refine ex_sfor (C1 := CC) (ei_list (Ec.imp (ec_var rfl) pL_D))
      (fun _ ρ' C' => ρ' = [some (pD K (.list (g.map PyData.int))), some (pD K (.int (i : Int))), none, some (pDic K (dT T)), some (pL K (cs.map dLi)), some (pRef h), none, none, none, none] ∧ CC = C') (by walk_at "le") (Sub.refl _) ⟨rfl, rfl⟩ (fun _ _ _ _ _ => trivial) ?_ ?_
    · rintro M2 s2 j ρ2 C2 hj ⟨rfl, rfl⟩
      rw [List.length_map] at hj
      rw [getD_map dLi _ j .none [] hj]
      have hm : cs.getD j [] ∈ cs := by
        rw [List.getD_eq_getElem?_getD, List.getElem?_eq_getElem hj]; exact List.getElem_mem hj
      generalize cs.getD j [] = ch at hm
      obtain ⟨hne, hct⟩ := hch ch hm
      have hlen := hct.len
      refine ⟨_, _, eg_name, ?_⟩
      refine ex_for (C1 := CC) (n := ch.length) (item := fun i => pD K (.int (i : Int))) (G := fun _ => True) (Ei.conv (ei_rng1 (j := (ch.length : Int)) (ea_cons (Ec.conv (ec_cb (ea_cons (ec_var rfl) ea_nil) ek_lenL) (by rw [List.length_map])) ea_nil) (by omega) (by omega)) (Int.toNat_natCast _))
        (fun _ ρ' C' => ρ' = [some (pD K (.list (g.map PyData.int))), some (pD K (.int (i : Int))), none, some (pDic K (dT T)), some (pL K (cs.map dLi)), some (pRef h), some (pD K (dLi ch)), none, none, none] ∧ CC = C') (by walk_at "le") (Sub.refl _) ⟨rfl, rfl⟩ (fun _ _ _ _ _ => trivial) ?_ ?_
      · rintro M3 s3 l ρ3 C3 hl ⟨rfl, rfl⟩
        refine ⟨_, _, eg_name, ?_⟩
        have hdr : ch.drop l = ch[l] :: ch.drop (l + 1) := List.drop_eq_getElem_cons hl
        have hcd : ChT T (ch[l] :: ch.drop (l + 1)) := by rw [← hdr]; exact hct.drop l
        have at_ : atI (ch.map PyData.int) (l : Int) = some (.int ch[l]) := atI_nat (j := l) (by rw [List.getElem?_map, List.getElem?_eq_getElem hl]; rfl)
        refine ex_sasgW (C1 := CC) (ew_call (pRef h, T, ch[l], ch.drop (l + 1)) (ea_cons (ec_var rfl) (ea_cons (ec_op (ec_var rfl) (ec_var rfl) (er_ixL at_)) ea_nil)) ⟨ddat_C ch0, hcd⟩) (fun b hb => ?_)
        dsimp only
        rw [← hdr]
        have shF : SeqAt.shaped (.list ((ch.drop l).map PyData.int)) = true := (shp_list (n := 0) shp_ints).shaped
        have n1 : (!PyData.eqv (.list ((ch.drop l).map PyData.int)) (.list ((ch.drop l).map PyData.int))) = false := by rw [eqv_of_shaped shF]; rfl
        refine ex_sif0 (b := !true || false) ?_ (fun h => nomatch h) (fun _ => ?_)
        · refine et_or (et_not (et_B (ec_cb (ea_cons (ec_var rfl) (ea_cons ec_val ea_nil)) (ek_isLA (dat_C updC_same))))) (fun _ => et_test (Ec.conv (ec_op (ec_var rfl) (Ec.conv (Ew.list (ew_slL (ec_var rfl) (eo_some (ec_var rfl)) eo_none)) ?_) (er_neD (asD_C updC_same) asD_D shF shF)) (congrArg (fun b => pD K (.bool b)) n1)))
          unfold cutP; rw [cut_from, List.map_drop]
        refine ex_sif0 (b := false) ?_ (fun h => nomatch h) (fun _ => ?_)
        · refine et_test (Ec.conv (ec_op (p := pD K (.list [])) (Ec.conv (Ew.list (ew_lcP (ei_cell (ds := (ch.drop l).map PyData.int) (a := b) (ec_var rfl) updC_same) (fun _ => false) (fun _ => .none) (fun B hB => hB b _ updC_same) (hz (by rw [List.length_map, List.length_drop]; omega)) fun k hk B hB => ?_)) (by rw [coll_none])) (Ew.list (ew_lstD ead_nil)) (er_neD asD_D asD_D (shp_list (n := 0) (fun d h => by simp at h)).shaped (shp_list (n := 0) (fun d h => by simp at h)).shaped)) (by rw [eqv_nil]; rfl))
          rw [List.length_map] at hk
          rw [getD_map PyData.int _ k .none 0 hk]
          exact ⟨_, egv_name (by simp), et_B (ec_cb (ea_cons (ec_var rfl) (ea_cons ec_val ea_nil)) ek_isB), fun h => nomatch h⟩
        refine ex_drop (C1 := updC CC b (.lst ((ch.drop l).map PyData.int ++ [.int 0]))) (Ec.conv' (ec_append (ec_var rfl) updC_same ec_int updC_same (hz (by rw [List.length_map, List.length_drop]; omega))) updC_updC) (nx_Iw (by walk_at "le") (Sub.upd hb) ⟨rfl, rfl⟩)
      · rintro ρ3 C3 ⟨rfl, rfl⟩
        exact nx_Iw (by walk_at "le") (Sub.refl _) ⟨rfl, rfl⟩
    · rintro ρ2 C2 ⟨rfl, rfl⟩
      exact ex_if (C1 := CC) (b := false) (et_test (ec_op (ec_var rfl) (ec_var rfl) (er_neDT (ddat_C ch0) ddat_D rfl fun x hx => getT_mem hTn hx))) (fun h => nomatch h) (fun _ => ex_next (nx_Iw (by walk_at "le") qs ⟨rfl, rfl⟩))
  · rintro ρ' C' ⟨rfl, rfl⟩
    exact ex_ret ec_bl hR

end
theorem all_mk {l : PySem.W.OpenLaw} {w : World} {K : PySem.W.Frag} {h : Heap} {mg : Str → Option Value} {fa : Addr} (X : K.In h) (G : h.Ns mainGlobals mg) (hfa : mg "law" = some (.ref fa))
    {f0 : Addr} {od0 an0 : Option Addr} {sl0 : Array (Option Value)} {oc0 kV0 dc0 pm0 cd0 ct0 : Value}
    {f1 : Addr} {od1 an1 : Option Addr} {sl1 : Array (Option Value)} {oc1 kV1 dc1 pm1 cd1 ct1 : Value}
    {f2 : Addr} {od2 an2 : Option Addr} {sl2 : Array (Option Value)} {oc2 kV2 dc2 pm2 cd2 ct2 : Value}
    {f3 : Addr} {od3 an3 : Option Addr} {sl3 : Array (Option Value)} {oc3 kV3 dc3 pm3 cd3 ct3 : Value}
    {f4 : Addr} {od4 an4 : Option Addr} {sl4 : Array (Option Value)} {oc4 kV4 dc4 pm4 cd4 ct4 : Value}
    {t_FREE : Tok}
    {t_END : Tok}
    {t_BAD : Tok}
    (a0 : PySem.W.nsIn K mainGlobals "chain_from" = some (some (.ref f0)))
    (l0 : K.lookup f0 = some ⟨oc0, od0, .func (PySem.W.fnOf "chain_from" "chain_from" (defArgs s_chain_from) (defBody s_chain_from) (defScope s_chain_from) .none kV0 dc0 pm0 an0 cd0 ct0), sl0⟩)
    (e0 : PySem.W.codeIn K cd0 "chain_from" = true)
    (k0 : PySem.W.keepIn K (.ref f0) = true)
    (a1 : PySem.W.nsIn K mainGlobals "_law_digits" = some (some (.ref f1)))
    (l1 : K.lookup f1 = some ⟨oc1, od1, .func (PySem.W.fnOf "_law_digits" "_law_digits" (defArgs s__law_digits) (defBody s__law_digits) (defScope s__law_digits) .none kV1 dc1 pm1 an1 cd1 ct1), sl1⟩)
    (e1 : PySem.W.codeIn K cd1 "_law_digits" = true)
    (k1 : PySem.W.keepIn K (.ref f1) = true)
    (a2 : PySem.W.nsIn K mainGlobals "_law_take" = some (some (.ref f2)))
    (l2 : K.lookup f2 = some ⟨oc2, od2, .func (PySem.W.fnOf "_law_take" "_law_take" (defArgs s__law_take) (defBody s__law_take) (defScope s__law_take) .none kV2 dc2 pm2 an2 cd2 ct2), sl2⟩)
    (e2 : PySem.W.codeIn K cd2 "_law_take" = true)
    (k2 : PySem.W.keepIn K (.ref f2) = true)
    (a3 : PySem.W.nsIn K mainGlobals "_law_laid" = some (some (.ref f3)))
    (l3 : K.lookup f3 = some ⟨oc3, od3, .func (PySem.W.fnOf "_law_laid" "_law_laid" (defArgs s__law_laid) (defBody s__law_laid) (defScope s__law_laid) .none kV3 dc3 pm3 an3 cd3 ct3), sl3⟩)
    (e3 : PySem.W.codeIn K cd3 "_law_laid" = true)
    (k3 : PySem.W.keepIn K (.ref f3) = true)
    (a4 : PySem.W.nsIn K mainGlobals "law" = some (some (.ref f4)))
    (l4 : K.lookup f4 = some ⟨oc4, od4, .func (PySem.W.fnOf "law" "law" (defArgs s_law) (defBody s_law) (defScope s_law) .none kV4 dc4 pm4 an4 cd4 ct4), sl4⟩)
    (e4 : PySem.W.codeIn K cd4 "law" = true)
    (k4 : PySem.W.keepIn K (.ref f4) = true)
    (z_abs : PySem.W.nsIn K mainGlobals "abs" = some none)
    (z_bool : PySem.W.nsIn K mainGlobals "bool" = some none)
    (z_dict : PySem.W.nsIn K mainGlobals "dict" = some none)
    (z_isinstance : PySem.W.nsIn K mainGlobals "isinstance" = some none)
    (z_len : PySem.W.nsIn K mainGlobals "len" = some none)
    (z_list : PySem.W.nsIn K mainGlobals "list" = some none)
    (z_max : PySem.W.nsIn K mainGlobals "max" = some none)
    (z_min : PySem.W.nsIn K mainGlobals "min" = some none)
    (z_range : PySem.W.nsIn K mainGlobals "range" = some none)
    (g_FREE : PySem.W.nsIn K mainGlobals "FREE" = some (some (.int 0 t_FREE)))
    (g_END : PySem.W.nsIn K mainGlobals "END" = some (some (.int 1 t_END)))
    (g_BAD : PySem.W.nsIn K mainGlobals "BAD" = some (some (.int 2 t_BAD))) :
    ∃ fd : FuncData, (∀ (s : Shared) (v : Value), BindsTo s fd ⟨[v], []⟩ [("_law_script", v)]) ∧ ∀ base : Heap, K.In base → base.Ns mainGlobals mg → FnOk l.prog w K mg base CX0 3 fa fd ["_law_script"] (sp_law K) := by
  have e := hfa.symm.trans (PySem.W.mg_of X G a4)
  cases e
  have T : Txt K mg := { b_abs := PySem.W.mg_none_of X G z_abs, b_bool := PySem.W.mg_none_of X G z_bool, b_dict := PySem.W.mg_none_of X G z_dict, b_isinstance := PySem.W.mg_none_of X G z_isinstance, b_len := PySem.W.mg_none_of X G z_len, b_list := PySem.W.mg_none_of X G z_list, b_max := PySem.W.mg_none_of X G z_max, b_min := PySem.W.mg_none_of X G z_min, b_range := PySem.W.mg_none_of X G z_range, c_FREE := ⟨_, PySem.W.mg_of X G g_FREE⟩, c_END := ⟨_, PySem.W.mg_of X G g_END⟩, c_BAD := ⟨_, PySem.W.mg_of X G g_BAD⟩ }
  have F0 := fun_mk (st := s_chain_from) l0 e0 k0
  have b0 := F0.binds (ps := ["table", "block"]) fun _ _ _ _ _ _ us hl => match us, hl with | [_, _], _ => rfl
  have F1 := fun_mk (st := s__law_digits) l1 e1 k1
  have b1 := F1.binds (ps := ["_law_script", "_law_k"]) fun _ _ _ _ _ _ us hl => match us, hl with | [_, _], _ => rfl
  have F2 := fun_mk (st := s__law_take) l2 e2 k2
  have b2 := F2.binds (ps := ["_law_held", "_law_many"]) fun _ _ _ _ _ _ us hl => match us, hl with | [_, _], _ => rfl
  have F3 := fun_mk (st := s__law_laid) l3 e3 k3
  have b3 := F3.binds (ps := ["_law_held"]) fun _ _ _ _ _ _ us hl => match us, hl with | [_], _ => rfl
  have F4 := fun_mk (st := s_law) l4 e4 k4
  have b4 := F4.binds (ps := ["_law_script"]) fun _ _ _ _ _ _ us hl => match us, hl with | [_], _ => rfl
  refine ⟨PySem.W.fnOf "law" "law" (defArgs s_law) (defBody s_law) (defScope s_law) .none kV4 dc4 pm4 an4 cd4 ct4, fun s v => .of_eq rfl, fun base _ _ => ?_⟩
  have C0 := ok_chain_from (P := l.prog) (w := w) (base := base) ⟨F0, PySem.W.mg_of X G a0, b0⟩ T
  have C1 := ok__law_digits (P := l.prog) (w := w) (base := base) ⟨F1, PySem.W.mg_of X G a1, b1⟩ T
  have C2 := ok__law_take (P := l.prog) (w := w) (base := base) ⟨F2, PySem.W.mg_of X G a2, b2⟩ T
  have C3 := ok__law_laid (P := l.prog) (w := w) (base := base) ⟨F3, PySem.W.mg_of X G a3, b3⟩ T C2
  have C4 := ok_law (P := l.prog) (w := w) (base := base) ⟨F4, PySem.W.mg_of X G a4, b4⟩ T C0 C1 C3
  exact C4.G
end Cd
open PySem PySem.W PyProof.Rows
set_option maxHeartbeats 0 in
theorem PySem.Challenge.cw_chaindisk_k09_chains_told_holds : PySem.Challenge.rw_chaindisk_k09_chains_told.Holds := by
  w_on; o_law; k_head; (case hw => w_witness2)
  k_fill
  refine L2.walk_ofB (l := PySem.Challenge.rw_chaindisk_k09_chains_told) (n := 63) (k := 3) (x := "_law_script") (CX := fun _ => L2.CX0) (sp := fun w => Cd.sp_law _) rfl (by decide) rfl ⟨rfl, by decide, by decide⟩ (fun w h Y => PySem.W.kIn_of Y) ?F (fun w H a ns hl hbits _ hS => Fz.law_start hl hbits hS) (fun _ _ _ _ _ h => h)
  case F =>
    intro w mg fa h KX G hmg
    refine' Cd.all_mk KX G hmg ?a0 ?l0 ?e0 ?k0 ?a1 ?l1 ?e1 ?k1 ?a2 ?l2 ?e2 ?k2 ?a3 ?l3 ?e3 ?k3 ?a4 ?l4 ?e4 ?k4 ?z_abs ?z_bool ?z_dict ?z_isinstance ?z_len ?z_list ?z_max ?z_min ?z_range ?g_FREE ?g_END ?g_BAD
    (case a0 => k_is); (case l0 => k_is); (case e0 => k_is); (case k0 => k_is); (case a1 => k_is); (case l1 => k_is); (case e1 => k_is); (case k1 => k_is); (case a2 => k_is); (case l2 => k_is); (case e2 => k_is); (case k2 => k_is); (case a3 => k_is); (case l3 => k_is); (case e3 => k_is); (case k3 => k_is); (case a4 => k_is); (case l4 => k_is); (case e4 => k_is); (case k4 => k_is); (case z_abs => k_is); (case z_bool => k_is); (case z_dict => k_is); (case z_isinstance => k_is); (case z_len => k_is); (case z_list => k_is); (case z_max => k_is); (case z_min => k_is); (case z_range => k_is); (case g_FREE => k_is); (case g_END => k_is); (case g_BAD => k_is)
