import PyProof.Rows.All
import Wide.All
import OpenK.AllK
import Wide.FinOn
import HandS.ForMost
import HandS.ForExc
import HandS.Walk
import HandS.EndBits
import HandS.Wide
import HandS.TupAny
import HandS.TupMul
import HandS.IsInst
import HandS.Zip
import HandS.Replace
import HandS.StrMore
import HandS.ExcIs
import HandS.WordsExc
import HandS.TryOnly
import HandS.ExcOwn
import KE.KExcIs
import HandS.Conv
import HandS.Finally
import HandS.WordsDict
import HandS.DictComp
import HandS.ListItems
import HandS.ExcField
import HandS.ExcInit
import HandS.SetFor
import HandS.SortInts
import HandS.WideBits
import HandS.Style
import HandS.Lambda
import HandS.EndTab
import HandS.EndOwn
import HandS.SortKw
import HandS.Finally
import HandS.Deep
import HandS.Sort
import PyProof.Rows.TupDisplay
import KE.KDictDisplayH
import KE.SortKeyHeap
import KE.GoesEnum
import KE.SortUse
import KE.KSortTupG
import HandS.HotCalls
import HandS.TupLen
import KE.KEqNest
import KE.KDictPairs
import HandS.SetKeys
import PyProof.Rows.SetFrom
import PySem.Challenge.RW_chaindisk_k83_whole_short_forms_are_unli
set_option Elab.async false
set_option linter.all false
set_option maxRecDepth 100000
set_option maxHeartbeats 2000000
namespace Fz
open PySem PySem.Spec PyProof.Rows L2
mutual
theorem dp_mono {K : PySem.W.Frag} {M M' : Hp} (e : Same M M') : ∀ {v : V} {d : PyData}, Dp K M v d → Dp K M' v d
 | _, _, .non => .non
 | _, _, .bl b => .bl b
 | _, _, .int i => .int i
 | _, _, .str x => .str x
 | _, _, .lst h a => .lst (e.seq h) (dpAll_mono e a)
 | _, _, .tup h a => .tup (by
   rcases h with (h | ⟨o, h⟩) | h
   ·exact .inl (.inl (e _ _ h))
   ·exact .inl (.inr ⟨o, e _ _ h⟩)
   ·exact .inr h) (dpAll_mono e a)
theorem dpAll_mono {K : PySem.W.Frag} {M M' : Hp} (e : Same M M') : ∀ {vs : List V} {ds : List PyData}, DpAll K M vs ds → DpAll K M' vs ds
 | _, _, .nil => .nil
 | _, _, .cons h t => .cons (dp_mono e h) (dpAll_mono e t)
end
structure Pd where
 p : Hp → V → Prop
 mono : ∀ {M M' : Hp} {v : V}, Same M M' → p M v → p M' v
def pD (K : PySem.W.Frag) (d : PyData) : Pd := ⟨fun M v => Dp K M v d, fun e h => dp_mono e h⟩
def pV (x : V) : Pd := ⟨fun _ v => v = x, fun _ h => h⟩
abbrev pRef (a : Addr) : Pd := pV (.ref a)
def DicOk (K : PySem.W.Frag) (M : Hp) : List (Key × PyData) → List (Key × V) → Prop
 | [], [] => True
 | (k, d) :: r, (k', v) :: s => k' = k ∧ Dp K M v d ∧ DicOk K M r s
 | _, _ => False
theorem dicOk_mono {K : PySem.W.Frag} {M M' : Hp} (e : Same M M') : ∀ {kds : List (Key × PyData)} {kvs : List (Key × V)}, DicOk K M kds kvs → DicOk K M' kds kvs
 | [], [], _ => trivial
 | (_, _) :: _, (_, _) :: _, ⟨h1, h2, h3⟩ => ⟨h1, dp_mono e h2, dicOk_mono e h3⟩
def pDicP (K : PySem.W.Frag) (kds : List (Key × PyData)) (M : Hp) (v : V) : Prop := ∃ (a : Addr) (kvs : List (Key × V)), v = .ref a ∧ M a = some (.dK kvs) ∧ DicOk K M kds kvs
def pDic (K : PySem.W.Frag) (kds : List (Key × PyData)) : Pd := ⟨pDicP K kds, fun e ⟨a, kvs, h1, h2, h3⟩ => ⟨a, kvs, h1, e _ _ h2, dicOk_mono e h3⟩⟩
inductive Cell where
 | lst (ds : List PyData)
 | dic (kds : List (Key × PyData))
 | ins (C dx : Addr) (fs : List (Str × Pd))
 | own (x : Addr)
 | lstP (ps : List Pd)
 | dicP (kps : List (Key × Pd))
abbrev Cs := Addr → Option Cell
def updC (C : Cs) (a : Addr) (c : Cell) : Cs := fun b => if b = a then some c else C b
theorem updC_same {C : Cs} {a : Addr} {c : Cell} : updC C a c a = some c := by unfold updC; rw [if_pos rfl]
theorem updC_ne {C : Cs} {a b : Addr} {c : Cell} (h : b ≠ a) : updC C a c b = C b := by unfold updC; rw [if_neg h]
theorem updC_updC {C : Cs} {a : Addr} {c c' : Cell} : updC (updC C a c) a c' = updC C a c' := by
 funext b; unfold updC; split <;> rfl
theorem updC_self {C : Cs} {a : Addr} {c : Cell} (h : C a = some c) : updC C a c = C := by
 funext b; unfold updC; split
 ·rename_i e; rw [e, h]
 ·rfl
theorem neC_of_none {C : Cs} {a b : Addr} {c : Cell} (h : C a = some c) (h' : C b = none) : a ≠ b := by
 intro e; subst e; rw [h] at h'; cases h'
def AllP (M : Hp) : List Pd → List V → Prop
 | [], [] => True
 | p :: ps, v :: vs => p.p M v ∧ AllP M ps vs
 | _, _ => False
theorem allP_mono {M M' : Hp} (e : Same M M') : ∀ {ps : List Pd} {vs : List V}, AllP M ps vs → AllP M' ps vs
 | [], [], _ => trivial
 | p :: _, _ :: _, ⟨h, t⟩ => ⟨p.mono e h, allP_mono e t⟩
def CellOk (K : PySem.W.Frag) (M : Hp) : Cell → HO → Prop
 | .lst ds, .lst xs => DpAll K M xs ds
 | .dic kds, .dK kvs => DicOk K M kds kvs
 | .ins C dx fs, .ins C' dx' gs => C' = C ∧ dx' = dx ∧ gs.map (·.1) = fs.map (·.1) ∧ AllP M (fs.map (·.2)) (gs.map (·.2))
 | .own x, .own y => y = x
 | .lstP ps, .lst xs => AllP M ps xs
 | .dicP kps, .dK kvs => kvs.map (·.1) = kps.map (·.1) ∧ AllP M (kps.map (·.2)) (kvs.map (·.2))
 | _, _ => False
theorem cellOk_mono {K : PySem.W.Frag} {M M' : Hp} (e : Same M M') {c : Cell} {o : HO} (h : CellOk K M c o) : CellOk K M' c o := by
 cases c <;> cases o <;> first
  | exact False.elim h
  | exact dpAll_mono e h
  | exact dicOk_mono e h
  | exact ⟨h.1, h.2.1, h.2.2.1, allP_mono e h.2.2.2⟩
  | exact ⟨h.1, allP_mono e h.2⟩
  | exact allP_mono e h
  | exact h
structure Ok (K : PySem.W.Frag) (M : Hp) (C : Cs) (H : Hp) : Prop where
 fz : Same M H
 cs : ∀ a c, C a = some c → M a = none ∧ ∃ o, H a = some o ∧ CellOk K M c o
section
variable {K : PySem.W.Frag} {M M' H H' : Hp} {C C' : Cs} {a p : Addr} {c : Cell} {o : HO}
theorem Ok.free (k : Ok K M C H) (h : H p = none) : M p = none ∧ C p = none := by
 refine ⟨k.fz.free h, ?_⟩
 cases e : C p with
 | none => rfl
 | some c =>
  obtain ⟨_, o, h2, _⟩ := k.cs p c e
  rw [h] at h2; cases h2
theorem Ok.cell (k : Ok K M C H) (h : H p = none) (ho : CellOk K M c o) : C p = none ∧ Ok K M (updC C p c) (upd H p o) := by
 obtain ⟨hM, hC⟩ := k.free h
 refine ⟨hC, fun b u e => ?_, fun a d e => ?_⟩
 ·rw [upd_ne (ne_of_none e hM)]; exact k.fz _ _ e
 ·by_cases ha : a = p
  ·subst ha; rw [updC_same] at e; cases e
   exact ⟨hM, o, upd_same, ho⟩
  ·rw [updC_ne ha] at e
   obtain ⟨h1, u, h2, h3⟩ := k.cs a d e
   exact ⟨h1, u, by rw [upd_ne ha]; exact h2, h3⟩
theorem Ok.set {c' : Cell} (k : Ok K M C H) (h : C a = some c) (ho : CellOk K M c' o) : Ok K M (updC C a c') (upd H a o) := by
 obtain ⟨hM, _⟩ := k.cs a c h
 refine ⟨fun b u e => ?_, fun b d e => ?_⟩
 ·rw [upd_ne (ne_of_none e hM)]; exact k.fz _ _ e
 ·by_cases hb : b = a
  ·subst hb; rw [updC_same] at e; cases e
   exact ⟨hM, o, upd_same, ho⟩
  ·rw [updC_ne hb] at e
   obtain ⟨h1, u, h2, h3⟩ := k.cs b d e
   exact ⟨h1, u, by rw [upd_ne hb]; exact h2, h3⟩
theorem Ok.freeze (k : Ok K M (updC C a c) H) (h : C a = none) : ∃ o, H a = some o ∧ CellOk K M c o ∧ Same M (upd M a o) ∧ Ok K (upd M a o) C H := by
 obtain ⟨hM, o, h1, h2⟩ := k.cs a c updC_same
 have s : Same M (upd M a o) := fun b u e => by rw [upd_ne (ne_of_none e hM)]; exact e
 refine ⟨o, h1, h2, s, fun b u e => ?_, fun b d e => ?_⟩
 ·by_cases hb : b = a
  ·subst hb; rw [upd_same] at e; cases e; exact h1
  ·rw [upd_ne hb] at e; exact k.fz _ _ e
 ·have hb : b ≠ a := neC_of_none e h
  obtain ⟨q1, u, q2, q3⟩ := k.cs b d (by rw [updC_ne hb]; exact e)
  exact ⟨by rw [upd_ne hb]; exact q1, u, q2, cellOk_mono s q3⟩
end
abbrev En := List (Option Pd)
def EnvOk (M : Hp) : En → L2.St → Prop
 | [], [] => True
 | none :: ρ, _ :: σ => EnvOk M ρ σ
 | some p :: ρ, some v :: σ => p.p M v ∧ EnvOk M ρ σ
 | _, _ => False
theorem EnvOk.mono {M M' : Hp} (e : Same M M') : ∀ {ρ : En} {σ : L2.St}, EnvOk M ρ σ → EnvOk M' ρ σ
 | [], [], _ => trivial
 | none :: ρ, _ :: σ, h => EnvOk.mono (ρ := ρ) (σ := σ) e h
 | some p :: ρ, some _ :: σ, ⟨h, t⟩ => ⟨p.mono e h, EnvOk.mono (ρ := ρ) (σ := σ) e t⟩
theorem EnvOk.get {M : Hp} {p : Pd} : ∀ {ρ : En} {σ : L2.St} {i : Nat}, EnvOk M ρ σ → ρ[i]? = some (some p) → ∃ v, σ[i]? = some (some v) ∧ p.p M v
 | [], _, _, _, e => by simp at e
 | none :: _, _ :: _, 0, h, e => by simp at e
 | none :: ρ, _ :: σ, i + 1, h, e => EnvOk.get (ρ := ρ) (σ := σ) (i := i) h e
 | some q :: _, some v :: _, 0, ⟨h, _⟩, e => by
  have e' : q = p := by simpa using e
  subst e'; exact ⟨v, rfl, h⟩
 | some _ :: ρ, some _ :: σ, i + 1, ⟨_, t⟩, e => EnvOk.get (ρ := ρ) (σ := σ) (i := i) t e
 | some _ :: _, none :: _, _, h, _ => False.elim h
theorem EnvOk.set {M : Hp} {p : Pd} {v : V} (hv : p.p M v) : ∀ {ρ : En} {σ : L2.St} (i : Nat), EnvOk M ρ σ → EnvOk M (ρ.set i (some p)) (σ.set i (some v))
 | [], [], _, _ => trivial
 | none :: ρ, _ :: σ, 0, h => ⟨hv, h⟩
 | some _ :: ρ, some _ :: σ, 0, ⟨_, t⟩ => ⟨hv, t⟩
 | none :: ρ, _ :: σ, i + 1, h => EnvOk.set (ρ := ρ) (σ := σ) hv i h
 | some _ :: ρ, some _ :: σ, i + 1, ⟨h, t⟩ => ⟨h, EnvOk.set (ρ := ρ) (σ := σ) hv i t⟩
theorem EnvOk.wipe1 {M : Hp} : ∀ {ρ : En} {σ : L2.St} (i : Nat) (x : Option V), EnvOk M ρ σ → EnvOk M (ρ.set i none) (σ.set i x)
 | [], [], _, _, _ => trivial
 | none :: ρ, _ :: σ, 0, _, h => h
 | some _ :: ρ, some _ :: σ, 0, _, ⟨_, t⟩ => t
 | none :: ρ, _ :: σ, i + 1, x, h => EnvOk.wipe1 (ρ := ρ) (σ := σ) i x h
 | some _ :: ρ, some _ :: σ, i + 1, x, ⟨h, t⟩ => ⟨h, EnvOk.wipe1 (ρ := ρ) (σ := σ) i x t⟩
theorem EnvOk.forget {M : Hp} : ∀ {ρ : En} {σ : L2.St} (i : Nat), EnvOk M ρ σ → EnvOk M (ρ.set i none) σ
 | [], [], _, _ => trivial
 | none :: ρ, _ :: σ, 0, h => h
 | some _ :: ρ, some _ :: σ, 0, ⟨_, t⟩ => t
 | none :: ρ, _ :: σ, i + 1, h => EnvOk.forget (ρ := ρ) (σ := σ) i h
 | some _ :: ρ, some _ :: σ, i + 1, ⟨h, t⟩ => ⟨h, EnvOk.forget (ρ := ρ) (σ := σ) i t⟩
def wipeR (ρ : En) : List Nat → En
 | [] => ρ
 | v :: vs => (wipeR ρ vs).set v none
theorem EnvOk.wipe {M : Hp} {ρ : En} {σ : L2.St} (h : EnvOk M ρ σ) : ∀ vs : List Nat, EnvOk M (wipeR ρ vs) (wipe σ vs)
 | [] => h
 | v :: vs => (EnvOk.wipe h vs).wipe1 v none
theorem EnvOk.start {M : Hp} : ∀ {ps : List Pd} {vs : List V} (n : Nat), AllP M ps vs → EnvOk M (ps.map some ++ List.replicate n none) (vs.map some ++ List.replicate n none)
 | [], [], n, _ => by
  show EnvOk M (List.replicate n none) (List.replicate n none)
  induction n with
  | zero => trivial
  | succ n ih => exact ih
 | _ :: _, _ :: _, n, ⟨h, t⟩ => ⟨h, EnvOk.start n t⟩
def EnvLe (ρ ρ' : En) : Prop := ∀ (M : Hp) (σ : L2.St), EnvOk M ρ σ → EnvOk M ρ' σ
theorem EnvLe.refl (ρ : En) : EnvLe ρ ρ := fun _ _ h => h
theorem EnvLe.trans {ρ ρ1 ρ2 : En} (a : EnvLe ρ ρ1) (b : EnvLe ρ1 ρ2) : EnvLe ρ ρ2 := fun M σ h => b M σ (a M σ h)
theorem EnvLe.nil : EnvLe [] [] := fun _ _ h => h
theorem EnvLe.same {x : Option Pd} {ρ ρ' : En} (h : EnvLe ρ ρ') : EnvLe (x :: ρ) (x :: ρ') := fun M σ e => by
 match x, σ, e with
 | none, _ :: σ, e => exact h M σ e
 | some p, some v :: σ, ⟨a, e⟩ => exact ⟨a, h M σ e⟩
theorem EnvLe.drop {x : Option Pd} {ρ ρ' : En} (h : EnvLe ρ ρ') : EnvLe (x :: ρ) (none :: ρ') := fun M σ e => by
 match x, σ, e with
 | none, _ :: σ, e => exact h M σ e
 | some p, some v :: σ, ⟨a, e⟩ => exact h M σ e
theorem EnvLe.imp {p q : Pd} {ρ ρ' : En} (hp : ∀ M v, p.p M v → q.p M v) (h : EnvLe ρ ρ') : EnvLe (some p :: ρ) (some q :: ρ') := fun M σ e => by
 match σ, e with
 | some v :: σ, ⟨a, e⟩ => exact ⟨hp M v a, h M σ e⟩
def Sub (C' C : Cs) : Prop := ∀ a c, C' a = some c → C a = some c
theorem Sub.refl (C : Cs) : Sub C C := fun _ _ h => h
theorem Sub.trans {C1 C2 C3 : Cs} (h : Sub C1 C2) (h' : Sub C2 C3) : Sub C1 C3 := fun a c e => h' a c (h a c e)
def Ec (K : PySem.W.Frag) (t : TE) (ρ : En) (C : Cs) (p : Pd) (C' : Cs) : Prop := ∀ (σ : L2.St) (H M : Hp) (Q : VK), EnvOk M ρ σ → Ok K M C H → (∀ v H' M', Same M M' → Ok K M' C' H' → p.p M' v → Q v H') → t σ H Q
def Ew (K : PySem.W.Frag) (t : TE) (ρ : En) (C : Cs) (c : Cell) (C' : Cs) : Prop := ∀ (σ : L2.St) (H M : Hp) (Q : VK), EnvOk M ρ σ → Ok K M C H → (∀ a H' M', Same M M' → C' a = none → Ok K M' (updC C' a c) H' → Q (.ref a) H') → t σ H Q
section
variable {K : PySem.W.Frag} {t ta tb te : TE} {ρ ρ' : En} {C C1 C2 C3 C' : Cs} {p q s : Pd} {ps : List Pd} {c : Cell}
theorem Ec.imp {p' : Pd} (h : Ec K t ρ C p C') (e : ∀ M v, p.p M v → p'.p M v) : Ec K t ρ C p' C' := fun σ H M Q e0 k z => h σ H M Q e0 k fun v H' M' s k' hv => z v H' M' s k' (e _ _ hv)
theorem Ew.list {ds : List PyData} (h : Ew K t ρ C (.lst ds) C') : Ec K t ρ C (pD K (.list ds)) C' := fun σ H M Q e k z => h σ H M Q e k fun a H' M' s n k' => by
 obtain ⟨o, h1, h2, h3, h4⟩ := k'.freeze n
 cases o <;> first | exact False.elim h2 | skip
 rename_i xs
 exact z (.ref a) H' _ (s.trans h3) h4 (Dp.lst (.inl (.inl upd_same)) (dpAll_mono h3 h2))
theorem Ew.dict {kds : List (Key × PyData)} (h : Ew K t ρ C (.dic kds) C') : Ec K t ρ C (pDic K kds) C' := fun σ H M Q e k z => h σ H M Q e k fun a H' M' s n k' => by
 obtain ⟨o, h1, h2, h3, h4⟩ := k'.freeze n
 cases o <;> first | exact False.elim h2 | skip
 rename_i kvs
 exact z (.ref a) H' _ (s.trans h3) h4 ⟨a, kvs, rfl, upd_same, dicOk_mono h3 h2⟩
theorem dpAll_ints {M : Hp} : ∀ {vs : List V} {ns : List Int}, DpAll K M vs (ns.map PyData.int) → vs = ns.map V.int
 | [], [], _ => rfl
 | _, [], .nil => rfl
 | _, n :: ns, .cons (.int _) t => by rw [List.map_cons, dpAll_ints t]
theorem ints_dpAll {M : Hp} : ∀ (ns : List Int), DpAll K M (ns.map V.int) (ns.map PyData.int)
 | [] => .nil
 | n :: ns => .cons (.int n) (ints_dpAll ns)
theorem d_int {M : Hp} {v : V} {i : Int} (h : Dp K M v (.int i)) : v = .int i := by cases h; rfl
theorem d_bl {M : Hp} {v : V} {i : Bool} (h : Dp K M v (.bool i)) : v = .bl i := by cases h; rfl
theorem d_tup {M : Hp} {v : V} {ds : List PyData} (h : Dp K M v (.tuple ds)) : ∃ a xs, v = .ref a ∧ SqT K M a xs ∧ DpAll K M xs ds := by cases h with | tup a b => exact ⟨_, _, rfl, a, b⟩
theorem d_lst {M : Hp} {v : V} {ds : List PyData} (h : Dp K M v (.list ds)) : ∃ a xs, v = .ref a ∧ SqL K M a xs ∧ DpAll K M xs ds := by cases h with | lst a b => exact ⟨_, _, rfl, a, b⟩
theorem Ok.lst {M H : Hp} {a : Addr} {ds : List PyData} (k : Ok K M C H) (h : C a = some (.lst ds)) : ∃ xs, H a = some (.lst xs) ∧ DpAll K M xs ds := by
 obtain ⟨_, o, h1, h2⟩ := k.cs a _ h
 cases o <;> first | exact False.elim h2 | exact ⟨_, h1, h2⟩
theorem Ok.dic {M H : Hp} {a : Addr} {kds : List (Key × PyData)} (k : Ok K M C H) (h : C a = some (.dic kds)) : ∃ kvs, H a = some (.dK kvs) ∧ DicOk K M kds kvs := by
 obtain ⟨_, o, h1, h2⟩ := k.cs a _ h
 cases o <;> first | exact False.elim h2 | exact ⟨_, h1, h2⟩
end
def Ex (K : PySem.W.Frag) (M0 : Hp) (t : TS) (D : Ends) (ρ : En) (C : Cs) : Prop := ∀ (σ : L2.St) (H M : Hp), Same M0 M → EnvOk M ρ σ → Ok K M C H → t D σ H
def Nx (K : PySem.W.Frag) (M0 : Hp) (N : L2.St → Hp → Prop) (ρ : En) (C : Cs) : Prop := ∀ (σ : L2.St) (H M : Hp), Same M0 M → EnvOk M ρ σ → Ok K M C H → N σ H
def Rt (K : PySem.W.Frag) (M0 : Hp) (R : VK) (p : Pd) (C : Cs) : Prop := ∀ (v : V) (H M : Hp), Same M0 M → Ok K M C H → p.p M v → R v H
def RtW (K : PySem.W.Frag) (M0 : Hp) (R : VK) (c : Cell) (C : Cs) : Prop := ∀ (a : Addr) (H M : Hp), Same M0 M → C a = none → Ok K M (updC C a c) H → R (.ref a) H
section
variable {K : PySem.W.Frag} {M0 : Hp} {t u : TS} {te : TE} {D : Ends} {ρ ρ' : En} {C C1 C2 C' : Cs} {p : Pd} {c : Cell}
theorem Nx.of (h : Ex K M0 t D ρ C) : Nx K M0 (t D) ρ C := h
theorem Rt.up {M1 : Hp} {R : VK} (s : Same M0 M1) (h : Rt K M0 R p C) : Rt K M1 R p C := fun v H M s1 o hv => h v H M (s.trans s1) o hv
theorem RtW.up {M1 : Hp} {R : VK} (s : Same M0 M1) (h : RtW K M0 R c C) : RtW K M1 R c C := fun v H M s1 n o => h v H M (s.trans s1) n o
theorem Nx.up {M1 : Hp} {N : L2.St → Hp → Prop} (s : Same M0 M1) (h : Nx K M0 N ρ C) : Nx K M1 N ρ C := fun σ H M s1 e o => h σ H M (s.trans s1) e o
theorem Ex.up {M1 : Hp} (s : Same M0 M1) (h : Ex K M0 t D ρ C) : Ex K M1 t D ρ C := fun σ H M s1 e o => h σ H M (s.trans s1) e o
end
def spF {γ : Type} (K : PySem.W.Frag) (A : γ → List Pd) (pre : γ → Cs → Prop) (r : γ → Pd) (eff : γ → Cs → Cs) : Sp := fun vs H Q _ => ∃ (g : γ) (M : Hp) (C : Cs), Ok K M C H ∧ AllP M (A g) vs ∧ pre g C ∧ Rt K M Q (r g) (eff g C)
structure Cal (P : Program) (w : World) (K : PySem.W.Frag) (mg : Str → Option Value) (base : Heap) (CX : CXT) (x : Str) (k : Nat) (ps : List Str) (sp : Sp) (f : Addr) (fd : FuncData) : Prop where
 G : FnOk P w K mg base CX k f fd ps sp
 g : mg x = some (.ref f)
 kp : PySem.W.keepIn K (.ref f) = true
 b : Binds K fd ps []
structure Def (K : PySem.W.Frag) (mg : Str → Option Value) (x : Str) (st : Stmt) (ps : List Str) (f : Addr) (fd : FuncData) : Prop where
 F : Fun K x x st f fd
 g : mg x = some (.ref f)
 b : Binds K fd ps []
section
variable {K : PySem.W.Frag} {ρ : En} {C C1 : Cs} {ta : TA} {tl : TE}
def dTy : PyData → String
 | .none => "NoneType"
 | .bool _ => "bool"
 | .int _ => "int"
 | .str _ => "str"
 | .list _ => "list"
 | .tuple _ => "tuple"
 | .dict _ => "dict"
theorem flat_one {α : Type} (n : Nat) (d : α) : (List.replicate n [d]).flatten = List.replicate n d := by
 induction n with
 | zero => rfl
 | succ n ih => rw [List.replicate_succ, List.flatten_cons, ih, List.replicate_succ]; rfl
end
def spLaw (K : PySem.W.Frag) : Sp := spF (γ := List Int) K (fun ns => [pD K (.list (ns.map PyData.int))]) (fun ns _ => ns.length ≤ 63 ∧ ∀ z ∈ ns, Builtin.Int.intBits z ≤ 1048576) (fun _ => pD K (.bool true)) (fun _ C => C)
theorem law_start {K : PySem.W.Frag} {H : Hp} {a : Addr} {ns : List Int} {E : XK} (hl : ns.length ≤ 63) (hb : ∀ z ∈ ns, Builtin.Int.intBits z ≤ 1048576) (hS : SqL K H a (ns.map V.int)) : spLaw K [.ref a] H (fun v _ => v = .bl true) E :=
 ⟨ns, H, fun _ => none, ⟨Same.refl _, fun a c e => nomatch e⟩, ⟨Dp.lst hS (ints_dpAll ns), trivial⟩, ⟨hl, hb⟩, fun v H' M' _ _ hv => d_bl hv⟩
theorem wipe_get (σ : L2.St) (i : Nat) : ∀ vs : List Nat, (wipe σ vs)[i]? = if i ∈ vs then (σ[i]?).map (fun _ => none) else σ[i]?
 | [] => by simp [wipe]
 | v :: vs => by
  have ih := wipe_get σ i vs
  unfold wipe
  by_cases h : i = v
  ·subst h
   rw [if_pos List.mem_cons_self]
   by_cases hl : i < σ.length
   ·rw [List.getElem?_set_self (by rw [wipe_length]; exact hl), List.getElem?_eq_getElem hl]; rfl
   ·rw [List.getElem?_eq_none (by rw [List.length_set, wipe_length]; omega), List.getElem?_eq_none (by omega)]; rfl
  ·rw [List.getElem?_set_ne (Ne.symm h), ih]
   by_cases h2 : i ∈ vs
   ·rw [if_pos h2, if_pos (List.mem_cons_of_mem _ h2)]
   ·rw [if_neg h2, if_neg (by simp [h, h2])]
theorem wipe_set {σ : L2.St} {vs : List Nat} {j : Nat} {x : Option V} (hj : j ∈ vs) : wipe (σ.set j x) vs = wipe σ vs := by
 apply List.ext_getElem?
 intro i
 rw [wipe_get, wipe_get]
 by_cases h : i ∈ vs
 ·rw [if_pos h, if_pos h]
  by_cases e : i = j
  ·subst e
   by_cases hl : i < σ.length
   ·rw [List.getElem?_set_self hl, List.getElem?_eq_getElem hl]; rfl
   ·rw [List.getElem?_eq_none (by rw [List.length_set]; omega), List.getElem?_eq_none (by omega)]
  ·rw [List.getElem?_set_ne (Ne.symm e)]
 ·rw [if_neg h, if_neg h, List.getElem?_set_ne (fun e => h (by rw [← e]; exact hj))]
theorem wipe_wipe (σ : L2.St) (vs : List Nat) : wipe (wipe σ vs) vs = wipe σ vs := by
 apply List.ext_getElem?
 intro i
 rw [wipe_get, wipe_get]
 by_cases h : i ∈ vs
 ·rw [if_pos h, if_pos h]; cases σ[i]? <;> rfl
 ·rw [if_neg h, if_neg h]
section
variable {K : PySem.W.Frag} {ρ : En} {C C1 C2 C3 : Cs} {tl te : TE}
def sgn (c : Nat) : Str := ⟨#[c]⟩
end
def sL (l : List Nat) : Str := ⟨l.toArray⟩
theorem sL_cps (l : List Nat) : (sL l).cps.toList = l := by simp [sL]
theorem sL_len (l : List Nat) : (sL l).length = l.length := by simp [sL, Str.length]
theorem str_ext {x y : Str} (h : x.cps.toList = y.cps.toList) : x = y := by
 cases x; cases y
 simp only [Str.mk.injEq]
 exact Array.ext' h
theorem sL_of (x : Str) : sL x.cps.toList = x := str_ext (sL_cps _)
theorem sL_app (a b : List Nat) : sL a ++ sL b = sL (a ++ b) := str_ext (by
 show ((sL a).cps ++ (sL b).cps).toList = _
 rw [Array.toList_append, sL_cps, sL_cps, sL_cps])
theorem sgn_sL (c : Nat) : sgn c = sL [c] := rfl
theorem sL_cut (l : List Nat) (lo hi : Option Int) : cutS (sL l) lo hi = sL ((l.drop (HT.sIx l.length 0 lo)).take (HT.sIx l.length l.length hi - HT.sIx l.length 0 lo)) := by
 unfold cutS
 rw [sL_cps, sL_len]; rfl
theorem join_flat : ∀ parts : List (List Nat), TL.joinL [] parts = parts.flatten
 | [] => rfl
 | [p] => by simp [TL.joinL]
 | p :: q :: r => by
  unfold TL.joinL
  rw [join_flat (q :: r)]; rfl
theorem join_sL (parts : List (List Nat)) : Txt.join "" (parts.map sL) = sL parts.flatten := by
 rw [TL.join_eq]
 apply str_ext
 have := TL.tl_join (Str.ofString "") (parts.map sL)
 have e : TL.tl (Str.ofString "") = [] := by decide +kernel
 rw [e, join_flat] at this
 rw [sL_cps]
 have h2 : (parts.map sL).map TL.tl = parts := by
  rw [List.map_map]
  conv => rhs; rw [← List.map_id parts]
  apply List.map_congr_left
  intro a _
  exact sL_cps a
 rw [h2] at this
 exact this
def TOk (x : Str) : Prop := ∀ c ∈ x.cps.toList, c < 1114112
theorem TOk.lay {x : Str} (h : TOk x) : (PyData.str x).canLay0 = true := by
 unfold PyData.canLay0 PyData.strOk
 rw [Array.all_eq_true']
 intro c hc
 exact decide_eq_true (h c (Array.mem_toList_iff.mpr hc))
section
variable {K : PySem.W.Frag} {C : Cs} {p q : Pd}
mutual
def plain : PyData → Bool
 | .none => true
 | .bool _ => false
 | .int _ => true
 | .str _ => true
 | .list xs => plains xs
 | .tuple xs => plains xs
 | .dict _ => false
def plains : List PyData → Bool
 | [] => true
 | d :: ds => plain d && plains ds
end
theorem canLayAll_of : ∀ {ds : List PyData}, (∀ d ∈ ds, d.canLay0 = true) → PyData.canLayAll0 ds = true
 | [], _ => by simp [PyData.canLayAll0]
 | d :: ds, h => by unfold PyData.canLayAll0; rw [h d List.mem_cons_self, canLayAll_of (ds := ds) fun x hx => h x (List.mem_cons_of_mem _ hx)]; rfl
theorem depthAll_of : ∀ {ds : List PyData} {n : Nat}, (∀ d ∈ ds, d.depth ≤ n) → PyData.depthAll ds ≤ n
 | [], _, _ => by simp [PyData.depthAll]
 | d :: ds, n, h => by
  unfold PyData.depthAll
  have h1 := h d List.mem_cons_self
  have h2 := depthAll_of (ds := ds) fun x hx => h x (List.mem_cons_of_mem _ hx)
  exact Nat.max_le.mpr ⟨h1, h2⟩
def Shp (n : Nat) (d : PyData) : Prop := d.canLay0 = true ∧ d.depth ≤ n
theorem shp_int {n : Nat} {i : Int} : Shp n (.int i) := ⟨by simp [PyData.canLay0], by simp [PyData.depth]⟩
theorem shp_str {n : Nat} {x : Str} (h : TOk x) : Shp n (.str x) := ⟨h.lay, by simp [PyData.depth]⟩
theorem shp_list {n : Nat} {ds : List PyData} (h : ∀ d ∈ ds, Shp n d) : Shp (n + 1) (.list ds) := ⟨by unfold PyData.canLay0; exact canLayAll_of fun d hd => (h d hd).1, by
 have := depthAll_of (ds := ds) (n := n) fun d hd => (h d hd).2
 unfold PyData.depth; omega⟩
theorem shp_tup {n : Nat} {ds : List PyData} (h : ∀ d ∈ ds, Shp n d) : Shp (n + 1) (.tuple ds) := ⟨by unfold PyData.canLay0; exact canLayAll_of fun d hd => (h d hd).1, by
 have := depthAll_of (ds := ds) (n := n) fun d hd => (h d hd).2
 unfold PyData.depth; omega⟩
theorem shp_ints {n : Nat} {ns : List Int} : ∀ d ∈ ns.map PyData.int, Shp n d := fun d hd => by
 obtain ⟨i, _, rfl⟩ := List.mem_map.mp hd
 exact shp_int
theorem Shp.shaped {n : Nat} {d : PyData} (h : Shp n d) (hn : n ≤ 64 := by decide) : SeqAt.shaped d = true := by
 unfold SeqAt.shaped
 rw [h.1, decide_eq_true (Nat.le_trans h.2 hn)]; rfl
end
section
variable {K : PySem.W.Frag} {ρ : En} {C C1 C2 C3 : Cs} {tl te to : TE} {ta : TA} {p q : Pd} {M0 : Hp} {D : Ends} {u : TS}
def Dat (K : PySem.W.Frag) (C : Cs) (p : Pd) (d : PyData) : Prop := p = pD K d ∨ ∃ a ds, p = pRef a ∧ C a = some (.lst ds) ∧ d = .list ds
theorem Dat.sub {d : PyData} (h : Dat K C p d) (s : Sub C C1) : Dat K C1 p d := by
 rcases h with h | ⟨a, ds, h1, h2, h3⟩
 ·exact .inl h
 ·exact .inr ⟨a, ds, h1, s _ _ h2, h3⟩
theorem Dat.list {M H : Hp} {v : V} {ds : List PyData} (h : Dat K C p (.list ds)) (k : Ok K M C H) (hv : p.p M v) : ∃ a xs, v = .ref a ∧ SqL K H a xs ∧ DpAll K M xs ds := by
 rcases h with rfl | ⟨a, es, rfl, h2, h3⟩
 ·obtain ⟨a, xs, rfl, h1, h2⟩ := d_lst hv
  exact ⟨a, xs, rfl, k.fz.seq h1, h2⟩
 ·cases h3
  have hv' : v = .ref a := hv
  obtain ⟨xs, h1, h2⟩ := k.lst h2
  exact ⟨a, xs, hv', .inl (.inl h1), h2⟩
theorem Dat.tup {M H : Hp} {v : V} {ds : List PyData} (h : Dat K C p (.tuple ds)) (k : Ok K M C H) (hv : p.p M v) : ∃ a xs, v = .ref a ∧ SqT K M a xs ∧ DpAll K M xs ds := by
 rcases h with rfl | ⟨a, es, rfl, h2, h3⟩
 ·exact d_tup hv
 ·cases h3
def isNone : PyData → Bool | .none => true | _ => false
end
section
variable {K : PySem.W.Frag} {ρ : En} {C C1 C2 C3 : Cs} {tl te to t : TE} {ta : TA} {p q : Pd} {M0 : Hp} {D : Ends} {u : TS} {c c' : Cell}
theorem cut_to {α : Type} (l : List α) (m : Nat) : (l.drop (HT.sIx l.length 0 none)).take (HT.sIx l.length l.length (some (m : Int)) - HT.sIx l.length 0 none) = l.take m := by
 rw [HT.sIx_none, HT.sIx_nat, List.drop_zero, Nat.sub_zero]
 by_cases h : m ≤ l.length
 ·rw [Nat.min_eq_left h]
 ·rw [Nat.min_eq_right (by omega), List.take_length, List.take_of_length_le (by omega)]
theorem cut_from {α : Type} (l : List α) (m : Nat) : (l.drop (HT.sIx l.length 0 (some (m : Int)))).take (HT.sIx l.length l.length none - HT.sIx l.length 0 (some (m : Int))) = l.drop m := by
 rw [HT.sIx_none, HT.sIx_nat]
 by_cases h : m ≤ l.length
 ·rw [Nat.min_eq_left h, List.take_of_length_le (by rw [List.length_drop]; omega)]
 ·rw [Nat.min_eq_right (by omega), List.drop_of_length_le (Nat.le_refl _), List.drop_of_length_le (by omega), List.take_nil]
end
def rMulS : R2 := fun x y H Q => ∃ a n, x = .str a ∧ y = .int n ∧ MulOk a n ∧ Q (.str (Txt.mul a n)) H
theorem op_mulS {X : Cx} : OpR X (binaryOp .Mult) rMulS := by
 intro pins s σ H x y v u Q I rx ry h
 obtain ⟨a, n, rfl, rfl, hok, q⟩ := h
 obtain ⟨t, rfl⟩ := rx
 obtain ⟨t', rfl⟩ := ry
 exact SB.mul hok fun t2 k => ⟨.str _, H, I.tok _, ⟨_, rfl⟩, q⟩
theorem Sub.none {C C1 : Cs} {a : Addr} (s : Sub C C1) (h : C1 a = Option.none) : C a = Option.none := by
 cases e : C a with
 | none => rfl
 | some c => rw [s a c e] at h; cases h
def pE (K : PySem.W.Frag) (φ : PyData → Prop) : Pd := ⟨fun M v => ∃ d, φ d ∧ Dp K M v d, fun e ⟨d, h, h'⟩ => ⟨d, h, dp_mono e h'⟩⟩
def pI (φ : Int → Prop) : Pd := ⟨fun _ v => ∃ i, φ i ∧ v = .int i, fun _ h => h⟩
def isLs (φ : List PyData → Prop) : PyData → Prop := fun d => ∃ ds, d = .list ds ∧ φ ds
def pZ : Pd := pI fun _ => True
def purse : Cell := .lstP [pZ]
def EwE (K : PySem.W.Frag) (t : TE) (ρ : En) (C : Cs) (Φ : Cell → Prop) (C' : Cs) : Prop := ∀ (σ : L2.St) (H M : Hp) (Q : VK), EnvOk M ρ σ → Ok K M C H → (∀ a c H' M', Same M M' → Φ c → C' a = none → Ok K M' (updC C' a c) H' → Q (.ref a) H') → t σ H Q
section
variable {K : PySem.W.Frag} {M0 : Hp} {t u : TS} {te ta tb : TE} {D : Ends} {ρ ρ' : En} {C C1 C2 C' : Cs} {p q s : Pd} {c : Cell} {φ ψ : PyData → Prop} {f g : Int → Prop}
theorem EwE.list {Φ : Cell → Prop} {φ : List PyData → Prop} (h : EwE K te ρ C Φ C') (m : ∀ c, Φ c → ∃ ds, c = .lst ds ∧ φ ds) : Ec K te ρ C (pE K (isLs φ)) C' := fun σ H M Q e k z => h σ H M Q e k fun a c H' M' s hc n k' => by
 obtain ⟨ds, rfl, hds⟩ := m c hc
 obtain ⟨o, h1, h2, h3, h4⟩ := k'.freeze n
 cases o <;> first | exact False.elim h2 | skip
 rename_i xs
 exact z (.ref a) H' _ (s.trans h3) h4 ⟨_, ⟨ds, rfl, hds⟩, Dp.lst (.inl (.inl upd_same)) (dpAll_mono h3 h2)⟩
theorem EwE.map {Φ Ψ : Cell → Prop} (h : EwE K te ρ C Φ C') (m : ∀ c, Φ c → Ψ c) : EwE K te ρ C Ψ C' := fun σ H M Q e k z => h σ H M Q e k fun a c H' M' s hc n k' => z a c H' M' s (m c hc) n k'
theorem Rt.imp {R : VK} (h : Rt K M0 R p C) (m : ∀ M v, q.p M v → p.p M v) : Rt K M0 R q C := fun v H M s o hv => h v H M s o (m M v hv)
theorem Ok.recell {M H : Hp} {a : Addr} {o : HO} (k : Ok K M C H) (hM : M a = none) (hH : H a = some o) (ho : CellOk K M c o) : Ok K M (updC C a c) H := ⟨k.fz, fun b d e => by
 by_cases hb : b = a
 ·subst hb; rw [updC_same] at e; cases e; exact ⟨hM, o, hH, ho⟩
 ·rw [updC_ne hb] at e; exact k.cs b d e⟩
theorem Ok.shut {M H : Hp} {a : Addr} {i : Int} (k : Ok K M (updC C a (.lst [.int i])) H) (h : C a = some purse) : Ok K M C H := by
 obtain ⟨hM, o, h1, h2⟩ := k.cs a _ updC_same
 cases o <;> first | exact False.elim h2 | skip
 rename_i xs
 have e : xs = [.int i] := dpAll_ints (ns := [i]) h2
 subst e
 have := k.recell (c := purse) hM h1 (show AllP M [pZ] [.int i] from ⟨⟨i, trivial, rfl⟩, trivial⟩)
 rw [updC_updC, updC_self h] at this
 exact this
theorem Rt.open {R : VK} {a : Addr} {i : Int} (k : Rt K M0 R p C) (h : C a = some purse) : Rt K M0 R p (updC C a (.lst [.int i])) := fun v H M s o hv => k v H M s (o.shut h) hv
theorem RtW.imp {R : VK} {c' : Cell} (k : RtW K M0 R c C) (m : ∀ M o, CellOk K M c' o → CellOk K M c o) : RtW K M0 R c' C := fun a H M s n o => k a H M s n (by
 obtain ⟨hM, ob, h1, h2⟩ := o.cs a _ updC_same
 have := o.recell (c := c) hM h1 (m M ob h2)
 rw [updC_updC] at this
 exact this)
end
def dT (T : List (Int × Int)) : List (Key × PyData) := T.map fun p => (Sum.inl p.1, PyData.int p.2)
def vT (T : List (Int × Int)) : List (Key × V) := T.map fun p => (Sum.inl p.1, V.int p.2)
theorem dicOk_T {K : PySem.W.Frag} {M : Hp} : ∀ {T : List (Int × Int)} {kvs : List (Key × V)}, DicOk K M (dT T) kvs → kvs = vT T
 | [], [], _ => rfl
 | (k, v) :: T, (k', x) :: kvs, ⟨h1, h2, h3⟩ => by
  have e := dicOk_T (T := T) (kvs := kvs) h3
  have := d_int h2
  subst this
  rw [e, h1]; rfl
 | [], _ :: _, h => False.elim h
 | _ :: _, [], h => False.elim h
def DDat (K : PySem.W.Frag) (C : Cs) (p : Pd) (T : List (Int × Int)) : Prop := p = pDic K (dT T) ∨ ∃ a, p = pRef a ∧ C a = some (.dic (dT T))
section
variable {K : PySem.W.Frag} {M0 : Hp} {t u : TS} {te td ty tv : TE} {D : Ends} {ρ ρ' : En} {C C1 C2 C3 C' : Cs} {p q s : Pd} {T S : List (Int × Int)}
theorem DDat.sub (h : DDat K C p T) (s : Sub C C1) : DDat K C1 p T := by
 rcases h with h | ⟨a, h1, h2⟩
 ·exact .inl h
 ·exact .inr ⟨a, h1, s _ _ h2⟩
theorem DDat.get {M H : Hp} {v : V} (h : DDat K C p T) (k : Ok K M C H) (hv : p.p M v) : ∃ a, v = .ref a ∧ H a = some (.dK (vT T)) := by
 rcases h with rfl | ⟨a, rfl, h⟩
 ·obtain ⟨a, kvs, rfl, h1, h2⟩ := hv
  have := dicOk_T h2
  subst this
  exact ⟨a, rfl, k.fz _ _ h1⟩
 ·obtain ⟨kvs, h1, h2⟩ := k.dic h
  have := dicOk_T h2
  subst this
  exact ⟨a, hv, h1⟩
def keysT (T : List (Int × Int)) : List Int := PySem.W.sortI (T.map (·.1))
end
def EcN (K : PySem.W.Frag) (t : TE) (ρ : En) (C : Cs) (Φ : PyData → Cs → Prop) : Prop := ∀ (σ : L2.St) (H M : Hp) (Q : VK), EnvOk M ρ σ → Ok K M C H → (∀ v d C' H' M', Same M M' → Φ d C' → Ok K M' C' H' → Dp K M' v d → Q v H') → t σ H Q
section
variable {K : PySem.W.Frag} {M0 : Hp} {t u : TS} {te td ty tv to : TE} {ta : TA} {D : Ends} {ρ ρ' : En} {C C1 C2 C3 C' : Cs} {p q : Pd} {ps : List Pd} {f : Int → Prop} {T : List (Int × Int)}
theorem EcN.map {Φ Ψ : PyData → Cs → Prop} (h : EcN K te ρ C Φ) (m : ∀ d C', Φ d C' → Ψ d C') : EcN K te ρ C Ψ := fun σ H M Q e k z => h σ H M Q e k fun v d C' H' M' s hd k' hv => z v d C' H' M' s (m d C' hd) k' hv
end
def XdOk (M : Hp) : Option (Str × Pd) → Option Addr → Prop
 | none, none => True
 | some (f, p), some dd => ∃ v, M dd = some (.xd [(f, v)]) ∧ p.p M v
 | _, _ => False
theorem XdOk.mono {M M' : Hp} (e : Same M M') : ∀ {fo : Option (Str × Pd)} {d : Option Addr}, XdOk M fo d → XdOk M' fo d
 | none, none, _ => trivial
 | some (_, p), some _, ⟨v, h1, h2⟩ => ⟨v, e _ _ h1, p.mono e h2⟩
 | none, some _, h => False.elim h
 | some _, none, h => False.elim h
inductive Out where
 | val (p : Pd) (C : Cs)
 | cell (c : Cell) (C : Cs)
 | err (cls : Value) (fo : Option (Str × Pd)) (C : Cs)
def clsOf (K : PySem.W.Frag) (x : Str) : Value := match PySem.W.nsIn K mainGlobals x with
 | some (some v) => v
 | _ => .none
section
variable {P : Program} {w : World} {K : PySem.W.Frag} {mg : Str → Option Value} {base : Heap} {γ : Type} {A : γ → List Pd} {pre : γ → Cs → Prop} {out : γ → Cs → Out} {ρ : En} {C C1 C2 : Cs} {ta : TA} {E : XK} {M0 : Hp} {D : Ends} {p : Pd} {c : Cell} {cls : Value} {fo : Option (Str × Pd)}
def Wx (K : PySem.W.Frag) (M0 : Hp) (W : WX) (ρ : En) (cls : Value) (fo : Option (Str × Pd)) (C : Cs) : Prop := ∀ (d : Option Addr) (σ : L2.St) (H M : Hp), Same M0 M → EnvOk M ρ σ → Ok K M C H → XdOk M fo d → W cls d σ H
end
structure ExcK (K : PySem.W.Frag) (D : Addr) : Prop where
 hc : (PySem.W.clsIn K D).isSome = true
 hg : PySem.W.findIn K (.ref D) "__getattribute__" = some (some (.builtin "BaseException.__getattribute__"))
 hk : PySem.W.findIn K (.ref D) "__getattr__" = some none
 hs : PySem.W.subIn K (.ref D) (.type "BaseException") = some true
 ha : PySem.W.findIn K (.ref D) "__class__" = some (some (.builtin "object.__class__"))
 hn : PySem.W.specialIn K (.builtin "object.__class__") "__get__" = some (some (.builtin "getset_descriptor.__get__"))
 ht : PySem.W.takesIn K (.builtin "object.__class__") = some true
 hm : PySem.W.mroIn K D (.type "object") = some true
def XdH (H : Hp) (d : Option Addr) : Prop := d = none ∨ ∃ dd fs, d = some dd ∧ H dd = some (.xd fs)
def rIsX (K : PySem.W.Frag) (a : Addr) (cls : Value) (d : Option Addr) : List V → Hp → VK → Prop := fun xs H Q => ∃ (c : V) (cv : Value) (b : Bool) (D : Addr), xs = [.ref a, c] ∧ ClsV c cv ∧ cls = .ref D ∧ ExcK K D ∧ XdH H d ∧ PySem.W.kitOne K (.ref D) cv = some b ∧ Q (.bl b) H
theorem inst_x {X : Cx} {a D : Addr} {oe : Obj} {d : Option Addr} {pn pins : List (Addr × Obj)} {σ : L2.St} {H : Hp} {s : Shared} (hz : Zc (.ref D) d oe) (hf : ∃ vs, oe.data = .fields vs) (I : Inv (X.suite a ((a, oe) :: pn)) pins σ H s) (hd : XdH H d) : ∃ od, PySem.W.InstAt s.heap a oe D od := by
 obtain ⟨hget, _⟩ := I.pin (a, oe) (List.mem_append.mpr (.inl List.mem_cons_self))
 obtain ⟨vs, hv⟩ := hf
 rcases hd with rfl | ⟨dd, fs, rfl, hx⟩
 ·refine ⟨none, ?_⟩
  obtain ⟨oc, od, oda, osl⟩ := oe
  obtain ⟨h1, h2⟩ := hz
  dsimp only at h1 h2 hv
  subst h1 h2 hv
  exact ⟨hget, rfl, rfl, trivial⟩
 ·have hx : ObjOk X.prog X.w H s.heap dd (.xd fs) := I.hok dd _ hx
  obtain ⟨mA, hns, hr⟩ := hx
  obtain ⟨od, ho, hl⟩ := lookIn_ns hns
  exact ⟨some od, hget, hz.1, by unfold PySem.W.notCls; rw [hv] <;> rfl, by rw [hz.2]; exact ho⟩
theorem call_isX {X : Cx} {a : Addr} {oe : Obj} {cls : Value} {d : Option Addr} {pn : List (Addr × Obj)} (hz : Zc cls d oe) (hf : ∃ vs, oe.data = .fields vs) : CallR (X.suite a ((a, oe) :: pn)) (.builtin "isinstance") (rIsX X.K a cls d) := by
 intro pins s σ H xs us Q I r h
 obtain ⟨c, cv, b, D, rfl, hcv, rfl, ek, hd, e, q⟩ := h
 cases r with
 | cons rx rr =>
  cases rr with
  | cons rt rr =>
   cases rr
   cases rx
   have ec := hcv.eq rt
   subst ec
   obtain ⟨od, J⟩ := inst_x hz hf I hd
   exact PySem.W.kia_one (PySem.W.kitx_exc ek.hc ek.hg ek.hk ek.hs ek.ha ek.hn ek.ht ek.hm) I.kIn J e (fun z => nomatch z) fun tk => ⟨.bl b, H, I.kept (t' := tk) fun _ _ z => z, rfl, q⟩
theorem passX0 {X : Cx} : Passes (L2.CX X.prog X.w) X E0 := fun _ _ _ _ _ _ _ h => by
 obtain ⟨_, _, _, _, _, _, _, _, _, _, _, _, z⟩ := h
 exact z.elim
structure ClsX (K : PySem.W.Frag) (mg : Str → Option Value) (x : Str) (C : Addr) : Prop where
 g : mg x = some (.ref C)
 o : clsOf K x = .ref C
 kp : PySem.W.keepIn K (.ref C) = true
 ty : PySem.W.typeIn K (.ref C) = some (.type "type")
 ic : PySem.W.isClsIn K C = true
 ex : ExcK K C
theorem ClsX.raises {X : Cx} {x : Str} {C : Addr} (h : ClsX X.K X.mg x C) : Raises X (.ref C) := raises_own h.ex.hs h.ty
theorem clsOf_eq {K : PySem.W.Frag} {x : Str} {C : Addr} (h : PySem.W.nsIn K mainGlobals x = some (some (.ref C))) : clsOf K x = .ref C := by unfold clsOf; rw [h]
theorem exm_own {K : PySem.W.Frag} {R S : Addr} (h1 : PySem.W.subIn K (.ref S) (.type "BaseException") = some true) (h2 : PySem.W.isClsIn K S = true) (h3 : PySem.W.typeIn K (.ref S) = some (.type "type")) (h4 : PySem.W.subIn K (.ref R) (.ref S) = some true) :
  PySem.W.exmOne K (.ref R) (.ref S) = some true := by
 have e1 : (PySem.W.subIn K (.ref S) (.type "BaseException") == some true) = true := by rw [h1] <;> rfl
 have e2 : ((PySem.W.clsIn K S).isSome && PySem.W.typeIn K (.ref S) == some (.type "type")) = true := by
  have h2' : (PySem.W.clsIn K S).isSome = true := h2
  rw [h2', h3] <;> rfl
 show (if (PySem.W.subIn K (.ref S) (.type "BaseException") == some true) = true then (if ((PySem.W.clsIn K S).isSome && PySem.W.typeIn K (.ref S) == some (.type "type")) = true then PySem.W.subIn K (.ref R) (.ref S) else none) else none) = some true
 rw [if_pos e1, if_pos e2]
 exact h4
theorem XdOk.h {K : PySem.W.Frag} {M H : Hp} {C : Cs} (k : Ok K M C H) : ∀ {fo : Option (Str × Pd)} {d : Option Addr}, XdOk M fo d → XdH H d
 | none, none, _ => .inl rfl
 | some _, some dd, ⟨v, h1, _⟩ => .inr ⟨dd, _, rfl, k.fz _ _ h1⟩
 | none, some _, h => False.elim h
 | some _, none, h => False.elim h
end Fz
namespace Vm
open PySem PySem.Spec PyProof.Rows L2 Fz
abbrev D := PyData
def kD : Key → D
 | .inl i => .int i
 | .inr x => .str x
def cst : List D → Bool
 | [.int 0, .int 0, .int 0, .int 0] => true
 | [.int 8, .int 12, .int 16] => true
 | _ => false
mutual
inductive Rp (K : PySem.W.Frag) (M : Hp) : V → D → Prop
 | non : Rp K M .non .none
 | bl (b : Bool) : Rp K M (.bl b) (.bool b)
 | int (i : Int) : Rp K M (.int i) (.int i)
 | str (x : Str) : Rp K M (.str x) (.str x)
 | lst {a : Addr} {xs : List V} {ds : List D} : M a = some (.lst xs) → Rps K M xs ds → Rp K M (.ref a) (.list ds)
 | tup {a : Addr} {xs : List V} {ds : List D} : M a = some (.tup xs) → Rps K M xs ds → Rp K M (.ref a) (.tuple ds)
 | tupK {a : Addr} {xs : List V} {ds : List D} : (∀ H, SqT K H a xs) → cst ds = true → Rps K M xs ds → Rp K M (.ref a) (.tuple ds)
 | dic {a : Addr} {kvs : List (Key × V)} {kds : List (D × D)} : Rd M a (.dK kvs) → kvs.map (fun p => kD p.1) = kds.map (·.1) → Rps K M (kvs.map (·.2)) (kds.map (·.2)) → Rp K M (.ref a) (.dict kds)
 | diT {a : Addr} {kvs : List (List Key × V)} {kds : List (D × D)} : Rd M a (.dT kvs) → kvs.map (fun p => PyData.tuple (p.1.map kD)) = kds.map (·.1) → Rps K M (kvs.map (·.2)) (kds.map (·.2)) → Rp K M (.ref a) (.dict kds)
 | tupN {a : Addr} {o : Obj} {xs : List V} {ds : List D} : M a = some (.frz o (.tup xs)) → o.cls = .type "tuple" ∧ o.dict = none → Rps K M xs ds → Rp K M (.ref a) (.dict [(.list [], .list ds)])
inductive Rps (K : PySem.W.Frag) (M : Hp) : List V → List D → Prop
 | nil : Rps K M [] []
 | cons {v : V} {d : D} {vs : List V} {ds : List D} : Rp K M v d → Rps K M vs ds → Rps K M (v :: vs) (d :: ds)
end
structure Lq (K : PySem.W.Frag) (M M' : Hp) : Prop where
 l : ∀ a xs, M a = some (.lst xs) → M' a = some (.lst xs)
 t : ∀ a xs, M a = some (.tup xs) → M' a = some (.tup xs)
 k : ∀ a kvs, Rd M a (.dK kvs) → Rd M' a (.dK kvs)
 e : ∀ a kvs, Rd M a (.dT kvs) → Rd M' a (.dT kvs)
 n : ∀ a o xs, M a = some (.frz o (.tup xs)) → M' a = some (.frz o (.tup xs))
theorem rd_mono {M M' : Hp} (s : Same M M') {a : Addr} {u : HO} (h : Rd M a u) : Rd M' a u := by
 rcases h with h | ⟨o, h⟩
 ·exact .inl (s _ _ h)
 ·exact .inr ⟨o, s _ _ h⟩
theorem Lq.of {K : PySem.W.Frag} {M M' : Hp} (s : Same M M') : Lq K M M' := ⟨fun _ _ h => s _ _ h, fun _ _ h => s _ _ h, fun _ _ h => rd_mono s h, fun _ _ h => rd_mono s h, fun _ _ _ h => s _ _ h⟩
section
variable {K : PySem.W.Frag} {M M' H : Hp}
mutual
theorem Rp.lq (s : Lq K M M') : ∀ {v : V} {d : D}, Rp K M v d → Rp K M' v d
 | _, _, .non => .non
 | _, _, .bl b => .bl b
 | _, _, .int i => .int i
 | _, _, .str x => .str x
 | _, _, .lst h t => .lst (s.l _ _ h) (Rps.lq s t)
 | _, _, .tup h t => .tup (s.t _ _ h) (Rps.lq s t)
 | _, _, .tupK h c t => .tupK h c (Rps.lq s t)
 | _, _, .dic h e t => .dic (s.k _ _ h) e (Rps.lq s t)
 | _, _, .diT h e t => .diT (s.e _ _ h) e (Rps.lq s t)
 | _, _, .tupN h c t => .tupN (s.n _ _ _ h) c (Rps.lq s t)
theorem Rps.lq (s : Lq K M M') : ∀ {vs : List V} {ds : List D}, Rps K M vs ds → Rps K M' vs ds
 | _, _, .nil => .nil
 | _, _, .cons h t => .cons (Rp.lq s h) (Rps.lq s t)
end
theorem Rp.mono (s : Same M M') {v : V} {d : D} (h : Rp K M v d) : Rp K M' v d := h.lq (.of s)
theorem Rps.mono (s : Same M M') {v : List V} {d : List D} (h : Rps K M v d) : Rps K M' v d := h.lq (.of s)
theorem Rps.length : ∀ {vs : List V} {ds : List D}, Rps K M vs ds → vs.length = ds.length
 | _, _, .nil => rfl
 | _, _, .cons _ t => by rw [List.length_cons, List.length_cons, t.length]
theorem Rps.get : ∀ {vs : List V} {ds : List D} {i : Nat} {d : D}, Rps K M vs ds → ds[i]? = some d → ∃ v, vs[i]? = some v ∧ Rp K M v d
 | _, _, i, _, .nil, e => by simp at e
 | _, _, 0, _, .cons h _, e => by simp at e; subst e; exact ⟨_, rfl, h⟩
 | _, _, i + 1, d, .cons _ t, e => Rps.get (i := i) t e
theorem Rps.append : ∀ {vs ws : List V} {ds es : List D}, Rps K M vs ds → Rps K M ws es → Rps K M (vs ++ ws) (ds ++ es)
 | _, _, _, _, .nil, h => h
 | _, _, _, _, .cons a t, h => .cons a (Rps.append t h)
theorem Rps.take : ∀ {vs : List V} {ds : List D} (n : Nat), Rps K M vs ds → Rps K M (vs.take n) (ds.take n)
 | _, _, 0, _ => by rw [List.take_zero, List.take_zero]; exact .nil
 | _, _, _ + 1, .nil => .nil
 | _, _, n + 1, .cons a t => .cons a (Rps.take n t)
theorem Rps.drop : ∀ {vs : List V} {ds : List D} (n : Nat), Rps K M vs ds → Rps K M (vs.drop n) (ds.drop n)
 | _, _, 0, h => h
 | _, _, _ + 1, .nil => .nil
 | _, _, n + 1, .cons _ t => Rps.drop n t
theorem Rps.set {v : V} {d : D} (hv : Rp K M v d) : ∀ {vs : List V} {ds : List D} (n : Nat), Rps K M vs ds → Rps K M (vs.set n v) (ds.set n d)
 | _, _, _, .nil => .nil
 | _, _, 0, .cons _ t => .cons hv t
 | _, _, n + 1, .cons a t => .cons a (Rps.set hv n t)
theorem Rps.erase : ∀ {vs : List V} {ds : List D} (n : Nat), Rps K M vs ds → Rps K M (vs.eraseIdx n) (ds.eraseIdx n)
 | _, _, _, .nil => .nil
 | _, _, 0, .cons _ t => t
 | _, _, n + 1, .cons a t => .cons a (Rps.erase n t)
theorem Rps.reverse : ∀ {vs : List V} {ds : List D}, Rps K M vs ds → Rps K M vs.reverse ds.reverse
 | _, _, .nil => .nil
 | _, _, .cons a t => by rw [List.reverse_cons, List.reverse_cons]; exact Rps.append (Rps.reverse t) (.cons a .nil)
theorem Rps.strs : ∀ (ns : List Str), Rps K M (ns.map V.str) (ns.map PyData.str)
 | [] => .nil
 | n :: ns => .cons (.str n) (Rps.strs ns)
end
inductive R1 (K : PySem.W.Frag) (H M : Hp) : V → D → Prop
 | non : R1 K H M .non .none
 | bl (b : Bool) : R1 K H M (.bl b) (.bool b)
 | int (i : Int) : R1 K H M (.int i) (.int i)
 | str (x : Str) : R1 K H M (.str x) (.str x)
 | lst {a : Addr} {xs : List V} {ds : List D} : H a = some (.lst xs) → Rps K M xs ds → R1 K H M (.ref a) (.list ds)
 | tup {a : Addr} {xs : List V} {ds : List D} : M a = some (.tup xs) → Rps K M xs ds → R1 K H M (.ref a) (.tuple ds)
 | tupK {a : Addr} {xs : List V} {ds : List D} : (∀ H, SqT K H a xs) → cst ds = true → Rps K M xs ds → R1 K H M (.ref a) (.tuple ds)
 | dic {a : Addr} {kvs : List (Key × V)} {kds : List (D × D)} : Rd H a (.dK kvs) → kvs.map (fun p => kD p.1) = kds.map (·.1) → Rps K M (kvs.map (·.2)) (kds.map (·.2)) → R1 K H M (.ref a) (.dict kds)
 | diT {a : Addr} {kvs : List (List Key × V)} {kds : List (D × D)} : Rd H a (.dT kvs) → kvs.map (fun p => PyData.tuple (p.1.map kD)) = kds.map (·.1) → Rps K M (kvs.map (·.2)) (kds.map (·.2)) → R1 K H M (.ref a) (.dict kds)
 | tupN {a : Addr} {o : Obj} {xs : List V} {ds : List D} : M a = some (.frz o (.tup xs)) → o.cls = .type "tuple" ∧ o.dict = none → Rps K M xs ds → R1 K H M (.ref a) (.dict [(.list [], .list ds)])
section
variable {K : PySem.W.Frag} {M M' H H' : Hp} {v : V} {d : D}
theorem Rp.r1 (s : Same M H) (h : Rp K M v d) : R1 K H M v d := by
 cases h with
 | non => exact .non
 | bl b => exact .bl b
 | int i => exact .int i
 | str x => exact .str x
 | lst h t => exact .lst (s _ _ h) t
 | tup h t => exact .tup h t
 | tupK h c t => exact .tupK h c t
 | dic h e t => exact .dic (rd_mono s h) e t
 | diT h e t => exact .diT (rd_mono s h) e t
 | tupN h c t => exact .tupN h c t
theorem R1.mono (s : Same H H') (s' : Same M M') (h : R1 K H M v d) : R1 K H' M' v d := by
 cases h with
 | non => exact .non
 | bl b => exact .bl b
 | int i => exact .int i
 | str x => exact .str x
 | lst h t => exact .lst (s _ _ h) (t.mono s')
 | tup h t => exact .tup (s' _ _ h) (t.mono s')
 | tupK h c t => exact .tupK h c (t.mono s')
 | dic h e t => exact .dic (rd_mono s h) e (t.mono s')
 | diT h e t => exact .diT (rd_mono s h) e (t.mono s')
 | tupN h c t => exact .tupN (s' _ _ h) c (t.mono s')
theorem R1.lq (s : Lq K H H') (s' : Lq K M M') (h : R1 K H M v d) : R1 K H' M' v d := by
 cases h with
 | non => exact .non
 | bl b => exact .bl b
 | int i => exact .int i
 | str x => exact .str x
 | lst h t => exact .lst (s.l _ _ h) (t.lq s')
 | tup h t => exact .tup (s'.t _ _ h) (t.lq s')
 | tupK h c t => exact .tupK h c (t.lq s')
 | dic h e t => exact .dic (s.k _ _ h) e (t.lq s')
 | diT h e t => exact .diT (s.e _ _ h) e (t.lq s')
 | tupN h c t => exact .tupN (s'.n _ _ _ h) c (t.lq s')
theorem R1.all (s : Same M H) (h : R1 K H M v d) : Rp K H v d := by
 cases h with
 | non => exact .non
 | bl b => exact .bl b
 | int i => exact .int i
 | str x => exact .str x
 | lst h t => exact .lst h (t.mono s)
 | tup h t => exact .tup (s _ _ h) (t.mono s)
 | tupK h c t => exact .tupK h c (t.mono s)
 | dic h e t => exact .dic h e (t.mono s)
 | diT h e t => exact .diT h e (t.mono s)
 | tupN h c t => exact .tupN (s _ _ h) c (t.mono s)
end
def mkC (d : D) : D := .dict [(.none, d)]
def isMk : D → Bool
 | .dict [(.none, _)] => true
 | _ => false
mutual
inductive TrC (K : PySem.W.Frag) (M H : Hp) : V → D → List Addr → Prop
 | fz {v : V} {d : D} : Rp K M v d → isMk d = false → TrC K M H v d []
 | ow {a : Addr} {d : D} {F : List Addr} : TrO K M H a d F → TrC K M H (.ref a) (mkC d) F
inductive TrO (K : PySem.W.Frag) (M H : Hp) : Addr → D → List Addr → Prop
 | lst {a : Addr} {xs : List V} {ds : List D} {F : List Addr} : H a = some (.lst xs) → TrCs K M H xs ds F → TrO K M H a (.list ds) (a :: F)
 | dic {a : Addr} {kvs : List (Key × V)} {kds : List (D × D)} {F : List Addr} : H a = some (.dK kvs) → kvs.map (fun p => kD p.1) = kds.map (·.1) → TrCs K M H (kvs.map (·.2)) (kds.map (·.2)) F → TrO K M H a (.dict kds) (a :: F)
 | tup {a : Addr} {xs : List V} {ds : List D} {F : List Addr} : M a = some (.tup xs) → TrCs K M H xs ds F → TrO K M H a (.tuple ds) F
 | ins {a C dx : Addr} {c : Str} {fs : List (Str × V)} {kds : List (D × D)} {F : List Addr} : H a = some (.ins C dx fs) → H dx = some (.own a) → clsOf K c = .ref C → fs.map (fun p => PyData.str p.1) = kds.map (·.1) → TrCs K M H (fs.map (·.2)) (kds.map (·.2)) F → TrO K M H a (.dict ((.none, .str c) :: (.none, .none) :: kds)) (a :: dx :: F)
inductive TrCs (K : PySem.W.Frag) (M H : Hp) : List V → List D → List Addr → Prop
 | nil : TrCs K M H [] [] []
 | cons {v : V} {d : D} {vs : List V} {ds : List D} {F G : List Addr} : TrC K M H v d F → TrCs K M H vs ds G → TrCs K M H (v :: vs) (d :: ds) (F ++ G)
end
section
variable {K : PySem.W.Frag} {M M' H H' : Hp}
theorem kD_no {k : Key} : kD k ≠ .none := by cases k <;> exact fun h => nomatch h
mutual
theorem TrC.uniq (s : Lq K M M') : ∀ {v : V} {d : D} {F G : List Addr}, TrC K M H v d F → TrC K M' H v d G → F = G
 | _, _, _, _, .fz _ _, .fz _ _ => rfl
 | _, _, _, _, .fz _ h, .ow _ => nomatch h
 | _, _, _, _, .ow _, .fz _ h => nomatch h
 | _, _, _, _, .ow h, .ow g => TrO.uniq s h g
theorem TrO.uniq (s : Lq K M M') : ∀ {a : Addr} {d : D} {F G : List Addr}, TrO K M H a d F → TrO K M' H a d G → F = G
 | _, _, _, _, .lst h t, .lst g u => by rw [h] at g; cases g; rw [TrCs.uniq s t u]
 | _, _, _, _, .dic h e t, .dic g f u => by rw [h] at g; cases g; rw [TrCs.uniq s t u]
 | _, _, _, _, .tup h t, .tup g u => by rw [s.t _ _ h] at g; cases g; rw [TrCs.uniq s t u]
 | _, _, _, _, .ins h h2 h3 e t, .ins g g2 g3 f u => by rw [h] at g; cases g; rw [TrCs.uniq s t u]
 | _, _, _, _, .dic h e t, .ins g g2 g3 f u => by rw [h] at g; cases g
 | _, _, _, _, .ins g g2 g3 f u, .dic h e t => by rw [h] at g; cases g
theorem TrCs.uniq (s : Lq K M M') : ∀ {vs : List V} {ds : List D} {F G : List Addr}, TrCs K M H vs ds F → TrCs K M' H vs ds G → F = G
 | _, _, _, _, .nil, .nil => rfl
 | _, _, _, _, .cons h t, .cons g u => by rw [TrC.uniq s h g, TrCs.uniq s t u]
end
mutual
theorem TrC.lq (s : Lq K M M') : ∀ {v : V} {d : D} {F : List Addr}, TrC K M H v d F → (∀ x ∈ F, ∀ o, H x = some o → H' x = some o) → TrC K M' H' v d F
 | _, _, _, .fz h i, _ => .fz (h.lq s) i
 | _, _, _, .ow h, k => .ow (TrO.lq s h k)
theorem TrO.lq (s : Lq K M M') : ∀ {a : Addr} {d : D} {F : List Addr}, TrO K M H a d F → (∀ x ∈ F, ∀ o, H x = some o → H' x = some o) → TrO K M' H' a d F
 | _, _, _, .lst h t, k => .lst (k _ (List.mem_cons_self) _ h) (TrCs.lq s t fun x hx => k x (List.mem_cons_of_mem _ hx))
 | _, _, _, .dic h e t, k => .dic (k _ (List.mem_cons_self) _ h) e (TrCs.lq s t fun x hx => k x (List.mem_cons_of_mem _ hx))
 | _, _, _, .tup h t, k => .tup (s.t _ _ h) (TrCs.lq s t k)
 | _, _, _, .ins h h2 h3 e t, k => .ins (k _ (List.mem_cons_self) _ h) (k _ (List.mem_cons_of_mem _ List.mem_cons_self) _ h2) h3 e (TrCs.lq s t fun x hx => k x (List.mem_cons_of_mem _ (List.mem_cons_of_mem _ hx)))
theorem TrCs.lq (s : Lq K M M') : ∀ {vs : List V} {ds : List D} {F : List Addr}, TrCs K M H vs ds F → (∀ x ∈ F, ∀ o, H x = some o → H' x = some o) → TrCs K M' H' vs ds F
 | _, _, _, .nil, _ => .nil
 | _, _, _, .cons h t, k => .cons (TrC.lq s h fun x hx => k x (List.mem_append_left _ hx)) (TrCs.lq s t fun x hx => k x (List.mem_append_right _ hx))
end
def TrK : HO → Prop
 | .lst _ => True
 | .dK _ => True
 | .ins _ _ _ => True
 | .own _ => True
 | _ => False
mutual
theorem TrC.cell : ∀ {v : V} {d : D} {F : List Addr}, TrC K M H v d F → ∀ x ∈ F, ∃ o, H x = some o ∧ TrK o
 | _, _, _, .fz _ _, x, h => nomatch h
 | _, _, _, .ow h, x, hx => TrO.cell h x hx
theorem TrO.cell : ∀ {a : Addr} {d : D} {F : List Addr}, TrO K M H a d F → ∀ x ∈ F, ∃ o, H x = some o ∧ TrK o
 | _, _, _, .lst h t, x, hx => by
  rcases List.mem_cons.mp hx with rfl | hx
  ·exact ⟨_, h, trivial⟩
  ·exact TrCs.cell t x hx
 | _, _, _, .dic h e t, x, hx => by
  rcases List.mem_cons.mp hx with rfl | hx
  ·exact ⟨_, h, trivial⟩
  ·exact TrCs.cell t x hx
 | _, _, _, .tup h t, x, hx => TrCs.cell t x hx
 | _, _, _, .ins h h2 h3 e t, x, hx => by
  rcases List.mem_cons.mp hx with rfl | hx
  ·exact ⟨_, h, trivial⟩
  ·rcases List.mem_cons.mp hx with rfl | hx
   ·exact ⟨_, h2, trivial⟩
   ·exact TrCs.cell t x hx
theorem TrCs.cell : ∀ {vs : List V} {ds : List D} {F : List Addr}, TrCs K M H vs ds F → ∀ x ∈ F, ∃ o, H x = some o ∧ TrK o
 | _, _, _, .nil, x, h => nomatch h
 | _, _, _, .cons h t, x, hx => (List.mem_append.mp hx).elim (TrC.cell h x) (TrCs.cell t x)
end
theorem TrK.nt {o : HO} (h : TrK o) : ∀ ps, o ≠ .tbl ps := fun ps e => by subst e; exact h
end
inductive Fg where | f | b | s | e | l | o (u p : Bool) | q (p : Bool)
 deriving DecidableEq
def OwnK : HO → Prop
 | .lst _ => True
 | .dK _ => True
 | .dT _ => True
 | _ => False
theorem OwnK.mut {o : HO} (h : OwnK o) : Mut (some o) := by cases o <;> first | trivial | exact False.elim h
def OwnO (K : PySem.W.Frag) (M : Hp) : Bool → HO → D → Prop
 | false, .lst xs, .list ds => Rps K M xs ds
 | false, .dK kvs, .dict kds => kvs.map (fun p => kD p.1) = kds.map (·.1) ∧ Rps K M (kvs.map (·.2)) (kds.map (·.2))
 | true, .dT kvs, .dict kds => kvs.map (fun p => PyData.tuple (p.1.map kD)) = kds.map (·.1) ∧ Rps K M (kvs.map (·.2)) (kds.map (·.2))
 | _, _, _ => False
section
variable {K : PySem.W.Frag} {M M' H H' : Hp} {v : V} {d : D} {g : Bool} {o : HO}
theorem OwnO.lq (s : Lq K M M') (h : OwnO K M g o d) : OwnO K M' g o d := by
 cases g <;> cases o <;> cases d <;> first
  | exact False.elim h
  | exact Rps.lq s h
  | exact ⟨h.1, h.2.lq s⟩
theorem OwnO.mono (s : Same M M') (h : OwnO K M g o d) : OwnO K M' g o d := h.lq (.of s)
theorem OwnO.kind (h : OwnO K M g o d) : OwnK o := by
 cases g <;> cases o <;> cases d <;> first
  | exact False.elim h
  | exact trivial
theorem OwnO.mut (h : OwnO K M g o d) : Mut (some o) := by
 cases g <;> cases o <;> cases d <;> first
  | exact False.elim h
  | exact trivial
theorem OwnO.r1 {a : Addr} (ha : H a = some o) (h : OwnO K M g o d) : R1 K H M (.ref a) d := by
 cases g <;> cases o <;> cases d <;> first
  | exact False.elim h
  | exact .lst ha h
  | exact .dic (.inl ha) h.1 h.2
  | exact .diT (.inl ha) h.1 h.2
theorem OwnO.rp {a : Addr} (s : Same M M') (ha : M' a = some o) (h : OwnO K M g o d) : Rp K M' (.ref a) d := by
 cases g <;> cases o <;> cases d <;> first
  | exact False.elim h
  | exact .lst ha (Rps.mono s h)
  | exact .dic (.inl ha) h.1 (h.2.mono s)
  | exact .diT (.inl ha) h.1 (h.2.mono s)
end
def ownF : Fg → Bool | .o _ _ => true | _ => false
def SF (K : PySem.W.Frag) (M H : Hp) : Fg → Addr → D → List Addr → Prop
 | .o _ _, a, _, F => F = [a]
 | .q _, a, d, F => TrO K M H a d F
 | _, _, _, _ => False
abbrev Env := List (Option (Fg × D))
structure Bx where
 b : Hp
 p : Nat → Option Addr
 x : Nat → Option (Addr × Value × Option Addr)
 t : List (Addr × Str)
def Bx.at (B : Bx) (T : List (Addr × Str)) : Bx := ⟨B.b, B.p, B.x, T⟩
def TbOk (T : List (Addr × Str)) (W H : Hp) : Prop := (∀ b ps, W b ≠ some (.tbl ps)) ∧ LamX.Tabs T H
def XM (M : Hp) (d : D) (dd : Option Addr) : Prop := match d, dd with
 | .tuple [.str _], none => True
 | .tuple [.str _, .str f, .int n], some q => M q = some (.xd [(f, .int n)])
 | _, _ => False
theorem XM.mono {M M' : Hp} {d : D} {dd : Option Addr} (s : Same M M') (h : XM M d dd) : XM M' d dd := by
 unfold XM at h ⊢
 split at h
 ·trivial
 ·exact s _ _ h
 ·exact False.elim h
def XC (K : PySem.W.Frag) (d : D) (c : Value) : Prop := ∃ n r, d = .tuple (.str n :: r) ∧ clsOf K n = c
def LkOk (K : PySem.W.Frag) (Bb M : Hp) (v : V) (d : D) : Prop := ∃ (a : Addr) (ob : Obj) (kds : List (D × D)), v = .ref a ∧ d = .dict kds ∧
 ((∃ kvs : List (Key × V), (M a = some (.frz ob (.dK kvs)) ∨ Bb a = some (.frz ob (.dK kvs))) ∧ kvs.map (fun p => kD p.1) = kds.map (·.1) ∧ Rps K M (kvs.map (·.2)) (kds.map (·.2))) ∨
  ∃ kvs : List (List Key × V), (M a = some (.frz ob (.dT kvs)) ∨ Bb a = some (.frz ob (.dT kvs))) ∧ kvs.map (fun p => PyData.tuple (p.1.map kD)) = kds.map (·.1) ∧ Rps K M (kvs.map (·.2)) (kds.map (·.2)))
theorem LkOk.mono {K : PySem.W.Frag} {Bb M M' : Hp} {v : V} {d : D} (s : Same M M') (h : LkOk K Bb M v d) : LkOk K Bb M' v d := by
 obtain ⟨a, ob, kds, rfl, rfl, h⟩ := h
 refine ⟨a, ob, kds, rfl, rfl, ?_⟩
 rcases h with ⟨kvs, h1, h2, h3⟩ | ⟨kvs, h1, h2, h3⟩
 ·exact .inl ⟨kvs, h1.imp (fun h => s _ _ h) id, h2, h3.mono s⟩
 ·exact .inr ⟨kvs, h1.imp (fun h => s _ _ h) id, h2, h3.mono s⟩
theorem LkOk.r1 {K : PySem.W.Frag} {Bb M X : Hp} {v : V} {d : D} (sm : Same M X) (sb : Same Bb X) (h : LkOk K Bb M v d) : R1 K X M v d := by
 obtain ⟨a, ob, kds, rfl, rfl, h⟩ := h
 rcases h with ⟨kvs, h1, h2, h3⟩ | ⟨kvs, h1, h2, h3⟩
 ·exact .dic (.inr ⟨ob, h1.elim (fun h => sm _ _ h) (fun h => sb _ _ h)⟩) h2 h3
 ·exact .diT (.inr ⟨ob, h1.elim (fun h => sm _ _ h) (fun h => sb _ _ h)⟩) h2 h3
def SlOk (K : PySem.W.Frag) (B : Bx) (M W H : Hp) (i : Nat) : Fg → V → D → Prop
 | .f, v, d => Rp K M v d
 | .b, v, d => R1 K B.b M v d
 | .s, v, d => ∃ (a : Addr) (ns : List Int), v = .ref a ∧ SqL K B.b a (ns.map V.int) ∧ d = .list (ns.map PyData.int)
 | .e, v, d => ∃ a c dd, v = .ref a ∧ B.x i = some (a, c, dd) ∧ XC K d c ∧ XM M d dd
 | .l, v, d => (∃ c dd a, v = .ref a ∧ B.x i = some (a, c, dd)) ∧ LkOk K B.b M v d
 | .o u p, v, d => ∃ a o, v = .ref a ∧ H a = some o ∧ OwnO K M u o d ∧ W a = none ∧ (p = true → B.p i = some a)
 | .q p, v, d => ∃ a F, v = .ref a ∧ TrO K M H a d F ∧ F.Nodup ∧ (∀ x ∈ F, W x = none) ∧ (p = true → B.p i = some a)
structure St (K : PySem.W.Frag) (B : Bx) (M W H : Hp) (ρ : Env) (σ : L2.St) : Prop where
 bw : Same B.b W
 mw : Same M W
 wh : Same W H
 ln : ρ.length = σ.length
 sl : ∀ (i : Nat) (g : Fg) (d : D), ρ[i]? = some (some (g, d)) → ∃ v, σ[i]? = some (some v) ∧ SlOk K B M W H i g v d
 sp : ∀ (i j : Nat) (g h : Fg) (d e : D) (a b : Addr) (F G : List Addr), i ≠ j → ρ[i]? = some (some (g, d)) → ρ[j]? = some (some (h, e)) → σ[i]? = some (some (.ref a)) → σ[j]? = some (some (.ref b)) → SF K M H g a d F → SF K M H h b e G → ∀ x ∈ F, x ∉ G
 tb : TbOk B.t W H
inductive Tp where
 | sl (i : Nat)
 | fz (d : D)
 | ow (u : Bool) (d : D)
 | tr (d : D)
def Apart (K : PySem.W.Frag) (M H : Hp) (ρ : Env) (σ : L2.St) (x : Addr) : Prop := ∀ (i : Nat) (g : Fg) (d : D) (a : Addr) (F : List Addr), ρ[i]? = some (some (g, d)) → σ[i]? = some (some (.ref a)) → SF K M H g a d F → x ∉ F
def TpOk (K : PySem.W.Frag) (B : Bx) (M W H : Hp) (ρ : Env) (σ : L2.St) : Tp → V → Prop
 | .sl i, v => σ[i]? = some (some v)
 | .fz d, v => Rp K M v d
 | .ow u d, v => ∃ a o, v = .ref a ∧ H a = some o ∧ OwnO K M u o d ∧ W a = none ∧ Apart K M H ρ σ a
 | .tr d, v => ∃ a F, v = .ref a ∧ TrO K M H a d F ∧ F.Nodup ∧ (∀ x ∈ F, W x = none) ∧ ∀ x ∈ F, Apart K M H ρ σ x
def MutF : HO → Prop
 | .frz _ _ => True
 | .own _ => True
 | o => Mut (some o)
theorem mutF {o : HO} (h : Mut (some o)) : MutF o := by cases o <;> first | trivial | exact h
theorem TrK.mutF {o : HO} (h : TrK o) : MutF o := by cases o <;> first | trivial | exact False.elim h
structure Gr (M W M' W' : Hp) : Prop where
 m : Same M M'
 w : Same W W'
 n : ∀ a o, W a = some o → MutF o → M a = none → M' a = none
theorem Gr.refl (M W : Hp) : Gr M W M W := ⟨Same.refl _, Same.refl _, fun _ _ _ _ h => h⟩
theorem Gr.trans {M W M1 W1 M2 W2 : Hp} (a : Gr M W M1 W1) (b : Gr M1 W1 M2 W2) : Gr M W M2 W2 := ⟨a.m.trans b.m, a.w.trans b.w, fun x o h1 h2 h3 => b.n x o (a.w _ _ h1) h2 (a.n x o h1 h2 h3)⟩
inductive Rz where
 | fz (d : D)
 | ow (u : Bool) (d : D)
 | tr (d : D)
def Rz.tp : Rz → Tp
 | .fz d => .fz d
 | .ow g d => .ow g d
 | .tr d => .tr d
def rdT (ρ : Env) : Tp → Option D
 | .sl i => match ρ[i]? with
  | some (some (.s, _)) => none
  | some (some (.e, _)) => none
  | some (some (.q _, _)) => none
  | some (some (_, d)) => some d
  | _ => none
 | .fz d => some d
 | .ow _ d => some d
 | .tr _ => none
section
variable {K : PySem.W.Frag} {B : Bx} {M W H M' W' H' : Hp} {ρ ρ' : Env} {σ σ' : L2.St} {v : V} {d : D} {g : Fg} {u : Bool} {o : HO} {a : Addr} {tp : Tp} {i : Nat}
theorem St.ne (s : St K B M W H ρ σ) (i j : Nat) (g h : Fg) (d e : D) (a : Addr) (hg : ownF g = true) (hh : ownF h = true) (e1 : ρ[i]? = some (some (g, d))) (e2 : ρ[j]? = some (some (h, e))) (q1 : σ[i]? = some (some (.ref a))) (q2 : σ[j]? = some (some (.ref a))) : i = j := by
 by_cases hij : i = j
 ·exact hij
 ·have f1 : SF K M H g a d [a] := by cases g <;> first | exact rfl | exact absurd hg Bool.false_ne_true
  have f2 : SF K M H h a e [a] := by cases h <;> first | exact rfl | exact absurd hh Bool.false_ne_true
  exact absurd (List.mem_singleton.mpr rfl) (s.sp i j g h d e a a [a] [a] hij e1 e2 q1 q2 f1 f2 a (List.mem_singleton.mpr rfl))
theorem Apart.ow (ap : Apart K M H ρ σ a) (i : Nat) (g : Fg) (d : D) (hg : ownF g = true) (e : ρ[i]? = some (some (g, d))) : σ[i]? ≠ some (some (.ref a)) := fun z => by
 have f1 : SF K M H g a d [a] := by cases g <;> first | exact rfl | exact absurd hg Bool.false_ne_true
 exact ap i g d a [a] e z f1 (List.mem_singleton.mpr rfl)
theorem SlOk.own (hg : ownF g = true) (h : SlOk K B M W H i g v d) : ∃ a o u, v = .ref a ∧ H a = some o ∧ OwnO K M u o d ∧ W a = none := by
 cases g with
 | f => exact absurd hg Bool.false_ne_true
 | b => exact absurd hg Bool.false_ne_true
 | s => exact absurd hg Bool.false_ne_true
 | e => exact absurd hg Bool.false_ne_true
 | l => exact absurd hg Bool.false_ne_true
 | o u p => obtain ⟨a, o, h1, h2, h3, h4, _⟩ := h; exact ⟨a, o, u, h1, h2, h3, h4⟩
 | q p => exact absurd hg Bool.false_ne_true
theorem St.cells (s : St K B M W H ρ σ) {F : List Addr} (e : ρ[i]? = some (some (g, d))) (hσ : σ[i]? = some (some (.ref a))) (h : SF K M H g a d F) : ∀ x ∈ F, W x = none ∧ ∃ o, H x = some o ∧ MutF o := by
 obtain ⟨v, h1, h2⟩ := s.sl i g d e
 rw [hσ] at h1; cases h1
 cases g with
 | o u p =>
  cases h
  obtain ⟨a', o, e1, p1, p2, p3, _⟩ := h2
  cases e1
  intro x hx
  rw [List.mem_singleton] at hx; subst hx
  exact ⟨p3, o, p1, mutF p2.mut⟩
 | q p =>
  obtain ⟨a', F', e1, p1, p2, p3, _⟩ := h2
  cases e1
  have := p1.uniq (.of (Same.refl _)) h
  subst this
  intro x hx
  obtain ⟨o, q1, q2⟩ := p1.cell x hx
  exact ⟨p3 x hx, o, q1, q2.mutF⟩
 | _ => exact False.elim h
theorem St.sfBack (s : St K B M W H ρ σ) {F : List Addr} (hm : Lq K M M') (e : ρ[i]? = some (some (g, d))) (hσ : σ[i]? = some (some (.ref a))) (hk : ∀ F0, SF K M H g a d F0 → ∀ x ∈ F0, ∀ o, H x = some o → H' x = some o) (h : SF K M' H' g a d F) : SF K M H g a d F := by
 cases g with
 | o u p => exact h
 | q p =>
  obtain ⟨v, h1, h2⟩ := s.sl i _ d e
  rw [hσ] at h1; cases h1
  obtain ⟨a', F', e1, p1, p2, p3, _⟩ := h2
  cases e1
  have := (TrO.lq hm p1 (hk F' p1)).uniq (.of (Same.refl _)) h
  subst this
  exact p1
 | _ => exact False.elim h
theorem Apart.up {x : Addr} (s : St K B M W H ρ σ) (hm : Lq K M M') (hk : ∀ (i : Nat) (g : Fg) (d : D) (a : Addr) (F : List Addr), ρ[i]? = some (some (g, d)) → σ[i]? = some (some (.ref a)) → SF K M H g a d F → ∀ y ∈ F, ∀ o, H y = some o → H' y = some o) (ap : Apart K M H ρ σ x) : Apart K M' H' ρ σ x := fun i g d a F e hσ h =>
 ap i g d a F e hσ (s.sfBack hm e hσ (fun F0 h0 => hk i g d a F0 e hσ h0) h)
theorem Apart.upN {x : Addr} (s : St K B M W H ρ σ) (hm : Lq K M M') (hh : ∀ y o, W y = none → H y = some o → H' y = some o) (ap : Apart K M H ρ σ x) : Apart K M' H' ρ σ x :=
 ap.up s hm fun i g d a F e hσ h y hy o ho => hh y o (s.cells e hσ h y hy).1 ho
theorem Apart.frz {x : Addr} (s : St K B M W H ρ σ) (hm : Lq K M M') (ap : Apart K M H ρ σ x) : Apart K M' H ρ σ x := ap.upN s hm fun _ _ _ h => h
theorem St.mh (s : St K B M W H ρ σ) : Same M H := s.mw.trans s.wh
theorem SlOk.r1 (s : St K B M W H ρ σ) (hs : g ≠ .s) (he : g ≠ .e) (hq : ∀ p, g ≠ .q p) (h : SlOk K B M W H i g v d) : R1 K H M v d := by
 cases g with
 | s => exact absurd rfl hs
 | e => exact absurd rfl he
 | l => exact h.2.r1 s.mh (s.bw.trans s.wh)
 | f => exact Rp.r1 s.mh h
 | b => exact R1.mono (s.bw.trans s.wh) (Same.refl _) h
 | o u p => obtain ⟨a, o, rfl, h1, h2, _⟩ := h; exact h2.r1 h1
 | q p => exact absurd rfl (hq p)
theorem TpOk.r1 (s : St K B M W H ρ σ) (h : TpOk K B M W H ρ σ tp v) (e : rdT ρ tp = some d) : R1 K H M v d := by
 cases tp with
 | sl i =>
  have h1 : σ[i]? = some (some v) := h
  dsimp only [rdT] at e
  split at e
  ·exact nomatch e
  ·exact nomatch e
  ·exact nomatch e
  ·rename_i g d' hs he hq h2
   cases e
   obtain ⟨v', q1, q2⟩ := s.sl i g d h2
   rw [h1] at q1; cases q1
   exact q2.r1 s (fun z => by subst z; exact hs rfl) (fun z => by subst z; exact he rfl) (fun p z => by subst z; exact hq p rfl)
  ·exact nomatch e
 | fz d' => cases e; exact Rp.r1 s.mh h
 | ow g d' => cases e; obtain ⟨a, o, rfl, h1, h2, _⟩ := h; exact h2.r1 h1
 | tr d' => exact nomatch e
theorem SlOk.up (gr : Gr M W M' W') (h : SlOk K B M W H i g v d) (hh : ∀ a o, W a = none → H a = some o → H' a = some o ∧ W' a = none) : SlOk K B M' W' H' i g v d := by
 cases g with
 | f => exact Rp.mono gr.m h
 | b => exact R1.mono (Same.refl _) gr.m h
 | s => exact h
 | e => first | exact h | (obtain ⟨_, _, _, e1, e2, e0, e3⟩ := h; exact ⟨_, _, _, e1, e2, e0, e3.mono gr.m⟩)
 | l => first | exact h | exact ⟨h.1, h.2.mono gr.m⟩
 | o u p => obtain ⟨a, o, rfl, h1, h2, h3, h4⟩ := h; exact ⟨a, o, rfl, (hh a o h3 h1).1, h2.mono gr.m, (hh a o h3 h1).2, h4⟩
 | q p =>
  obtain ⟨a, F, rfl, h1, h2, h3, h4⟩ := h
  exact ⟨a, F, rfl, h1.lq (.of gr.m) fun x hx o e => (hh x o (h3 x hx) e).1, h2, fun x hx => by obtain ⟨o, q1, _⟩ := h1.cell x hx; exact (hh x o (h3 x hx) q1).2, h4⟩
def NoTb (W : Hp) : Prop := ∀ b ps, W b ≠ some (.tbl ps)
theorem NoTb.upd {W : Hp} (h : NoTb W) (ho : ∀ ps, o ≠ .tbl ps) : NoTb (upd W a o) := fun b ps e => by
 by_cases hb : b = a
 ·rw [hb, upd_same] at e; cases e; exact ho _ rfl
 ·rw [upd_ne hb] at e; exact h _ _ e
theorem OwnK.nt {o : HO} (h : OwnK o) : ∀ ps, o ≠ .tbl ps := fun ps e => by subst e; exact h
theorem TbOk.up {T : List (Addr × Str)} (h : TbOk T W H) (wh : Same W H) (ww : Same W W') (wh' : Same W' H') (nt : NoTb W') (hh : ∀ a o, W a = none → H a = some o → H' a = some o ∧ W' a = none) : TbOk T W' H' := ⟨nt, fun p hp => by
 obtain ⟨ps, h2, h3, h4⟩ := h.2 p hp
 have h1 : W p.1 = none := by
  cases q : W p.1 with
  | none => rfl
  | some o => have e := wh _ _ q; rw [h2] at e; cases e; exact absurd q (h.1 _ _)
 refine ⟨ps, (hh _ _ h1 h2).1, h3, fun pos cv hc => ?_⟩
 obtain ⟨c, e1, e2⟩ := h4 pos cv hc
 refine ⟨c, e1, ?_⟩
 cases q : W c with
 | none => exact (hh _ _ q e2).1
 | some o =>
  have e3 := wh _ _ q
  rw [e2] at e3; cases e3
  exact wh' _ _ (ww _ _ q)⟩
theorem TbOk.turn {T : List (Addr × Str)} {o' : HO} (h : TbOk T W H) (ha : H a = some o) (hm : OwnK o) : TbOk T W (upd H a o') := ⟨h.1, fun p hp => by
 obtain ⟨ps, h2, h3, h4⟩ := h.2 p hp
 have hn : p.1 ≠ a := fun e => by rw [e, ha] at h2; cases h2; exact hm
 refine ⟨ps, by rw [upd_ne hn]; exact h2, h3, fun pos cv hc => ?_⟩
 obtain ⟨c, e1, e2⟩ := h4 pos cv hc
 refine ⟨c, e1, ?_⟩
 have : c ≠ a := fun e => by rw [e, ha] at e2; cases e2; exact hm
 rw [upd_ne this]; exact e2⟩
theorem TbOk.frz {T : List (Addr × Str)} {o' : HO} (h : TbOk T W H) (hn : ∀ ps, o' ≠ .tbl ps) : TbOk T (upd W a o') H := ⟨NoTb.upd h.1 hn, h.2⟩
theorem St.spUp (s : St K B M W H ρ σ) (hm : Lq K M M') (hk : ∀ (i : Nat) (g : Fg) (d : D) (a : Addr) (F : List Addr), ρ[i]? = some (some (g, d)) → σ[i]? = some (some (.ref a)) → SF K M H g a d F → ∀ y ∈ F, ∀ o, H y = some o → H' y = some o) :
  ∀ (i j : Nat) (g h : Fg) (d e : D) (a b : Addr) (F G : List Addr), i ≠ j → ρ[i]? = some (some (g, d)) → ρ[j]? = some (some (h, e)) → σ[i]? = some (some (.ref a)) → σ[j]? = some (some (.ref b)) → SF K M' H' g a d F → SF K M' H' h b e G → ∀ x ∈ F, x ∉ G :=
 fun i j g h d e a b F G hij e1 e2 q1 q2 f1 f2 => s.sp i j g h d e a b F G hij e1 e2 q1 q2 (s.sfBack hm e1 q1 (fun F0 h0 => hk i g d a F0 e1 q1 h0) f1) (s.sfBack hm e2 q2 (fun F0 h0 => hk j h e b F0 e2 q2 h0) f2)
theorem St.spUpN (s : St K B M W H ρ σ) (hm : Lq K M M') (hh : ∀ y o, W y = none → H y = some o → H' y = some o) :
  ∀ (i j : Nat) (g h : Fg) (d e : D) (a b : Addr) (F G : List Addr), i ≠ j → ρ[i]? = some (some (g, d)) → ρ[j]? = some (some (h, e)) → σ[i]? = some (some (.ref a)) → σ[j]? = some (some (.ref b)) → SF K M' H' g a d F → SF K M' H' h b e G → ∀ x ∈ F, x ∉ G :=
 s.spUp hm fun i g d a F e hσ h y hy o ho => hh y o (s.cells e hσ h y hy).1 ho
theorem St.up (s : St K B M W H ρ σ) (gr : Gr M W M' W') (mw : Same M' W') (wh : Same W' H') (nt : NoTb W') (hh : ∀ a o, W a = none → H a = some o → H' a = some o ∧ W' a = none) : St K B M' W' H' ρ σ :=
 ⟨s.bw.trans gr.w, mw, wh, s.ln, fun i g d e => by obtain ⟨v, h1, h2⟩ := s.sl i g d e; exact ⟨v, h1, h2.up gr hh⟩, s.spUpN (.of gr.m) fun y o h1 h2 => (hh y o h1 h2).1, s.tb.up s.wh gr.w wh nt hh⟩
theorem St.free (s : St K B M W H ρ σ) (h : H a = none) : W a = none ∧ M a = none ∧ B.b a = none ∧ Apart K M H ρ σ a := by
 have h1 := s.wh.free h
 refine ⟨h1, s.mw.free h1, s.bw.free h1, fun i g d b F e z f m => ?_⟩
 obtain ⟨_, o, q, _⟩ := s.cells e z f a m
 rw [h] at q; cases q
theorem same_upd {M : Hp} {p : Addr} {o : HO} (h : M p = none) : Same M (upd M p o) := fun b u e => by rw [upd_ne (ne_of_none e h)]; exact e
theorem same_upd2 {M W : Hp} {p : Addr} {o : HO} (h : Same M W) : Same (upd M p o) (upd W p o) := fun b u e => by
 by_cases hb : b = p
 ·subst hb; rw [upd_same] at e ⊢; exact e
 ·rw [upd_ne hb] at e ⊢; exact h _ _ e
theorem St.newF (s : St K B M W H ρ σ) (h : H a = none) (ho : ∀ ps, o ≠ .tbl ps) : Gr M W (upd M a o) (upd W a o) ∧ St K B (upd M a o) (upd W a o) (upd H a o) ρ σ := by
 obtain ⟨hW, hM, hB, ap⟩ := s.free h
 have gr : Gr M W (upd M a o) (upd W a o) := ⟨same_upd hM, same_upd hW, fun b o h1 _ h2 => by
  have : b ≠ a := ne_of_none h1 hW
  rw [upd_ne this]; exact h2⟩
 refine ⟨gr, s.up gr (same_upd2 s.mw) (same_upd2 s.wh) (NoTb.upd s.tb.1 ho) fun b u h1 h2 => ?_⟩
 have : b ≠ a := ne_of_none h2 h
 exact ⟨by rw [upd_ne this]; exact h2, by rw [upd_ne this]; exact h1⟩
theorem St.newO (s : St K B M W H ρ σ) (h : H a = none) (ho : OwnO K M u o d) : St K B M W (upd H a o) ρ σ ∧ TpOk K B M W (upd H a o) ρ σ (.ow u d) (.ref a) := by
 obtain ⟨hW, hM, hB, ap⟩ := s.free h
 refine ⟨s.up (Gr.refl _ _) s.mw (s.wh.trans (same_upd h)) s.tb.1 fun b u h1 h2 => ?_, ⟨a, o, rfl, upd_same, ho, hW, ap.upN s (.of (Same.refl _)) fun y o' _ e => by rw [upd_ne (ne_of_none e h)]; exact e⟩⟩
 have : b ≠ a := ne_of_none h2 h
 exact ⟨by rw [upd_ne this]; exact h2, h1⟩
theorem St.turn {o' : HO} (s : St K B M W H ρ σ) (h : H a = some o) (hm : OwnK o) (hW : W a = none) (ap : Apart K M H ρ σ a) : St K B M W (upd H a o') ρ σ := by
 refine ⟨s.bw, s.mw, fun b u e => ?_, s.ln, fun i g d e => ?_, s.spUp (.of (Same.refl _)) (fun i g d b F e hσ f y hy o' ho => by rw [upd_ne (fun z : y = a => ap i g d b F e hσ f (by rw [← z]; exact hy))]; exact ho), s.tb.turn h hm⟩
 ·rw [upd_ne (ne_of_none e hW)]; exact s.wh _ _ e
 ·obtain ⟨v, h1, h2⟩ := s.sl i g d e
  refine ⟨v, h1, ?_⟩
  cases g with
  | f => exact h2
  | b => exact h2
  | s => exact h2
  | e => first | exact h2 | (obtain ⟨_, _, _, e1, e2, e0, e3⟩ := h2; exact ⟨_, _, _, e1, e2, e0, e3.mono gr.m⟩)
  | l => first | exact h2 | exact ⟨h2.1, h2.2.mono gr.m⟩
  | o u p =>
   obtain ⟨a', o', rfl, q1, q2, q3, q4⟩ := h2
   have : a' ≠ a := fun z => ap.ow i _ _ rfl e (by rw [← z]; exact h1)
   exact ⟨a', o', rfl, by rw [upd_ne this]; exact q1, q2, q3, q4⟩
  | q p =>
   obtain ⟨a', F, rfl, q1, q2, q3, q4⟩ := h2
   exact ⟨a', F, rfl, q1.lq (.of (Same.refl _)) fun x hx o' e' => by rw [upd_ne (fun z : x = a => ap i _ _ a' F e h1 q1 (by rw [← z]; exact hx))]; exact e', q2, q3, q4⟩
theorem Apart.turnd {o' : HO} (ap : Apart K M H ρ σ a) (s : St K B M W H ρ σ) : Apart K M (upd H a o') ρ σ a :=
 ap.up s (.of (Same.refl _)) fun i g d b F e hσ f y hy o' ho => by rw [upd_ne (fun z : y = a => ap i g d b F e hσ f (by rw [← z]; exact hy))]; exact ho
theorem St.frz (s : St K B M W H ρ σ) (h : H a = some o) (hm : OwnK o) (hW : W a = none) (ap : Apart K M H ρ σ a) : Gr M W (upd M a o) (upd W a o) ∧ St K B (upd M a o) (upd W a o) H ρ σ := by
 have hM := s.mw.free hW
 have gr : Gr M W (upd M a o) (upd W a o) := ⟨same_upd hM, same_upd hW, fun b o h1 _ h2 => by
  have : b ≠ a := ne_of_none h1 hW
  rw [upd_ne this]; exact h2⟩
 refine ⟨gr, ⟨s.bw.trans gr.w, same_upd2 s.mw, fun b u e => ?_, s.ln, fun i g d e => ?_, s.spUpN (.of gr.m) (fun _ _ _ h => h), s.tb.frz hm.nt⟩⟩
 ·by_cases hb : b = a
  ·subst hb; rw [upd_same] at e; cases e; exact h
  ·rw [upd_ne hb] at e; exact s.wh _ _ e
 ·obtain ⟨v, h1, h2⟩ := s.sl i g d e
  refine ⟨v, h1, ?_⟩
  cases g with
  | f => exact Rp.mono gr.m h2
  | b => exact R1.mono (Same.refl _) gr.m h2
  | s => exact h2
  | e => first | exact h2 | (obtain ⟨_, _, _, e1, e2, e0, e3⟩ := h2; exact ⟨_, _, _, e1, e2, e0, e3.mono gr.m⟩)
  | l => first | exact h2 | exact ⟨h2.1, h2.2.mono gr.m⟩
  | o u p =>
   obtain ⟨a', o', rfl, q1, q2, q3, q4⟩ := h2
   have : a' ≠ a := fun z => ap.ow i _ _ rfl e (by rw [← z]; exact h1)
   exact ⟨a', o', rfl, q1, q2.mono gr.m, by rw [upd_ne this]; exact q3, q4⟩
  | q p =>
   obtain ⟨a', F, rfl, q1, q2, q3, q4⟩ := h2
   exact ⟨a', F, rfl, q1.lq (.of gr.m) fun _ _ _ e' => e', q2, fun x hx => by rw [upd_ne (fun z : x = a => ap i _ _ a' F e h1 q1 (by rw [← z]; exact hx))]; exact q3 x hx, q4⟩
theorem St.wipe1 (s : St K B M W H ρ σ) (i : Nat) (x : Option V) : St K B M W H (ρ.set i none) (σ.set i x) := by
 have gt : ∀ {j : Nat} {g : Fg} {d : D}, (ρ.set i none)[j]? = some (some (g, d)) → j ≠ i ∧ ρ[j]? = some (some (g, d)) := fun {j g d} e => by
  by_cases hj : j = i
  ·subst hj
   rw [List.getElem?_set] at e
   rw [if_pos rfl] at e
   split at e <;> exact nomatch e
  ·rw [List.getElem?_set_ne (Ne.symm hj)] at e; exact ⟨hj, e⟩
 refine ⟨s.bw, s.mw, s.wh, by rw [List.length_set, List.length_set]; exact s.ln, fun j g d e => ?_, fun j k g h d e a b F G hjk e1 e2 q1 q2 => ?_, s.tb⟩
 ·obtain ⟨hj, e⟩ := gt e
  obtain ⟨v, h1, h2⟩ := s.sl j g d e
  exact ⟨v, by rw [List.getElem?_set_ne (Ne.symm hj)]; exact h1, h2⟩
 ·obtain ⟨hj, e1⟩ := gt e1
  obtain ⟨hk, e2⟩ := gt e2
  rw [List.getElem?_set_ne (Ne.symm hj)] at q1
  rw [List.getElem?_set_ne (Ne.symm hk)] at q2
  exact s.sp j k g h d e a b F G hjk e1 e2 q1 q2
theorem St.forget (s : St K B M W H ρ σ) (i : Nat) : St K B M W H (ρ.set i none) σ := by
 have gt : ∀ {j : Nat} {g : Fg} {d : D}, (ρ.set i none)[j]? = some (some (g, d)) → ρ[j]? = some (some (g, d)) := fun {j g d} e => by
  by_cases hj : j = i
  ·subst hj
   rw [List.getElem?_set] at e
   rw [if_pos rfl] at e
   split at e <;> exact nomatch e
  ·rw [List.getElem?_set_ne (Ne.symm hj)] at e; exact e
 exact ⟨s.bw, s.mw, s.wh, by rw [List.length_set]; exact s.ln, fun j g d e => s.sl j g d (gt e), fun j k g h d e a b F G hjk e1 e2 q1 q2 => s.sp j k g h d e a b F G hjk (gt e1) (gt e2) q1 q2, s.tb⟩
theorem St.setG (s : St K B M W H (ρ.set i none) (σ.set i (some v))) (hv : SlOk K B M W H i g v d) (ap : ∀ a F, v = .ref a → SF K M H g a d F → ∀ x ∈ F, Apart K M H (ρ.set i none) (σ.set i (some v)) x) : St K B M W H (ρ.set i (some (g, d))) (σ.set i (some v)) := by
 have gt : ∀ {j : Nat} {g' : Fg} {d' : D}, (ρ.set i (some (g, d)))[j]? = some (some (g', d')) → (j = i ∧ g' = g ∧ d' = d ∧ i < σ.length) ∨ (j ≠ i ∧ (ρ.set i none)[j]? = some (some (g', d'))) := fun {j g' d'} e => by
  by_cases hj : j = i
  ·subst hj
   rw [List.getElem?_set] at e
   rw [if_pos rfl] at e
   split at e
   ·rename_i hl
    have := s.ln
    rw [List.length_set, List.length_set] at this
    cases e; exact .inl ⟨rfl, rfl, rfl, by omega⟩
   ·exact nomatch e
  ·rw [List.getElem?_set_ne (Ne.symm hj)] at e; exact .inr ⟨hj, by rw [List.getElem?_set_ne (Ne.symm hj)]; exact e⟩
 have at_ : i < σ.length → (σ.set i (some v))[i]? = some (some v) := fun h => by rw [List.getElem?_set, if_pos rfl, if_pos h]
 refine ⟨s.bw, s.mw, s.wh, by have := s.ln; rw [List.length_set, List.length_set] at this ⊢; exact this, fun j g' d' e => ?_, fun j k g' h' d' e' a b F G hjk e1 e2 q1 q2 f1 f2 x hx hy => ?_, s.tb⟩
 ·rcases gt e with ⟨rfl, rfl, rfl, hl⟩ | ⟨hj, e⟩
  ·exact ⟨v, at_ hl, hv⟩
  ·exact s.sl j g' d' e
 ·rcases gt e1 with ⟨rfl, rfl, rfl, hl⟩ | ⟨hj, g1⟩
  ·rcases gt e2 with ⟨rfl, rfl, rfl, _⟩ | ⟨hk, g2⟩
   ·exact hjk rfl
   ·rw [at_ hl] at q1; cases q1
    exact ap a F rfl f1 x hx k h' e' b G g2 q2 f2 hy
  ·rcases gt e2 with ⟨rfl, rfl, rfl, hl⟩ | ⟨hk, g2⟩
   ·rw [at_ hl] at q2; cases q2
    exact ap b G rfl f2 x hy j g' d' a F g1 q1 f1 hx
   ·exact s.sp j k g' h' d' e' a b F G hjk g1 g2 q1 q2 f1 f2 x hx hy
theorem St.set (s : St K B M W H (ρ.set i none) (σ.set i (some v))) (hv : SlOk K B M W H i g v d) (hq : ∀ p, g ≠ .q p) (ap : ∀ a, ownF g = true → v = .ref a → Apart K M H (ρ.set i none) (σ.set i (some v)) a) : St K B M W H (ρ.set i (some (g, d))) (σ.set i (some v)) :=
 s.setG hv fun a F e f x hx => by
  cases g with
  | o u p => cases f; rw [List.mem_singleton] at hx; subst hx; exact ap x rfl e
  | q p => exact absurd rfl (hq p)
  | _ => exact False.elim f
end
end Vm
namespace Vm
open PySem PySem.Spec PyProof.Rows L2 Fz
structure Xn where
 cls : Str
 fld : Option (Str × Int)
inductive Out (α : Type) where
 | stk
 | ok (ρ : Env) (a : α)
 | er (ρ : Env) (x : Xn)
def Out.bind {α β : Type} (o : Out α) (k : Env → α → Out β) : Out β := match o with
 | .stk => .stk
 | .ok ρ a => k ρ a
 | .er ρ x => .er ρ x
abbrev RE := Env → Out Tp
abbrev RT := Env → Out Bool
abbrev RA := Env → Out (List Tp)
inductive Fl where
 | nx | rt (tp : Tp) | bk | ct
abbrev RS := Env → Out Fl
def XOk (K : PySem.W.Frag) (M : Hp) (x : Xn) (d : Option Addr) : Prop := match x.fld, d with
 | none, none => True
 | some (f, e), some dd => M dd = some (.xd [(f, .int e)])
 | _, _ => False
def KG {α β : Type} (K : PySem.W.Frag) (B : Bx) (M W : Hp) (σ : L2.St) (w : WX) (Rel : Hp → Hp → Hp → Env → α → β → Prop) (o : Out α) (Q : β → Hp → Prop) : Prop := match o with
 | .stk => False
 | .ok ρ a => ∀ b M' W' H', Gr M W M' W' → St K B M' W' H' ρ σ → Rel M' W' H' ρ a b → Q b H'
 | .er ρ x => ∀ d M' W' H', Gr M W M' W' → St K B M' W' H' ρ σ → XOk K M' x d → w (clsOf K x.cls) d σ H'
section
variable {K : PySem.W.Frag} {B : Bx} {M W H M' W' H' : Hp} {ρ ρ' : Env} {σ : L2.St} {w : WX} {α β γ δ : Type}
theorem KG.up {Rel : Hp → Hp → Hp → Env → α → β → Prop} {o : Out α} {Q : β → Hp → Prop} (gr : Gr M W M' W') (k : KG K B M W σ w Rel o Q) : KG K B M' W' σ w Rel o Q := by
 cases o with
 | stk => exact k
 | ok ρ a => exact fun b M2 W2 H2 g2 s2 r2 => k b M2 W2 H2 (gr.trans g2) s2 r2
 | er ρ x => exact fun b M2 W2 H2 g2 s2 r2 => k b M2 W2 H2 (gr.trans g2) s2 r2
theorem KG.bind {Rel : Hp → Hp → Hp → Env → α → β → Prop} {Rel' : Hp → Hp → Hp → Env → γ → δ → Prop} {o : Out α} {kf : Env → α → Out γ} {Q : δ → Hp → Prop} {Q' : β → Hp → Prop} (k : KG K B M W σ w Rel' (o.bind kf) Q)
  (h : ∀ ρ' a b M' W' H', o = .ok ρ' a → Gr M W M' W' → St K B M' W' H' ρ' σ → Rel M' W' H' ρ' a b → KG K B M' W' σ w Rel' (kf ρ' a) Q → Q' b H') : KG K B M W σ w Rel o Q' := by
 cases o with
 | stk => exact k
 | ok ρ a => exact fun b M2 W2 H2 g2 s2 r2 => h ρ a b M2 W2 H2 rfl g2 s2 r2 (KG.up g2 k)
 | er ρ x => exact k
end
def RelV1 (K : PySem.W.Frag) (B : Bx) (σ : L2.St) : Hp → Hp → Hp → Env → Tp → V → Prop := fun M W H ρ tp v => TpOk K B M W H ρ σ tp v
def RelEq {α : Type} : Hp → Hp → Hp → Env → α → α → Prop := fun _ _ _ _ a b => a = b
def ownVs : List Tp → List V → List V
 | .ow _ _ :: tps, v :: vs => v :: ownVs tps vs
 | _ :: tps, _ :: vs => ownVs tps vs
 | _, _ => []
def TpOkL (K : PySem.W.Frag) (B : Bx) (M W H : Hp) (ρ : Env) (σ : L2.St) : Tp → V → Prop
 | .tr _, _ => True
 | tp, v => TpOk K B M W H ρ σ tp v
theorem TpOk.l {K : PySem.W.Frag} {B : Bx} {M W H : Hp} {ρ : Env} {σ : L2.St} {tp : Tp} {v : V} (h : TpOk K B M W H ρ σ tp v) : TpOkL K B M W H ρ σ tp v := by cases tp <;> first | exact h | trivial
theorem TpOkL.ok {K : PySem.W.Frag} {B : Bx} {M W H : Hp} {ρ : Env} {σ : L2.St} {tp : Tp} {v : V} (h : TpOkL K B M W H ρ σ tp v) (n : ∀ d, tp ≠ .tr d) : TpOk K B M W H ρ σ tp v := by cases tp <;> first | exact h | exact absurd rfl (n _)
theorem TpOkL.r1 {K : PySem.W.Frag} {B : Bx} {M W H : Hp} {ρ : Env} {σ : L2.St} {tp : Tp} {v : V} {d : D} (s : St K B M W H ρ σ) (h : TpOkL K B M W H ρ σ tp v) (e : rdT ρ tp = some d) : R1 K H M v d :=
 TpOk.r1 s (h.ok fun d z => by subst z; exact nomatch e) e
def TpsOk (K : PySem.W.Frag) (B : Bx) (M W H : Hp) (ρ : Env) (σ : L2.St) : List Tp → List V → Prop
 | [], [] => True
 | tp :: tps, v :: vs => TpOkL K B M W H ρ σ tp v ∧ TpsOk K B M W H ρ σ tps vs ∧ (∀ g d, tp = .ow g d → v ∉ ownVs tps vs)
 | _, _ => False
def RelVs (K : PySem.W.Frag) (B : Bx) (σ : L2.St) : Hp → Hp → Hp → Env → List Tp → List V → Prop := fun M W H ρ tps vs => TpsOk K B M W H ρ σ tps vs
def SE (K : PySem.W.Frag) (B : Bx) (w : WX) (t : TE) (r : RE) : Prop := ∀ (σ : L2.St) (H M W : Hp) (ρ : Env) (Q : VK), St K B M W H ρ σ → KG K B M W σ w (RelV1 K B σ) (r ρ) Q → t σ H Q
def SA (K : PySem.W.Frag) (B : Bx) (w : WX) (t : TA) (r : RA) : Prop := ∀ (σ : L2.St) (H M W : Hp) (ρ : Env) (Q : List V → Hp → Prop), St K B M W H ρ σ → KG K B M W σ w (RelVs K B σ) (r ρ) Q → t σ H Q
def SO (K : PySem.W.Frag) (B : Bx) (w : WX) (t : TO) (r : Env → Out (Option Int)) : Prop := ∀ (σ : L2.St) (H M W : Hp) (ρ : Env) (Q : Option Int → Hp → Prop), St K B M W H ρ σ → KG K B M W σ w RelEq (r ρ) Q → t σ H Q
def STt (K : PySem.W.Frag) (B : Bx) (w : WX) (t : TT) (r : RT) : Prop := ∀ (σ : L2.St) (H M W : Hp) (ρ : Env) (Q : Bool → Hp → Prop), St K B M W H ρ σ → KG K B M W σ w RelEq (r ρ) Q → t σ H Q
def del (W : Hp) (a : Addr) : Hp := fun b => if b = a then none else W b
theorem del_same {W : Hp} {a : Addr} : del W a a = none := if_pos rfl
theorem del_ne {W : Hp} {a b : Addr} (h : b ≠ a) : del W a b = W b := if_neg h
theorem del_none {W : Hp} {a b : Addr} (h : W b = none) : del W a b = none := by
 by_cases e : b = a
 ·rw [e, del_same]
 ·rw [del_ne e]; exact h
section
variable {K : PySem.W.Frag} {B : Bx} {M W H M' W' H' : Hp} {ρ ρ' : Env} {σ : L2.St} {w : WX} {tp : Tp} {v : V}
theorem TpOk.del {a : Addr} (h : TpOk K B M W H ρ σ tp v) : TpOk K B M (del W a) H ρ σ tp v := by
 cases tp with
 | sl i => exact h
 | fz d => exact h
 | ow g d => obtain ⟨b, o, rfl, h1, h2, h3, h4⟩ := h; exact ⟨b, o, rfl, h1, h2, del_none h3, h4⟩
 | tr d => obtain ⟨b, F, rfl, h1, h2, h3, h4⟩ := h; exact ⟨b, F, rfl, h1, h2, fun x hx => del_none (h3 x hx), h4⟩
theorem TpOkL.del {a : Addr} (h : TpOkL K B M W H ρ σ tp v) : TpOkL K B M (Vm.del W a) H ρ σ tp v := by
 cases tp with
 | tr d => trivial
 | sl i => exact h
 | fz d => exact h
 | ow g d => obtain ⟨b, o, rfl, h1, h2, h3, h4⟩ := h; exact ⟨b, o, rfl, h1, h2, del_none h3, h4⟩
theorem TpsOk.del {a : Addr} : ∀ {tps : List Tp} {vs : List V}, TpsOk K B M W H ρ σ tps vs → TpsOk K B M (del W a) H ρ σ tps vs
 | [], [], _ => trivial
 | _ :: tps, _ :: vs, ⟨h1, h2, h3⟩ => ⟨h1.del, TpsOk.del (tps := tps) (vs := vs) h2, h3⟩
theorem pend (s : St K B M W H ρ σ) (h : TpOk K B M W H ρ σ tp v) : ∃ W1, St K B M W1 H ρ σ ∧ ∀ M2 W2 H2 ρ2, Gr M W1 M2 W2 → St K B M2 W2 H2 ρ2 σ →
  ∃ W3, Gr M W M2 W3 ∧ St K B M2 W3 H2 ρ2 σ ∧ (∀ tp' v', TpOkL K B M2 W2 H2 ρ2 σ tp' v' → TpOkL K B M2 W3 H2 ρ2 σ tp' v' ∧ ((∃ g d, tp = .ow g d) → (∃ g d, tp' = .ow g d) → v' ≠ v)) ∧ TpOkL K B M2 W3 H2 ρ2 σ tp v := by
 cases tp with
 | tr d => exact ⟨W, s, fun M2 W2 H2 ρ2 g2 s2 => ⟨W2, g2, s2, fun tp' v' h' => ⟨h', fun ⟨_, _, q⟩ => nomatch q⟩, trivial⟩⟩
 | sl i => exact ⟨W, s, fun M2 W2 H2 ρ2 g2 s2 => ⟨W2, g2, s2, fun tp' v' h' => ⟨h', fun ⟨_, _, q⟩ => nomatch q⟩, h⟩⟩
 | fz d => exact ⟨W, s, fun M2 W2 H2 ρ2 g2 s2 => ⟨W2, g2, s2, fun tp' v' h' => ⟨h', fun ⟨_, _, q⟩ => nomatch q⟩, Rp.mono g2.m h⟩⟩
 | ow g d =>
  obtain ⟨a, o, rfl, h1, h2, h3, h4⟩ := h
  have hM := s.mw.free h3
  have hB := s.bw.free h3
  refine ⟨upd W a o, ⟨s.bw.trans (same_upd h3), s.mw.trans (same_upd h3), fun b u e => ?_, s.ln, fun i g d e => ?_, s.sp, s.tb.frz h2.kind.nt⟩, fun M2 W2 H2 ρ2 g2 s2 => ?_⟩
  ·by_cases hb : b = a
   ·subst hb; rw [upd_same] at e; cases e; exact h1
   ·rw [upd_ne hb] at e; exact s.wh _ _ e
  ·obtain ⟨v, q1, q2⟩ := s.sl i g d e
   refine ⟨v, q1, ?_⟩
   cases g with
   | f => exact q2
   | b => exact q2
   | s => exact q2
   | e => first | exact q2 | (obtain ⟨_, _, _, e1, e2, e0, e3⟩ := q2; exact ⟨_, _, _, e1, e2, e0, e3.mono gr.m⟩)
   | l => first | exact q2 | exact ⟨q2.1, q2.2.mono gr.m⟩
   | o u p =>
    obtain ⟨a', o', rfl, p1, p2, p3, p4⟩ := q2
    have : a' ≠ a := fun z => h4.ow i _ _ rfl e (by rw [← z]; exact q1)
    exact ⟨a', o', rfl, p1, p2, by rw [upd_ne this]; exact p3, p4⟩
   | q p =>
    obtain ⟨a', F, rfl, p1, p2, p3, p4⟩ := q2
    exact ⟨a', F, rfl, p1, p2, fun x hx => by rw [upd_ne (fun z : x = a => h4 i _ _ a' F e q1 p1 (by rw [← z]; exact hx))]; exact p3 x hx, p4⟩
  ·have hWa : W2 a = some o := g2.w _ _ upd_same
   have hM2 : M2 a = none := g2.n a o upd_same (mutF h2.mut) hM
   refine ⟨Vm.del W2 a, ⟨g2.m, fun b u e => ?_, fun b ob e1 em e2 => ?_⟩, ⟨fun b u e => ?_, fun b u e => ?_, fun b u e => ?_, s2.ln, fun i g d e => ?_, s2.sp, ⟨fun b ps e => by
    by_cases hb : b = a
    ·rw [hb, del_same] at e; cases e
    ·rw [del_ne hb] at e; exact s2.tb.1 _ _ e, s2.tb.2⟩⟩, fun tp' v' h' => ⟨h'.del, fun _ ⟨g', d', e'⟩ q => ?_⟩, ?_⟩
   ·have : b ≠ a := ne_of_none e h3
    rw [del_ne this]
    exact g2.w _ _ (by rw [upd_ne this]; exact e)
   ·have : b ≠ a := ne_of_none e1 h3
    exact g2.n b ob (by rw [upd_ne this]; exact e1) em e2
   ·rw [del_ne (ne_of_none e hB)]; exact s2.bw _ _ e
   ·rw [del_ne (ne_of_none e hM2)]; exact s2.mw _ _ e
   ·by_cases hb : b = a
    ·rw [hb, del_same] at e; cases e
    ·rw [del_ne hb] at e; exact s2.wh _ _ e
   ·obtain ⟨v, q1, q2⟩ := s2.sl i g d e
    refine ⟨v, q1, ?_⟩
    cases g with
    | f => exact q2
    | b => exact q2
    | s => exact q2
    | e => first | exact q2 | (obtain ⟨_, _, _, e1, e2, e0, e3⟩ := q2; exact ⟨_, _, _, e1, e2, e0, e3.mono gr.m⟩)
    | l => first | exact q2 | exact ⟨q2.1, q2.2.mono gr.m⟩
    | o u p => obtain ⟨a', o', rfl, p1, p2, p3, p4⟩ := q2; exact ⟨a', o', rfl, p1, p2, del_none p3, p4⟩
    | q p => obtain ⟨a', F, rfl, p1, p2, p3, p4⟩ := q2; exact ⟨a', F, rfl, p1, p2, fun x hx => del_none (p3 x hx), p4⟩
   ·subst e'
    obtain ⟨b, o', e1, _, _, e4, _⟩ := h'
    rw [q] at e1; cases e1
    rw [hWa] at e4; cases e4
   ·refine ⟨a, o, rfl, s2.wh _ _ hWa, h2.mono g2.m, del_same, fun i g d b F e z f m => ?_⟩
    have e4 := (s2.cells e z f a m).1
    rw [hWa] at e4; cases e4
theorem TpsOk.pend {tps : List Tp} {vs : List V} (f : ∀ tp' v', TpOkL K B M W H ρ σ tp' v' → TpOkL K B M W' H ρ σ tp' v' ∧ ((∃ g d, tp = .ow g d) → (∃ g d, tp' = .ow g d) → v' ≠ v)) (h : TpsOk K B M W H ρ σ tps vs) : TpsOk K B M W' H ρ σ tps vs ∧ (∀ g d, tp = .ow g d → v ∉ ownVs tps vs) := by
 induction tps generalizing vs with
 | nil =>
  cases vs with
  | nil => exact ⟨trivial, fun _ _ _ => by simp [ownVs]⟩
  | cons _ _ => exact False.elim h
 | cons t tps ih =>
  cases vs with
  | nil => exact False.elim h
  | cons u vs =>
   obtain ⟨h1, h2, h3⟩ := h
   obtain ⟨i1, i2⟩ := ih h2
   refine ⟨⟨(f t u h1).1, i1, h3⟩, fun g d e q => ?_⟩
   cases t with
   | sl i => exact i2 g d e q
   | fz x => exact i2 g d e q
   | tr x => exact i2 g d e q
   | ow g' d' =>
    have q : v = u ∨ v ∈ ownVs tps vs := by simpa [ownVs] using q
    rcases q with q | q
    ·exact (f _ u h1).2 ⟨g, d, e⟩ ⟨g', d', rfl⟩ q.symm
    ·exact i2 g d e q
end
def rVar (i : Nat) : RE := fun ρ => match ρ[i]? with
 | some (some _) => .ok ρ (.sl i)
 | _ => .stk
def rK (d : D) : RE := fun ρ => .ok ρ (.fz d)
def rNil : RA := fun ρ => .ok ρ []
def rCons (a : RE) (r : RA) : RA := fun ρ => (a ρ).bind fun ρ1 tp => (r ρ1).bind fun ρ2 tps => .ok ρ2 (tp :: tps)
def rdTs (ρ : Env) : List Tp → Option (List D)
 | [] => some []
 | tp :: tps => match rdT ρ tp, rdTs ρ tps with
  | some d, some ds => some (d :: ds)
  | _, _ => none
def rOp (f : List D → Option Rz) (a : RA) : RE := fun ρ => (a ρ).bind fun ρ1 tps => match rdTs ρ1 tps with
 | some ds => match f ds with
  | some z => .ok ρ1 z.tp
  | none => .stk
 | none => .stk
def ResK (K : PySem.W.Frag) (H M : Hp) (z : Rz) (Q : VK) : Prop := match z with
 | .tr _ => True
 | .fz d => (∀ v, Rp K M v d → Q v H) ∧ (∀ v a xs, H a = none → Rp K (upd M a (.tup xs)) v d → Q v (upd H a (.tup xs)))
 | .ow g d => ∀ a o, H a = none → OwnO K M g o d → Q (.ref a) (upd H a o)
inductive R1s (K : PySem.W.Frag) (H M : Hp) : List V → List D → Prop
 | nil : R1s K H M [] []
 | cons {v : V} {d : D} {vs : List V} {ds : List D} : R1 K H M v d → R1s K H M vs ds → R1s K H M (v :: vs) (d :: ds)
def OpN (K : PySem.W.Frag) (r : List V → Hp → VK → Prop) (f : List D → Option Rz) : Prop := ∀ (vs : List V) (ds : List D) (H M : Hp) (Q : VK) (z : Rz), Same M H → R1s K H M vs ds → f ds = some z → ResK K H M z Q → r vs H Q
section
variable {K : PySem.W.Frag} {B : Bx} {w : WX} {t ta tb : TE} {r ra rb : RE} {tA : TA} {rA : RA}
theorem se_var {i : Nat} : SE K B w (tVar i) (rVar i) := fun σ H M W ρ Q s k => by
 unfold rVar at k
 cases e : ρ[i]? with
 | none => rw [e] at k; exact False.elim k
 | some x =>
  cases x with
  | none => rw [e] at k; exact False.elim k
  | some gd =>
   obtain ⟨g, d⟩ := gd
   rw [e] at k
   obtain ⟨v, h1, h2⟩ := s.sl i g d e
   exact ⟨v, h1, k v M W H (Gr.refl _ _) s h1⟩
theorem se_const {v : V} {d : D} (h : ∀ M, Rp K M v d) : SE K B w (tC v) (rK d) := fun σ H M W ρ Q s k => k v M W H (Gr.refl _ _) s (h M)
theorem se_int {i : Int} : SE K B w (tC (.int i)) (rK (.int i)) := se_const fun _ => .int i
theorem se_str {i : Str} : SE K B w (tC (.str i)) (rK (.str i)) := se_const fun _ => .str i
theorem se_bl {i : Bool} : SE K B w (tC (.bl i)) (rK (.bool i)) := se_const fun _ => .bl i
theorem sa_nil : SA K B w tNil rNil := fun σ H M W ρ Q s k => k [] M W H (Gr.refl _ _) s trivial
theorem sa_cons (ha : SE K B w ta ra) (hr : SA K B w tA rA) : SA K B w (tCons ta tA) (rCons ra rA) := fun σ H M W ρ Q s k =>
 ha σ H M W ρ _ s (KG.bind k fun ρ1 tp v M1 W1 H1 _ g1 s1 h1 k1 => by
  obtain ⟨W1', s1', pd⟩ := pend s1 h1
  refine hr σ H1 M1 W1' ρ1 _ s1' ?_
  cases e : rA ρ1 with
  | stk => rw [e] at k1; exact k1
  | er ρ2 x =>
   rw [e] at k1
   intro d M2 W2 H2 g2 s2 hx
   obtain ⟨W3, g3, s3, _, _⟩ := pd M2 W2 H2 ρ2 g2 s2
   exact k1 d M2 W3 H2 g3 s3 hx
  | ok ρ2 tps =>
   rw [e] at k1
   intro vs M2 W2 H2 g2 s2 hv
   obtain ⟨W3, g3, s3, f3, h3⟩ := pd M2 W2 H2 ρ2 g2 s2
   obtain ⟨q1, q2⟩ := TpsOk.pend f3 hv
   exact k1 (v :: vs) M2 W3 H2 g3 s3 ⟨h3, q1, q2⟩)
theorem rdTs_r1 {M W H : Hp} {ρ : Env} {σ : L2.St} (s : St K B M W H ρ σ) : ∀ {tps : List Tp} {vs : List V} {ds : List D}, TpsOk K B M W H ρ σ tps vs → rdTs ρ tps = some ds → R1s K H M vs ds
 | [], [], ds, _, e => by cases e; exact .nil
 | tp :: tps, v :: vs, ds, ⟨h1, h2, _⟩, e => by
  unfold rdTs at e
  cases e1 : rdT ρ tp with
  | none => rw [e1] at e; exact nomatch e
  | some d =>
   cases e2 : rdTs ρ tps with
   | none => rw [e1, e2] at e; exact nomatch e
   | some ds' =>
    rw [e1, e2] at e
    cases e
    exact .cons (h1.r1 s e1) (rdTs_r1 s h2 e2)
theorem ResK.mk {M W H : Hp} {ρ : Env} {σ : L2.St} {z : Rz} {Q : VK} (s : St K B M W H ρ σ) (k : KG K B M W σ w (RelV1 K B σ) (.ok ρ z.tp) Q) : ResK K H M z Q := by
 cases z with
 | tr d => trivial
 | fz d =>
  refine ⟨fun v hv => k v M W H (Gr.refl _ _) s hv, fun v a o ha hv => ?_⟩
  obtain ⟨gr, s'⟩ := s.newF (o := .tup o) ha fun _ z => nomatch z
  exact k v _ _ _ gr s' hv
 | ow g d =>
  intro a o ha ho
  obtain ⟨s', h'⟩ := s.newO ha ho
  exact k _ _ _ _ (Gr.refl _ _) s' h'
theorem se_cb {rr : List V → Hp → VK → Prop} {f : List D → Option Rz} (hA : SA K B w tA rA) (ho : OpN K rr f) : SE K B w (tCB rr tA) (rOp f rA) := fun σ H M W ρ Q s k =>
 hA σ H M W ρ _ s (KG.bind k fun ρ1 tps vs M1 W1 H1 _ g1 s1 h1 k1 => by
  cases e : rdTs ρ1 tps with
  | none => rw [e] at k1; exact False.elim k1
  | some ds =>
   rw [e] at k1
   dsimp only at k1
   cases e2 : f ds with
   | none => rw [e2] at k1; exact False.elim k1
   | some tp =>
    rw [e2] at k1
    exact ho vs ds H1 M1 Q tp s1.mh (rdTs_r1 s1 h1 e) e2 (ResK.mk s1 k1))
end
end Vm
namespace Vm
open PySem PySem.Spec PyProof.Rows L2 Fz
def stF (ρ : Env) : Tp → Option (Env × D)
 | .fz d => some (ρ, d)
 | .ow _ d => some (ρ, d)
 | .tr _ => none
 | .sl i => match ρ[i]? with
  | some (some (.f, d)) => some (ρ, d)
  | some (some (.o _ false, d)) => some (ρ.set i (some (.f, d)), d)
  | _ => none
def stFs (ρ : Env) : List Tp → Option (Env × List D)
 | [] => some (ρ, [])
 | tp :: tps => match stF ρ tp with
  | some (ρ1, d) => match stFs ρ1 tps with
   | some (ρ2, ds) => some (ρ2, d :: ds)
   | none => none
  | none => none
theorem set_same {α : Type} {l : List α} {i : Nat} {x : α} (h : l[i]? = some x) : l.set i x = l := by
 apply List.ext_getElem?
 intro j
 by_cases hj : j = i
 ·subst hj
  have hl : j < l.length := by
   rcases Nat.lt_or_ge j l.length with h' | h'
   ·exact h'
   ·rw [List.getElem?_eq_none h'] at h; cases h
  rw [h, List.getElem?_set, if_pos rfl, if_pos hl]
 ·rw [List.getElem?_set_ne (Ne.symm hj)]
section
variable {K : PySem.W.Frag} {B : Bx} {M W H M' W' H' : Hp} {ρ ρ' : Env} {σ σ' : L2.St} {v : V} {d : D} {g : Fg} {u p : Bool} {o : HO} {a : Addr} {tp : Tp} {i : Nat}
theorem St.putG (s : St K B M W H (ρ.set i none) σ) (hσ : σ[i]? = some (some v)) (hv : SlOk K B M W H i g v d) (ap : ∀ a F, v = .ref a → SF K M H g a d F → ∀ x ∈ F, Apart K M H (ρ.set i none) σ x) : St K B M W H (ρ.set i (some (g, d))) σ := by
 have e : σ.set i (some v) = σ := set_same hσ
 have := St.setG (ρ := ρ) (σ := σ) (v := v) (i := i) (g := g) (d := d) (by rw [e]; exact s) hv (by rw [e]; exact ap)
 rw [e] at this
 exact this
theorem St.put (s : St K B M W H (ρ.set i none) σ) (hσ : σ[i]? = some (some v)) (hv : SlOk K B M W H i g v d) (hq : ∀ p, g ≠ .q p) (ap : ∀ a, ownF g = true → v = .ref a → Apart K M H (ρ.set i none) σ a) : St K B M W H (ρ.set i (some (g, d))) σ := by
 have e : σ.set i (some v) = σ := set_same hσ
 have := St.set (ρ := ρ) (σ := σ) (v := v) (i := i) (g := g) (d := d) (by rw [e]; exact s) hv hq (by rw [e]; exact ap)
 rw [e] at this
 exact this
theorem set_none_get {j : Nat} {h : Fg} {e : D} (q : (ρ.set i none)[j]? = some (some (h, e))) : j ≠ i ∧ ρ[j]? = some (some (h, e)) := by
 by_cases hj : j = i
 ·subst hj
  rw [List.getElem?_set, if_pos rfl] at q
  split at q <;> exact nomatch q
 ·rw [List.getElem?_set_ne (Ne.symm hj)] at q; exact ⟨hj, q⟩
theorem apart_forgetG {F : List Addr} (s : St K B M W H ρ σ) (hr : ρ[i]? = some (some (g, d))) (hs : σ[i]? = some (some (.ref a))) (hf : SF K M H g a d F) : ∀ x ∈ F, Apart K M H (ρ.set i none) σ x := fun x hx j h e b G q z f => by
 obtain ⟨hj, q⟩ := set_none_get q
 exact s.sp i j g h d e a b F G (Ne.symm hj) hr q hs z hf f x hx
theorem apart_forget (s : St K B M W H ρ σ) (hg : ownF g = true) (hr : ρ[i]? = some (some (g, d))) (hs : σ[i]? = some (some (.ref a))) : Apart K M H (ρ.set i none) σ a := by
 have f1 : SF K M H g a d [a] := by cases g <;> first | exact rfl | exact absurd hg Bool.false_ne_true
 exact apart_forgetG s hr hs f1 a (List.mem_singleton.mpr rfl)
theorem stF_ok (s : St K B M W H ρ σ) (h : TpOk K B M W H ρ σ tp v) (e : stF ρ tp = some (ρ', d)) : ∃ M' W', Gr M W M' W' ∧ St K B M' W' H ρ' σ ∧ Rp K M' v d ∧
  ∀ tp' v', TpOkL K B M W H ρ σ tp' v' → (∀ g d, tp = .ow g d → ∀ g' d', tp' = .ow g' d' → v' ≠ v) → TpOkL K B M' W' H ρ' σ tp' v' := by
 cases tp with
 | tr d' => exact nomatch e
 | fz d' => cases e; exact ⟨M, W, Gr.refl _ _, s, h, fun _ _ q _ => q⟩
 | ow u d' =>
  cases e
  obtain ⟨a, o, rfl, h1, h2, h3, h4⟩ := h
  obtain ⟨gr, s'⟩ := s.frz h1 h2.kind h3 h4
  refine ⟨_, _, gr, s', h2.rp gr.m upd_same, fun tp' v' q ne => ?_⟩
  cases tp' with
  | tr d => trivial
  | sl i => exact q
  | fz d => exact Rp.mono gr.m q
  | ow u' d' =>
   obtain ⟨b, o', rfl, q1, q2, q3, q4⟩ := q
   have : b ≠ a := fun z => ne u _ rfl u' d' rfl (by rw [z])
   exact ⟨b, o', rfl, q1, q2.mono gr.m, by rw [upd_ne this]; exact q3, q4.frz s (.of gr.m)⟩
 | sl i =>
  have hσ : σ[i]? = some (some v) := h
  unfold stF at e
  dsimp only at e
  split at e
  ·rename_i d' hr
   cases e
   obtain ⟨v', q1, q2⟩ := s.sl i _ _ hr
   rw [hσ] at q1; cases q1
   exact ⟨M, W, Gr.refl _ _, s, q2, fun _ _ q _ => q⟩
  ·rename_i u d' hr
   cases e
   obtain ⟨v', q1, q2⟩ := s.sl i _ _ hr
   rw [hσ] at q1; cases q1
   obtain ⟨a, o, rfl, h1, h2, h3, _⟩ := q2
   have ap := apart_forget s (g := .o u false) rfl hr hσ
   obtain ⟨gr, s'⟩ := (s.forget i).frz h1 h2.kind h3 ap
   have rp : Rp K (upd M a o) (.ref a) d := h2.rp gr.m upd_same
   refine ⟨_, _, gr, s'.put hσ (g := .f) rp (fun _ z => nomatch z) (fun _ q => absurd q Bool.false_ne_true), rp, fun tp' v' q _ => ?_⟩
   cases tp' with
   | tr d => trivial
   | sl i => exact q
   | fz d => exact Rp.mono gr.m q
   | ow u' d' =>
    obtain ⟨b, o', rfl, q1, q2, q3, q4⟩ := q
    have : b ≠ a := fun z => q4.ow i _ _ rfl hr (by rw [z]; exact hσ)
    refine ⟨b, o', rfl, q1, q2.mono gr.m, by rw [upd_ne this]; exact q3, fun j g' d' c F q' z f => ?_⟩
    by_cases hj : j = i
    ·subst hj
     rw [List.getElem?_set, if_pos rfl] at q'
     split at q'
     ·cases q'; exact False.elim f
     ·exact nomatch q'
    ·rw [List.getElem?_set_ne (Ne.symm hj)] at q'
     exact q4.frz s (.of gr.m) j g' d' c F q' z f
  ·exact nomatch e
theorem stF_okL (s : St K B M W H ρ σ) (h : TpOkL K B M W H ρ σ tp v) (e : stF ρ tp = some (ρ', d)) : ∃ M' W', Gr M W M' W' ∧ St K B M' W' H ρ' σ ∧ Rp K M' v d ∧
  ∀ tp' v', TpOkL K B M W H ρ σ tp' v' → (∀ g d, tp = .ow g d → ∀ g' d', tp' = .ow g' d' → v' ≠ v) → TpOkL K B M' W' H ρ' σ tp' v' :=
 stF_ok s (h.ok fun d z => by subst z; exact nomatch e) e
theorem stFs_ok : ∀ {tps : List Tp} {vs : List V} {ρ ρ' : Env} {ds : List D} {M W : Hp}, St K B M W H ρ σ → TpsOk K B M W H ρ σ tps vs → stFs ρ tps = some (ρ', ds) → ∃ M' W', Gr M W M' W' ∧ St K B M' W' H ρ' σ ∧ Rps K M' vs ds
 | [], [], ρ, ρ', ds, M, W, s, _, e => by cases e; exact ⟨M, W, Gr.refl _ _, s, .nil⟩
 | tp :: tps, v :: vs, ρ, ρ', ds, M, W, s, ⟨h1, h2, h3⟩, e => by
  unfold stFs at e
  cases e1 : stF ρ tp with
  | none => rw [e1] at e; exact nomatch e
  | some x =>
   obtain ⟨ρ1, d⟩ := x
   rw [e1] at e
   dsimp only at e
   obtain ⟨M1, W1, g1, s1, r1, f1⟩ := stF_ok s (h1.ok fun d z => by subst z; exact nomatch e1) e1
   have all : ∀ {tps : List Tp} {vs : List V}, TpsOk K B M W H ρ σ tps vs → (∀ g d, tp = .ow g d → v ∉ ownVs tps vs) → TpsOk K B M1 W1 H ρ1 σ tps vs := by
    intro tps
    induction tps with
    | nil => intro vs h _; cases vs with
     | nil => trivial
     | cons _ _ => exact False.elim h
    | cons t tps ih =>
     intro vs h n
     cases vs with
     | nil => exact False.elim h
     | cons u vs =>
      obtain ⟨q1, q2, q3⟩ := h
      refine ⟨f1 t u q1 fun g d e g' d' e' z => ?_, ih q2 fun g d e z => n g d e ?_, q3⟩
      ·subst e'
       exact n g d e (by simp [ownVs, z])
      ·cases t with
       | sl i => exact z
       | fz x => exact z
       | tr x => exact z
       | ow _ _ => simp [ownVs, z]
   cases e2 : stFs ρ1 tps with
   | none => rw [e2] at e; exact nomatch e
   | some y =>
    obtain ⟨ρ2, ds'⟩ := y
    rw [e2] at e
    cases e
    obtain ⟨M2, W2, g2, s2, r2⟩ := stFs_ok s1 (all h2 h3) e2
    exact ⟨M2, W2, g1.trans g2, s2, .cons (r1.mono g2.m) r2⟩
end
def rTup (a : RA) : RE := fun ρ => (a ρ).bind fun ρ1 tps => match stFs ρ1 tps with
 | some (ρ2, ds) => if ds.length ≤ sizeLine then .ok ρ2 (.fz (.tuple ds)) else .stk
 | none => .stk
def rLst (a : RA) : RE := fun ρ => (a ρ).bind fun ρ1 tps => match stFs ρ1 tps with
 | some (ρ2, ds) => if ds.length ≤ sizeLine then .ok ρ2 (.ow false (.list ds)) else .stk
 | none => .stk
section
variable {K : PySem.W.Frag} {B : Bx} {w : WX} {t ta tb : TE} {r ra rb : RE} {tA : TA} {rA : RA}
theorem se_tup (hA : SA K B w tA rA) : SE K B w (tTup tA) (rTup rA) := fun σ H M W ρ Q s k =>
 hA σ H M W ρ _ s (KG.bind k fun ρ1 tps vs M1 W1 H1 _ g1 s1 h1 k1 => by
  cases e : stFs ρ1 tps with
  | none => rw [e] at k1; exact False.elim k1
  | some x =>
   obtain ⟨ρ2, ds⟩ := x
   rw [e] at k1
   dsimp only at k1
   obtain ⟨M2, W2, g2, s2, r2⟩ := stFs_ok s1 h1 e
   by_cases hl : ds.length ≤ sizeLine
   ·rw [if_pos hl] at k1
    refine ⟨by rw [r2.length]; exact hl, fun p hp => ?_⟩
    obtain ⟨g3, s3⟩ := s2.newF (o := .tup vs) hp fun _ z => nomatch z
    exact k1 _ _ _ _ (g2.trans g3) s3 (Rp.tup upd_same (r2.mono g3.m))
   ·rw [if_neg hl] at k1; exact False.elim k1)
theorem se_lst (hA : SA K B w tA rA) : SE K B w (tLst tA) (rLst rA) := fun σ H M W ρ Q s k =>
 hA σ H M W ρ _ s (KG.bind k fun ρ1 tps vs M1 W1 H1 _ g1 s1 h1 k1 => by
  cases e : stFs ρ1 tps with
  | none => rw [e] at k1; exact False.elim k1
  | some x =>
   obtain ⟨ρ2, ds⟩ := x
   rw [e] at k1
   dsimp only at k1
   obtain ⟨M2, W2, g2, s2, r2⟩ := stFs_ok s1 h1 e
   by_cases hl : ds.length ≤ sizeLine
   ·rw [if_pos hl] at k1
    refine ⟨by rw [r2.length]; exact hl, fun p hp => ?_⟩
    obtain ⟨s3, h3⟩ := s2.newO (u := false) (o := .lst vs) (d := .list ds) hp r2
    exact k1 _ _ _ _ g2 s3 h3
   ·rw [if_neg hl] at k1; exact False.elim k1)
theorem se_dnewK : SE K B w tDNewK (fun ρ => .ok ρ (.ow false (.dict []))) := fun σ H M W ρ Q s k p hp => by
 obtain ⟨s3, h3⟩ := s.newO (u := false) (o := .dK []) (d := .dict []) hp ⟨rfl, .nil⟩
 exact k _ _ _ _ (Gr.refl _ _) s3 h3
def asB (ρ : Env) (tp : Tp) : Out Bool := match rdT ρ tp with
 | some (.bool b) => .ok ρ b
 | _ => .stk
def rTest (r : RE) : RT := fun ρ => (r ρ).bind asB
theorem r1_bl {H M : Hp} {v : V} {b : Bool} (h : R1 K H M v (.bool b)) : v = .bl b := by cases h; rfl
theorem r1_int {H M : Hp} {v : V} {b : Int} (h : R1 K H M v (.int b)) : v = .int b := by cases h; rfl
theorem r1_str {H M : Hp} {v : V} {b : Str} (h : R1 K H M v (.str b)) : v = .str b := by cases h; rfl
theorem asB_some {ρ : Env} {tp : Tp} {P : Out Bool → Prop} (h : P (asB ρ tp)) (h0 : ¬ P .stk) : ∃ b, rdT ρ tp = some (.bool b) ∧ P (.ok ρ b) := by
 unfold asB at h
 split at h
 ·rename_i b e; exact ⟨b, e, h⟩
 ·exact absurd h h0
theorem st_test (h : SE K B w t r) : STt K B w (tTest t) (rTest r) := fun σ H M W ρ Q s k =>
 h σ H M W ρ _ s (KG.bind k fun ρ1 tp v M1 W1 H1 _ g1 s1 h1 k1 => by
  obtain ⟨b, e, k1⟩ := asB_some (P := fun o => KG K B M1 W1 σ w RelEq o Q) k1 (fun q => q)
  exact ⟨b, r1_bl (h1.r1 s1 e), k1 b M1 W1 H1 (Gr.refl _ _) s1 rfl⟩)
theorem st_B (h : SE K B w t r) : STt K B w (tB t) (rTest r) := st_test h
def rAnd (a b : RT) : RT := fun ρ => (a ρ).bind fun ρ1 x => if x = true then b ρ1 else .ok ρ1 false
def rOr (a b : RT) : RT := fun ρ => (a ρ).bind fun ρ1 x => if x = true then .ok ρ1 true else b ρ1
def rNot (a : RT) : RT := fun ρ => (a ρ).bind fun ρ1 x => .ok ρ1 (!x)
theorem st_and {ta tb : TT} {ra rb : RT} (ha : STt K B w ta ra) (hb : STt K B w tb rb) : STt K B w (tAnd ta tb) (rAnd ra rb) := fun σ H M W ρ Q s k =>
 ha σ H M W ρ _ s (KG.bind (Rel := RelEq) k fun ρ1 x b M1 W1 H1 _ g1 s1 h1 k1 => by
  have h1 : x = b := h1
  subst h1
  cases x with
  | true => rw [if_pos rfl] at k1 ⊢; exact hb σ H1 M1 W1 ρ1 _ s1 k1
  | false => rw [if_neg Bool.false_ne_true] at k1 ⊢; exact k1 _ _ _ _ (Gr.refl _ _) s1 rfl)
theorem st_or {ta tb : TT} {ra rb : RT} (ha : STt K B w ta ra) (hb : STt K B w tb rb) : STt K B w (tOr ta tb) (rOr ra rb) := fun σ H M W ρ Q s k =>
 ha σ H M W ρ _ s (KG.bind (Rel := RelEq) k fun ρ1 x b M1 W1 H1 _ g1 s1 h1 k1 => by
  have h1 : x = b := h1
  subst h1
  cases x with
  | true => rw [if_pos rfl] at k1 ⊢; exact k1 _ _ _ _ (Gr.refl _ _) s1 rfl
  | false => rw [if_neg Bool.false_ne_true] at k1 ⊢; exact hb σ H1 M1 W1 ρ1 _ s1 k1)
theorem st_not {ta : TT} {ra : RT} (ha : STt K B w ta ra) : STt K B w (tNot ta) (rNot ra) := fun σ H M W ρ Q s k =>
 ha σ H M W ρ _ s (KG.bind (Rel := RelEq) k fun ρ1 x b M1 W1 H1 _ g1 s1 h1 k1 => by
  have h1 : x = b := h1
  subst h1
  exact k1 _ _ _ _ (Gr.refl _ _) s1 rfl)
theorem st_yes : STt K B w tYes (fun ρ => .ok ρ true) := fun σ H M W ρ Q s k => k _ _ _ _ (Gr.refl _ _) s rfl
def rAndV (a b : RE) : RE := fun ρ => (rTest a ρ).bind fun ρ1 x => if x = true then b ρ1 else .ok ρ1 (.fz (.bool false))
def rOrV (a b : RE) : RE := fun ρ => (rTest a ρ).bind fun ρ1 x => if x = true then .ok ρ1 (.fz (.bool true)) else b ρ1
def rNotV (a : RE) : RE := fun ρ => (rTest a ρ).bind fun ρ1 x => .ok ρ1 (.fz (.bool !x))
def rIfE (c : RT) (a b : RE) : RE := fun ρ => (c ρ).bind fun ρ1 x => if x = true then a ρ1 else b ρ1
theorem se_andV (ha : SE K B w ta ra) (hb : SE K B w tb rb) : SE K B w (tAndV ta tb) (rAndV ra rb) := fun σ H M W ρ Q s k =>
 st_test ha σ H M W ρ (fun x H1 => if x = true then tb σ H1 Q else Q (.bl false) H1) s (KG.bind (Rel := RelEq) k fun ρ1 x b M1 W1 H1 _ g1 s1 h1 k1 => by
  have h1 : x = b := h1
  subst h1
  cases x with
  | true => rw [if_pos rfl] at k1 ⊢; exact hb σ H1 M1 W1 ρ1 _ s1 k1
  | false => rw [if_neg Bool.false_ne_true] at k1 ⊢; exact k1 _ _ _ _ (Gr.refl _ _) s1 (Rp.bl false))
theorem se_orV (ha : SE K B w ta ra) (hb : SE K B w tb rb) : SE K B w (tOrV ta tb) (rOrV ra rb) := fun σ H M W ρ Q s k =>
 st_test ha σ H M W ρ (fun x H1 => if x = true then Q (.bl true) H1 else tb σ H1 Q) s (KG.bind (Rel := RelEq) k fun ρ1 x b M1 W1 H1 _ g1 s1 h1 k1 => by
  have h1 : x = b := h1
  subst h1
  cases x with
  | true => rw [if_pos rfl] at k1 ⊢; exact k1 _ _ _ _ (Gr.refl _ _) s1 (Rp.bl true)
  | false => rw [if_neg Bool.false_ne_true] at k1 ⊢; exact hb σ H1 M1 W1 ρ1 _ s1 k1)
theorem se_notV (ha : SE K B w ta ra) : SE K B w (tNotV ta) (rNotV ra) := fun σ H M W ρ Q s k =>
 st_test ha σ H M W ρ (fun x H1 => Q (.bl !x) H1) s (KG.bind (Rel := RelEq) k fun ρ1 x b M1 W1 H1 _ g1 s1 h1 k1 => by
  have h1 : x = b := h1
  subst h1
  exact k1 _ _ _ _ (Gr.refl _ _) s1 (Rp.bl _))
theorem se_ifE {tc : TT} {rc : RT} (hc : STt K B w tc rc) (ha : SE K B w ta ra) (hb : SE K B w tb rb) : SE K B w (tIf tc ta tb) (rIfE rc ra rb) := fun σ H M W ρ Q s k =>
 hc σ H M W ρ _ s (KG.bind (Rel := RelEq) k fun ρ1 x b M1 W1 H1 _ g1 s1 h1 k1 => by
  have h1 : x = b := h1
  subst h1
  cases x with
  | true => rw [if_pos rfl] at k1 ⊢; exact ha σ H1 M1 W1 ρ1 _ s1 k1
  | false => rw [if_neg Bool.false_ne_true] at k1 ⊢; exact hb σ H1 M1 W1 ρ1 _ s1 k1)
end
end Vm
namespace Vm
open PySem PySem.Spec PyProof.Rows L2 Fz
def FlK (K : PySem.W.Frag) (B : Bx) (M W H : Hp) (ρ : Env) (σ : L2.St) (D : Ends) : Fl → Prop
 | .nx => D.nx σ H
 | .bk => D.bk σ H
 | .ct => D.ct σ H
 | .rt tp => ∀ v, TpOk K B M W H ρ σ tp v → D.rt v H
def KS (K : PySem.W.Frag) (B : Bx) (M W : Hp) (w : WX) (D : Ends) (o : Out Fl) : Prop := match o with
 | .stk => False
 | .ok ρ fl => ∀ σ' M' W' H', Gr M W M' W' → St K B M' W' H' ρ σ' → FlK K B M' W' H' ρ σ' D fl
 | .er ρ x => ∀ σ' d M' W' H', Gr M W M' W' → St K B M' W' H' ρ σ' → XOk K M' x d → w (clsOf K x.cls) d σ' H'
def SS (K : PySem.W.Frag) (B : Bx) (w : WX) (t : TS) (r : RS) : Prop := ∀ (D : Ends) (σ : L2.St) (H M W : Hp) (ρ : Env), St K B M W H ρ σ → KS K B M W w D (r ρ) → t D σ H
section
variable {K : PySem.W.Frag} {B : Bx} {M W H M' W' H' : Hp} {ρ ρ' : Env} {σ σ' : L2.St} {w : WX} {D : Ends} {α β : Type}
theorem KS.up {o : Out Fl} (gr : Gr M W M' W') (k : KS K B M W w D o) : KS K B M' W' w D o := by
 cases o with
 | stk => exact k
 | ok ρ a => exact fun σ' M2 W2 H2 g2 s2 => k σ' M2 W2 H2 (gr.trans g2) s2
 | er ρ x => exact fun σ' d M2 W2 H2 g2 s2 r2 => k σ' d M2 W2 H2 (gr.trans g2) s2 r2
theorem KS.bind {Rel : Hp → Hp → Hp → Env → α → β → Prop} {o : Out α} {kf : Env → α → Out Fl} {Q' : β → Hp → Prop} (k : KS K B M W w D (o.bind kf))
  (h : ∀ ρ' a b M' W' H', o = .ok ρ' a → Gr M W M' W' → St K B M' W' H' ρ' σ → Rel M' W' H' ρ' a b → KS K B M' W' w D (kf ρ' a) → Q' b H') : KG K B M W σ w Rel o Q' := by
 cases o with
 | stk => exact k
 | ok ρ a => exact fun b M2 W2 H2 g2 s2 r2 => h ρ a b M2 W2 H2 rfl g2 s2 r2 (KS.up g2 k)
 | er ρ x => exact fun d M2 W2 H2 g2 s2 r2 => k σ d M2 W2 H2 g2 s2 r2
end
def rSeq (a b : RS) : RS := fun ρ => match a ρ with
 | .ok ρ1 .nx => b ρ1
 | o => o
def rNext : RS := fun ρ => .ok ρ .nx
def rIf (c : RT) (a b : RS) : RS := fun ρ => (c ρ).bind fun ρ1 x => if x = true then a ρ1 else b ρ1
def rDrop (e : RE) : RS := fun ρ => (e ρ).bind fun ρ1 _ => .ok ρ1 .nx
def pinned (ρ : Env) (i : Nat) : Bool := match ρ[i]? with
 | some (some (.o _ true, _)) => true
 | some (some (.q true, _)) => true
 | _ => false
def asg (ρ : Env) (i : Nat) (tp : Tp) : Option Env := if pinned ρ i = true then none else match tp with
 | .ow u d => some (ρ.set i (some (.o u false, d)))
 | .tr d => some (ρ.set i (some (.q false, d)))
 | tp => match stF ρ tp with
  | some (ρ1, d) => some (ρ1.set i (some (.f, d)))
  | none => none
def rAsg (e : RE) (i : Nat) : RS := fun ρ => (e ρ).bind fun ρ1 tp => match asg ρ1 i tp with
 | some ρ2 => .ok ρ2 .nx
 | none => .stk
def rtT (ρ : Env) : Tp → Option (Env × Tp)
 | .sl i => match ρ[i]? with
  | some (some (.f, d)) => some (ρ, .fz d)
  | some (some (.o u false, d)) => some (ρ.set i none, .ow u d)
  | some (some (.q false, d)) => some (ρ.set i none, .tr d)
  | _ => none
 | tp => some (ρ, tp)
def rRet (e : RE) : RS := fun ρ => (e ρ).bind fun ρ1 tp => match rtT ρ1 tp with
 | some (ρ2, tp2) => .ok ρ2 (.rt tp2)
 | none => .stk
def rWhile (c : RT) (b : RS) : Nat → RS
 | 0 => fun _ => .stk
 | n + 1 => fun ρ => (c ρ).bind fun ρ1 x => if x = true then (match b ρ1 with
   | .ok ρ2 .nx => rWhile c b n ρ2
   | .ok ρ2 .ct => rWhile c b n ρ2
   | .ok ρ2 .bk => .ok ρ2 .nx
   | o => o) else .ok ρ1 .nx
section
variable {K : PySem.W.Frag} {B : Bx} {w : WX} {t ta tb : TE} {r ra rb : RE} {tA : TA} {rA : RA} {ts us : TS} {rs qs : RS}
theorem ss_seq (h1 : SS K B w ts rs) (h2 : SS K B w us qs) : SS K B w (tSeq ts us) (rSeq rs qs) := fun D σ H M W ρ s k => by
 refine h1 { D with nx := us D } σ H M W ρ s ?_
 unfold rSeq at k
 cases e : rs ρ with
 | stk => rw [e] at k; exact k
 | er ρ1 x => rw [e] at k; exact k
 | ok ρ1 fl =>
  rw [e] at k
  cases fl with
  | nx => exact fun σ' M' W' H' gr st => h2 D σ' H' M' W' ρ1 st (KS.up gr k)
  | bk => exact k
  | ct => exact k
  | rt tp => exact k
theorem ss_next : SS K B w tNext rNext := fun D σ H M W ρ s k => k σ M W H (Gr.refl _ _) s
theorem ss_cont : SS K B w tCont (fun ρ => .ok ρ .ct) := fun D σ H M W ρ s k => k σ M W H (Gr.refl _ _) s
theorem ss_if {tc : TT} {rc : RT} (hc : STt K B w tc rc) (h1 : SS K B w ts rs) (h2 : SS K B w us qs) : SS K B w (tIfS tc ts us) (rIf rc rs qs) := fun D σ H M W ρ s k =>
 hc σ H M W ρ _ s (KS.bind (Rel := RelEq) k fun ρ1 x b M1 W1 H1 _ g1 s1 e1 k1 => by
  have e1 : x = b := e1
  subst e1
  cases x with
  | true => rw [if_pos rfl] at k1 ⊢; exact h1 D σ H1 M1 W1 ρ1 s1 k1
  | false => rw [if_neg Bool.false_ne_true] at k1 ⊢; exact h2 D σ H1 M1 W1 ρ1 s1 k1)
theorem ss_drop (h : SE K B w t r) : SS K B w (tDrop t) (rDrop r) := fun D σ H M W ρ s k =>
 h σ H M W ρ _ s (KS.bind k fun ρ1 tp v M1 W1 H1 _ g1 s1 h1 k1 => k1 σ M1 W1 H1 (Gr.refl _ _) s1)
theorem apart_set {M H : Hp} {ρ : Env} {σ : L2.St} {i : Nat} {v : Option V} {x : Addr} (ap : Apart K M H ρ σ x) : Apart K M H (ρ.set i none) (σ.set i v) x := fun j g d b F q z f => by
 obtain ⟨hj, q⟩ := set_none_get q
 rw [List.getElem?_set_ne (Ne.symm hj)] at z
 exact ap j g d b F q z f
theorem asg_ok {M W H : Hp} {ρ ρ' : Env} {σ : L2.St} {tp : Tp} {v : V} {i : Nat} (s : St K B M W H ρ σ) (h : TpOk K B M W H ρ σ tp v) (e : asg ρ i tp = some ρ') : ∃ M' W', Gr M W M' W' ∧ St K B M' W' H ρ' (σ.set i (some v)) := by
 unfold asg at e
 split at e
 ·exact nomatch e
 have fz : ∀ {ρ1 : Env} {d : D}, stF ρ tp = some (ρ1, d) → ∃ M' W', Gr M W M' W' ∧ St K B M' W' H (ρ1.set i (some (.f, d))) (σ.set i (some v)) := fun {ρ1 d} e1 => by
  obtain ⟨M1, W1, g1, s1, r1, _⟩ := stF_ok s h e1
  exact ⟨M1, W1, g1, St.set (s1.wipe1 i (some v)) (g := .f) r1 (fun _ z => nomatch z) (fun _ q => absurd q Bool.false_ne_true)⟩
 cases tp with
 | ow u d =>
  cases e
  obtain ⟨a, o, rfl, h1, h2, h3, h4⟩ := h
  refine ⟨M, W, Gr.refl _ _, St.set (s.wipe1 i (some (.ref a))) (g := .o u false) ⟨a, o, rfl, h1, h2, h3, fun q => nomatch q⟩ (fun _ z => nomatch z) (fun b _ q => ?_)⟩
  cases q
  exact apart_set h4
 | tr d =>
  cases e
  obtain ⟨a, F, rfl, h1, h2, h3, h4⟩ := h
  refine ⟨M, W, Gr.refl _ _, St.setG (s.wipe1 i (some (.ref a))) (g := .q false) ⟨a, F, rfl, h1, h2, h3, fun q => nomatch q⟩ (fun b G q f => ?_)⟩
  cases q
  have := h1.uniq (.of (Same.refl _)) f
  subst this
  exact fun x hx => apart_set (h4 x hx)
 | fz d =>
  cases e
  exact fz rfl
 | sl j =>
  dsimp only at e
  cases e1 : stF ρ (.sl j) with
  | none => rw [e1] at e; exact nomatch e
  | some x =>
   obtain ⟨ρ1, d⟩ := x
   rw [e1] at e
   cases e
   exact fz e1
theorem ss_asg {i : Nat} (h : SE K B w t r) : SS K B w (tAsg t (gName i)) (rAsg r i) := fun D σ H M W ρ s k =>
 h σ H M W ρ _ s (KS.bind k fun ρ1 tp v M1 W1 H1 _ g1 s1 h1 k1 => by
  cases e : asg ρ1 i tp with
  | none => rw [e] at k1; exact False.elim k1
  | some ρ2 =>
   rw [e] at k1
   obtain ⟨M2, W2, g2, s2⟩ := asg_ok s1 h1 e
   exact k1 _ M2 W2 H1 g2 s2)
theorem ss_ret (h : SE K B w t r) : SS K B w (tRet t) (rRet r) := fun D σ H M W ρ s k =>
 h σ H M W ρ _ s (KS.bind k fun ρ1 tp v M1 W1 H1 _ g1 s1 h1 k1 => by
  cases tp with
  | fz d => exact k1 σ M1 W1 H1 (Gr.refl _ _) s1 v h1
  | ow u d => exact k1 σ M1 W1 H1 (Gr.refl _ _) s1 v h1
  | tr d => exact k1 σ M1 W1 H1 (Gr.refl _ _) s1 v h1
  | sl i =>
   have hσ : σ[i]? = some (some v) := h1
   unfold rtT at k1
   dsimp only at k1
   split at k1
   ·rename_i ρ2 tp2 e
    split at e
    ·rename_i d hr
     cases e
     obtain ⟨v', q1, q2⟩ := s1.sl i _ _ hr
     rw [hσ] at q1; cases q1
     exact k1 σ M1 W1 H1 (Gr.refl _ _) s1 v q2
    ·rename_i u d hr
     cases e
     obtain ⟨v', q1, q2⟩ := s1.sl i _ _ hr
     rw [hσ] at q1; cases q1
     obtain ⟨a, o, rfl, p1, p2, p3, _⟩ := q2
     exact k1 σ M1 W1 H1 (Gr.refl _ _) (s1.forget i) _ ⟨a, o, rfl, p1, p2, p3, apart_forget s1 (g := .o u false) rfl hr hσ⟩
    ·rename_i d hr
     cases e
     obtain ⟨v', q1, q2⟩ := s1.sl i _ _ hr
     rw [hσ] at q1; cases q1
     obtain ⟨a, F, rfl, p1, p2, p3, _⟩ := q2
     exact k1 σ M1 W1 H1 (Gr.refl _ _) (s1.forget i) _ ⟨a, F, rfl, p1, p2, p3, apart_forgetG s1 (g := .q false) hr hσ p1⟩
    ·exact nomatch e
   ·exact False.elim k1)
theorem ss_while {tc : TT} {rc : RT} {n : Nat} (hc : STt K B w tc rc) (hb : SS K B w ts rs) : SS K B w (tWhile tc ts) (rWhile rc rs n) := fun D σ H M W ρ s k => by
 refine ⟨fun m σ H => ∃ ρ M' W', Gr M W M' W' ∧ St K B M' W' H ρ σ ∧ KS K B M' W' w D (rWhile rc rs m ρ), ⟨n, ρ, M, W, Gr.refl _ _, s, k⟩, ?_⟩
 rintro m σ H ⟨ρ, M1, W1, g1, s1, k1⟩
 cases m with
 | zero => exact False.elim k1
 | succ m =>
  refine hc σ H M1 W1 ρ _ s1 (KS.bind (Rel := RelEq) k1 fun ρ2 x b M2 W2 H2 _ g2 s2 e2 k2 => ?_)
  have e2 : x = b := e2
  subst e2
  cases x with
  | false => rw [if_neg Bool.false_ne_true] at k2 ⊢; exact k2 σ M2 W2 H2 (Gr.refl _ _) s2
  | true =>
   rw [if_pos rfl] at k2 ⊢
   refine ⟨fun σ H => ∃ ρ M' W', Gr M W M' W' ∧ St K B M' W' H ρ σ ∧ KS K B M' W' w D (rWhile rc rs m ρ), fun σ' H' h => ⟨m, Nat.lt_succ_self _, h⟩, ?_⟩
   refine hb _ σ H2 M2 W2 ρ2 s2 ?_
   cases e : rs ρ2 with
   | stk => rw [e] at k2; exact k2
   | er ρ3 x => rw [e] at k2; exact k2
   | ok ρ3 fl =>
    rw [e] at k2
    cases fl with
    | nx => exact fun σ' M' W' H' gr st => ⟨ρ3, M', W', (g1.trans g2).trans gr, st, KS.up gr k2⟩
    | ct => exact fun σ' M' W' H' gr st => ⟨ρ3, M', W', (g1.trans g2).trans gr, st, KS.up gr k2⟩
    | bk => exact fun σ' M' W' H' gr st => k2 σ' M' W' H' gr st
    | rt tp => exact k2
end
def SG (K : PySem.W.Frag) (B : Bx) (g : TG) (f : Env → D → Option Env) : Prop := ∀ (σ : L2.St) (H M W : Hp) (ρ ρ' : Env) (v : V) (d : D) (Q : L2.St → Hp → Prop), St K B M W H ρ σ → Rp K M v d → f ρ d = some ρ' → (∀ σ', St K B M W H ρ' σ' → Q σ' H) → g v σ H Q
def fName (i : Nat) (ρ : Env) (d : D) : Option Env := if pinned ρ i = true then none else some (ρ.set i (some (.f, d)))
def fNil (ρ : Env) (ds : List D) : Option Env := match ds with
 | [] => some ρ
 | _ => none
def fCons (f : Env → D → Option Env) (fs : Env → List D → Option Env) (ρ : Env) (ds : List D) : Option Env := match ds with
 | [] => none
 | d :: ds => match f ρ d with
  | some ρ1 => fs ρ1 ds
  | none => none
def fTup (n : Nat) (fs : Env → List D → Option Env) (ρ : Env) (d : D) : Option Env := match d with
 | .tuple ds => if ds.length = n then fs ρ ds else none
 | _ => none
section
variable {K : PySem.W.Frag} {B : Bx} {w : WX} {t : TE} {r : RE}
theorem sg_name {i : Nat} : SG K B (gName i) (fName i) := fun σ H M W ρ ρ' v d Q s h e q => by
 unfold fName at e
 split at e
 ·exact nomatch e
 ·cases e
  exact q _ (St.set (s.wipe1 i (some v)) (g := .f) h (fun _ z => nomatch z) (fun _ q => absurd q Bool.false_ne_true))
def rAsgG (e : RE) (f : Env → D → Option Env) : RS := fun ρ => (e ρ).bind fun ρ1 tp => match stF ρ1 tp with
 | some (ρ2, d) => match f ρ2 d with
  | some ρ3 => .ok ρ3 .nx
  | none => .stk
 | none => .stk
end
def ItOk (K : PySem.W.Frag) (B : Bx) (M : Hp) (J : It) (ds : List D) : Prop := ∀ M2 H2, Same M M2 → Same M2 H2 → Same B.b H2 → J.stop ds.length H2 ∧ ∀ (i : Nat) (d : D), ds[i]? = some d → J.go i H2 ∧ ∀ x H3, J.yld i H2 x H3 → (H3 = H2 ∧ Rp K M2 x d) ∨ (∃ a xs, H2 a = none ∧ H3 = upd H2 a (.tup xs) ∧ Rp K (upd M2 a (.tup xs)) x d) ∨ ∃ a xs, H2 a = some (.tup xs) ∧ H3 = H2 ∧ Rp K (upd M2 a (.tup xs)) x d
def SI (K : PySem.W.Frag) (B : Bx) (w : WX) (t : TI) (r : Env → Out (List D)) : Prop := ∀ (σ : L2.St) (H M W : Hp) (ρ : Env) (R : It → Hp → Prop), St K B M W H ρ σ → KG K B M W σ w (fun M' _ _ _ ds J => ItOk K B M' J ds) (r ρ) R → t σ H R
def rLoop (f : Env → D → Option Env) (b : RS) : List D → RS
 | [] => fun ρ => .ok ρ .nx
 | d :: ds => fun ρ => match f ρ d with
  | none => .stk
  | some ρ1 => match b ρ1 with
   | .ok ρ2 .nx => rLoop f b ds ρ2
   | .ok ρ2 .ct => rLoop f b ds ρ2
   | .ok ρ2 .bk => .ok ρ2 .nx
   | o => o
def rFor (ri : Env → Out (List D)) (f : Env → D → Option Env) (b : RS) : RS := fun ρ => (ri ρ).bind fun ρ1 ds => rLoop f b ds ρ1
section
variable {K : PySem.W.Frag} {B : Bx} {w : WX} {ts : TS} {rs : RS}
theorem St.tupF {M W H : Hp} {ρ : Env} {σ : L2.St} {a : Addr} {xs : List V} (s : St K B M W H ρ σ) (h : H a = some (.tup xs)) : Gr M W (upd M a (.tup xs)) (upd W a (.tup xs)) ∧ St K B (upd M a (.tup xs)) (upd W a (.tup xs)) H ρ σ := by
 have sm : ∀ {G : Hp}, Same G H → Same G (upd G a (.tup xs)) := fun {G} g b u e => by
  by_cases hb : b = a
  ·subst hb
   have := g _ _ e
   rw [h] at this; cases this
   exact upd_same
  ·rw [upd_ne hb]; exact e
 have gr : Gr M W (upd M a (.tup xs)) (upd W a (.tup xs)) := ⟨sm s.mh, sm s.wh, fun b o e m q => by
  by_cases hb : b = a
  ·subst hb
   have := s.wh _ _ e
   rw [h] at this; cases this
   exact False.elim m
  ·rw [upd_ne hb]; exact q⟩
 refine ⟨gr, ⟨s.bw.trans gr.w, same_upd2 s.mw, fun b u e => ?_, s.ln, fun i g d e => ?_, s.spUpN (.of gr.m) (fun _ _ _ h => h), s.tb.frz fun _ z => nomatch z⟩⟩
 ·by_cases hb : b = a
  ·subst hb; rw [upd_same] at e; cases e; exact h
  ·rw [upd_ne hb] at e; exact s.wh _ _ e
 ·obtain ⟨v, h1, h2⟩ := s.sl i g d e
  refine ⟨v, h1, ?_⟩
  cases g with
  | f => exact Rp.mono gr.m h2
  | b => exact R1.mono (Same.refl _) gr.m h2
  | s => exact h2
  | e => first | exact h2 | (obtain ⟨_, _, _, e1, e2, e0, e3⟩ := h2; exact ⟨_, _, _, e1, e2, e0, e3.mono gr.m⟩)
  | l => first | exact h2 | exact ⟨h2.1, h2.2.mono gr.m⟩
  | o u p =>
   obtain ⟨a', o', rfl, q1, q2, q3, q4⟩ := h2
   have : a' ≠ a := fun z => by
    subst z
    rw [h] at q1; cases q1
    exact q2.mut
   exact ⟨a', o', rfl, q1, q2.mono gr.m, by rw [upd_ne this]; exact q3, q4⟩
  | q p =>
   obtain ⟨a', F, rfl, q1, q2, q3, q4⟩ := h2
   exact ⟨a', F, rfl, q1.lq (.of gr.m) (fun _ _ _ h => h), q2, fun x hx => by
    obtain ⟨o, e1, e2⟩ := q1.cell x hx
    have : x ≠ a := fun z => by
     subst z
     rw [h] at e1; cases e1
     exact e2
    rw [upd_ne this]; exact q3 x hx, q4⟩
theorem item_ok {M W H H3 : Hp} {ρ : Env} {σ : L2.St} {x : V} {d : D} (s : St K B M W H ρ σ) (h : (H3 = H ∧ Rp K M x d) ∨ (∃ a xs, H a = none ∧ H3 = upd H a (.tup xs) ∧ Rp K (upd M a (.tup xs)) x d) ∨ ∃ a xs, H a = some (.tup xs) ∧ H3 = H ∧ Rp K (upd M a (.tup xs)) x d) : ∃ M' W', Gr M W M' W' ∧ St K B M' W' H3 ρ σ ∧ Rp K M' x d := by
 rcases h with ⟨rfl, h⟩ | ⟨a, o, ha, rfl, h⟩ | ⟨a, xs, ha, rfl, h⟩
 ·exact ⟨M, W, Gr.refl _ _, s, h⟩
 ·obtain ⟨gr, s'⟩ := s.newF (o := .tup o) ha fun _ z => nomatch z
  exact ⟨_, _, gr, s', h⟩
 ·obtain ⟨gr, s'⟩ := s.tupF ha
  exact ⟨_, _, gr, s', h⟩
theorem ss_for {wi : TI} {g : TG} {ri : Env → Out (List D)} {f : Env → D → Option Env} (hi : SI K B w wi ri) (hg : SG K B g f) (hb : SS K B w ts rs) : SS K B w (tFor wi g ts) (rFor ri f rs) := fun D σ H M W ρ s k =>
 hi σ H M W ρ _ s (KS.bind k fun ρ1 ds J M1 W1 H1 _ g1 s1 hJ k1 => by
  refine ⟨fun i m σ H => ∃ ρ M' W', Gr M1 W1 M' W' ∧ St K B M' W' H ρ σ ∧ i ≤ ds.length ∧ m = ds.length - i ∧ KS K B M' W' w D (rLoop f rs (ds.drop i) ρ), ⟨ds.length, ρ1, M1, W1, Gr.refl _ _, s1, Nat.zero_le _, by simp, by simpa using k1⟩, ?_⟩
  rintro i m σ H ⟨ρ2, M2, W2, g2, s2, hin, rfl, k2⟩
  obtain ⟨w1, w2⟩ := hJ M2 H g2.m s2.mh (s2.bw.trans s2.wh)
  rcases Nat.lt_or_ge i ds.length with hlt | hge
  ·obtain ⟨w3, w4⟩ := w2 i ds[i] (List.getElem?_eq_getElem hlt)
   refine .inr ⟨w3, fun σ H => ∃ ρ M' W', Gr M1 W1 M' W' ∧ St K B M' W' H ρ σ ∧ KS K B M' W' w D (rLoop f rs (ds.drop (i + 1)) ρ), fun σ' H' ⟨ρ', M', W', q1, q2, q3⟩ => ⟨ds.length - (i + 1), by omega, ρ', M', W', q1, q2, hlt, rfl, q3⟩, fun x H3 y => ?_⟩
   obtain ⟨M3, W3, g3, s3, r3⟩ := item_ok s2 (w4 x H3 y)
   rw [List.drop_eq_getElem_cons hlt] at k2
   unfold rLoop at k2
   cases e : f ρ2 ds[i] with
   | none => rw [e] at k2; exact False.elim k2
   | some ρ3 =>
    rw [e] at k2
    dsimp only at k2
    refine hg σ H3 M3 W3 ρ2 ρ3 x ds[i] _ s3 r3 e fun σ4 s4 => hb _ σ4 H3 M3 W3 ρ3 s4 ?_
    cases e2 : rs ρ3 with
    | stk => rw [e2] at k2; exact k2
    | er ρ5 z => rw [e2] at k2; exact KS.up g3 (o := .er ρ5 z) k2
    | ok ρ5 fl =>
     rw [e2] at k2
     cases fl with
     | nx => exact fun σ' M' W' H' gr st => ⟨ρ5, M', W', (g2.trans g3).trans gr, st, KS.up (g3.trans gr) k2⟩
     | ct => exact fun σ' M' W' H' gr st => ⟨ρ5, M', W', (g2.trans g3).trans gr, st, KS.up (g3.trans gr) k2⟩
     | bk => exact fun σ' M' W' H' gr st => k2 σ' M' W' H' (g3.trans gr) st
     | rt tp => exact fun σ' M' W' H' gr st => k2 σ' M' W' H' (g3.trans gr) st
  ·have e : i = ds.length := by omega
   subst e
   rw [List.drop_length] at k2
   exact .inl ⟨w1, k2 σ M2 W2 H (Gr.refl _ _) s2⟩)
end
end Vm
namespace Vm
open PySem PySem.Spec PyProof.Rows L2 Fz
def wipeE (ρ : Env) : List Nat → Env
 | [] => ρ
 | v :: vs => (wipeE ρ vs).set v none
section
variable {K : PySem.W.Frag} {B : Bx} {M W H M' W' H' : Hp} {ρ ρ' : Env} {σ σ' : L2.St} {w : WX}
theorem St.wipes (s : St K B M W H ρ σ) : ∀ vs : List Nat, St K B M W H (wipeE ρ vs) (wipe σ vs)
 | [] => s
 | v :: vs => (s.wipes vs).wipe1 v none
theorem wipeE_get (ρ : Env) (i : Nat) : ∀ vs : List Nat, (wipeE ρ vs)[i]? = if i ∈ vs then (ρ[i]?).map (fun _ => none) else ρ[i]?
 | [] => by simp [wipeE]
 | v :: vs => by
  have ih := wipeE_get ρ i vs
  have ln : ∀ vs : List Nat, (wipeE ρ vs).length = ρ.length := by
   intro vs
   induction vs with
   | nil => rfl
   | cons v vs ih => unfold wipeE; rw [List.length_set, ih]
  unfold wipeE
  by_cases h : i = v
  ·subst h
   rw [if_pos List.mem_cons_self]
   by_cases hl : i < ρ.length
   ·rw [List.getElem?_set_self (by rw [ln]; exact hl), List.getElem?_eq_getElem hl]; rfl
   ·rw [List.getElem?_eq_none (by rw [List.length_set, ln]; omega), List.getElem?_eq_none (by omega)]; rfl
  ·rw [List.getElem?_set_ne (Ne.symm h), ih]
   by_cases h2 : i ∈ vs
   ·rw [if_pos h2, if_pos (List.mem_cons_of_mem _ h2)]
   ·rw [if_neg h2, if_neg (by simp [h, h2])]
theorem St.unwipe {vs : List Nat} (s : St K B M W H ρ σ') (e : wipe σ' vs = wipe σ vs) : St K B M W H (wipeE ρ vs) σ := by
 have gt : ∀ {j : Nat} {g : Fg} {d : D}, (wipeE ρ vs)[j]? = some (some (g, d)) → ρ[j]? = some (some (g, d)) ∧ σ'[j]? = σ[j]? := fun {j g d} q => by
  rw [wipeE_get] at q
  by_cases h : j ∈ vs
  ·rw [if_pos h] at q
   cases e : ρ[j]? with
   | none => rw [e] at q; exact nomatch q
   | some x => rw [e] at q; exact nomatch q
  ·rw [if_neg h] at q
   have e2 : (L2.wipe σ' vs)[j]? = (L2.wipe σ vs)[j]? := by rw [e]
   rw [wipe_get, wipe_get, if_neg h, if_neg h] at e2
   exact ⟨q, e2⟩
 have ln : ∀ vs : List Nat, (wipeE ρ vs).length = ρ.length := by
  intro vs
  induction vs with
  | nil => rfl
  | cons v vs ih => unfold wipeE; rw [List.length_set, ih]
 refine ⟨s.bw, s.mw, s.wh, ?_, fun j g d q => ?_, fun j k g h d e a b F G hjk e1 e2 q1 q2 => ?_, s.tb⟩
 ·rw [ln, s.ln]
  have := congrArg List.length e
  rw [wipe_length, wipe_length] at this
  exact this
 ·obtain ⟨q, e1⟩ := gt q
  rw [← e1]
  exact s.sl j g d q
 ·obtain ⟨f1, p1⟩ := gt e1
  obtain ⟨f2, p2⟩ := gt e2
  exact s.sp j k g h d e a b F G hjk f1 f2 (by rw [p1]; exact q1) (by rw [p2]; exact q2)
end
def SGv (K : PySem.W.Frag) (B : Bx) (g : TG) (f : Env → D → Option Env) (vs : List Nat) : Prop := ∀ (σ : L2.St) (H M W : Hp) (ρ ρ' : Env) (v : V) (d : D) (Q : L2.St → Hp → Prop), St K B M W H ρ σ → Rp K M v d → f ρ d = some ρ' → (∀ σ', wipe σ' vs = wipe σ vs → St K B M W H ρ' σ' → Q σ' H) → g v σ H Q
def Out.dry {α : Type} (o : Out α) : Out α := match o with
 | .er _ _ => .stk
 | o => o
def rComp (f : Env → D → Option Env) (rt : RT) (re : RE) (vs : List Nat) : List D → List D → Env → Out (List D)
 | [], acc, ρ => .ok ρ acc
 | d :: ds, acc, ρ => match f (wipeE ρ vs) d with
  | none => .stk
  | some ρ1 => (rt ρ1).dry.bind fun ρ2 x => if x = true then (re ρ2).dry.bind fun ρ3 tp => match stF ρ3 tp with
    | some (ρ4, e) => if acc.length < sizeLine then rComp f rt re vs ds (acc ++ [e]) (wipeE ρ4 vs) else .stk
    | none => .stk
   else rComp f rt re vs ds acc (wipeE ρ2 vs)
def rLc (ri : Env → Out (List D)) (f : Env → D → Option Env) (rt : RT) (re : RE) (vs : List Nat) : RE := fun ρ => (ri ρ).bind fun ρ1 ds => (rComp f rt re vs ds [] ρ1).bind fun ρ2 es => .ok ρ2 (.ow false (.list es))
section
variable {K : PySem.W.Frag} {B : Bx} {w : WX} {vs : List Nat}
theorem sgv_name {i : Nat} (hi : i ∈ vs) : SGv K B (gName i) (fName i) vs := fun σ H M W ρ ρ' v d Q s h e q => by
 unfold fName at e
 split at e
 ·exact nomatch e
 ·cases e
  exact q _ (wipe_set hi) (St.set (s.wipe1 i (some v)) (g := .f) h (fun _ z => nomatch z) (fun _ q => absurd q Bool.false_ne_true))
theorem se_lc {wi : TI} {g : TG} {tt : TT} {te : TE} {ri : Env → Out (List D)} {f : Env → D → Option Env} {rt : RT} {re : RE} {w1 w2 : WX} (hi : SI K B w wi ri) (hg : SGv K B g f vs) (ht : STt K B w1 tt rt) (he : SE K B w2 te re) : SE K B w (tLc wi g tt te vs) (rLc ri f rt re vs) := fun σ H M W ρ Q s k =>
 hi σ H M W ρ _ s (KG.bind k fun ρ1 ds J M1 W1 H1 _ g1 s1 hJ k1 => by
  intro Dl hD
  obtain ⟨s1', t1'⟩ := s1.newO (u := false) (o := .lst []) (d := .list []) hD .nil
  let Inv : Nat → Hp → Prop := fun i H => ∃ (ρ : Env) (M' W' : Hp) (acc : List D), Gr M1 W1 M' W' ∧ St K B M' W' H ρ σ ∧ TpOk K B M' W' H ρ σ (.ow false (.list acc)) (.ref Dl) ∧
   KG K B M' W' σ w (RelV1 K B σ) ((rComp f rt re vs (ds.drop i) acc ρ).bind fun ρ2 es => .ok ρ2 (.ow false (.list es))) Q
  refine ⟨fun i m H => i ≤ ds.length ∧ m = ds.length - i ∧ Inv i H, ⟨ds.length, Nat.zero_le _, by simp, ρ1, M1, W1, [], Gr.refl _ _, s1', t1', by simpa using k1⟩, ?_⟩
  rintro i m H ⟨hin, rfl, ρ2, M2, W2, acc, g2, s2, t2, k2⟩
  obtain ⟨w1, w2⟩ := hJ M2 H g2.m s2.mh (s2.bw.trans s2.wh)
  rcases Nat.lt_or_ge i ds.length with hlt | hge
  ·obtain ⟨w3, w4⟩ := w2 i ds[i] (List.getElem?_eq_getElem hlt)
   refine .inr ⟨w3, Inv (i + 1), fun H' h => ⟨ds.length - (i + 1), by omega, hlt, rfl, h⟩, fun x H3 y => ?_⟩
   obtain ⟨Wp, sp, pd⟩ := pend s2 t2
   obtain ⟨M3, W3, g3, s3, r3⟩ := item_ok sp (w4 x H3 y)
   rw [List.drop_eq_getElem_cons hlt] at k2
   unfold rComp at k2
   cases e : f (wipeE ρ2 vs) ds[i] with
   | none => rw [e] at k2; exact False.elim k2
   | some ρ3 =>
    simp only [e] at k2
    refine hg (wipe σ vs) H3 M3 W3 (wipeE ρ2 vs) ρ3 x ds[i] _ (s3.wipes vs) r3 e fun σ4 p4 s4 => ?_
    have p5 : wipe σ4 vs = wipe σ vs := by rw [p4, wipe_wipe]
    refine ⟨p5, ht σ4 H3 M3 W3 ρ3 _ s4 ?_⟩
    cases e2 : rt ρ3 with
    | stk => simp only [e2, Out.dry, Out.bind] at k2; exact False.elim k2
    | er ρ4 z => simp only [e2, Out.dry, Out.bind] at k2; exact False.elim k2
    | ok ρ4 b =>
     simp only [e2, Out.dry, Out.bind] at k2
     intro b' M4 W4 H4 g4 s4' hb
     have hb : b = b' := hb
     subst hb
     cases b with
     | true =>
      rw [if_pos rfl]
      refine he σ4 H4 M4 W4 ρ4 _ s4' ?_
      cases e3 : re ρ4 with
      | stk => simp only [if_pos, e3] at k2; exact False.elim k2
      | er ρ5 z => simp only [if_pos, e3] at k2; exact False.elim k2
      | ok ρ5 tp =>
       simp only [if_pos, e3] at k2
       intro y M5 W5 H5 g5 s5 h5
       cases e4 : stF ρ5 tp with
       | none => simp only [e4] at k2; exact False.elim k2
       | some xx =>
        obtain ⟨ρ6, ed⟩ := xx
        simp only [e4] at k2
        obtain ⟨M6, W6, g6, s6, r6, _⟩ := stF_ok s5 h5 e4
        by_cases hl : acc.length < sizeLine
        ·rw [if_pos hl] at k2
         have gr := ((g3.trans g4).trans g5).trans g6
         obtain ⟨W7, g7, s7, _, t7⟩ := pd M6 W6 H5 (wipeE ρ6 vs) gr (s6.unwipe p5)
         obtain ⟨a, o, ea, q1, q2, q3, q4⟩ := t7
         cases ea
         cases o <;> first | exact False.elim q2 | skip
         rename_i accV
         have q2 : Rps K M6 accV acc := q2
         refine ⟨accV, q1, by rw [q2.length]; exact hl, wipeE ρ6 vs, M6, W7, acc ++ [ed], g2.trans g7, s7.turn q1 True.intro q3 q4, ⟨Dl, _, rfl, upd_same, ?_, q3, q4.turnd s7⟩, KG.up g7 k2⟩
         exact Rps.append q2 (.cons r6 .nil)
        ·rw [if_neg hl] at k2; exact False.elim k2
     | false =>
      rw [if_neg Bool.false_ne_true]
      simp only [Bool.false_eq_true, if_false] at k2
      have gr := g3.trans g4
      obtain ⟨W7, g7, s7, _, t7⟩ := pd M4 W4 H4 (wipeE ρ4 vs) gr (s4'.unwipe p5)
      exact ⟨wipeE ρ4 vs, M4, W7, acc, g2.trans g7, s7, t7, KG.up g7 k2⟩
  ·have e : i = ds.length := by omega
   subst e
   rw [List.drop_length] at k2
   exact .inl ⟨w1, k2 _ M2 W2 H (Gr.refl _ _) s2 t2⟩)
end
end Vm
namespace Vm
open PySem PySem.Spec PyProof.Rows L2 Fz
inductive FOut where
 | stk
 | ok (z : Rz) (io : Env)
 | er (x : Xn) (io : Env)
def ppOf (vs : List V) : Nat → Option Addr := fun i => match vs[i]? with
 | some (.ref a) => some a
 | _ => none
def spM (K : PySem.W.Frag) (T : List (Addr × Str)) (m : List (Fg × D) → FOut) : Sp := fun vs H Q E => ∃ (args : List (Fg × D)) (B0 M : Hp), St K ⟨B0, ppOf vs, fun _ => none, T⟩ M B0 H (args.map some) (vs.map some) ∧ match m args with
 | .stk => False
 | .ok z io => ∀ v M' W' H', Gr M B0 M' W' → St K ⟨B0, ppOf vs, fun _ => none, T⟩ M' W' H' io (vs.map some) → TpOk K ⟨B0, ppOf vs, fun _ => none, T⟩ M' W' H' io (vs.map some) z.tp v → Q v H'
 | .er x io => ∀ d M' W' H', Gr M B0 M' W' → St K ⟨B0, ppOf vs, fun _ => none, T⟩ M' W' H' io (vs.map some) → XOk K M' x d → E (clsOf K x.cls) d H'
def io1 : Option (Fg × D) → Option (Fg × D)
 | some (.o u true, d) => some (.o u true, d)
 | some (.q true, d) => some (.q true, d)
 | _ => none
def pinF : Fg → Bool
 | .o _ p => p
 | .q p => p
 | _ => false
def ioOf (np : Nat) (ρ : Env) : Env := (List.range np).map fun i => io1 (ρ.getD i none)
def endF (np : Nat) : Out Fl → FOut
 | .stk => .stk
 | .ok ρ .nx => .ok (.fz .none) (ioOf np ρ)
 | .ok ρ (.rt (.fz d)) => .ok (.fz d) (ioOf np ρ)
 | .ok ρ (.rt (.ow u d)) => .ok (.ow u d) (ioOf np ρ)
 | .ok ρ (.rt (.tr d)) => .ok (.tr d) (ioOf np ρ)
 | .ok _ _ => .stk
 | .er ρ x => .er x (ioOf np ρ)
def runFn (np n : Nat) (r : RS) (args : List (Fg × D)) : FOut := if args.length = np then endF np (r (args.map some ++ List.replicate (n - np) none)) else .stk
section
variable {K : PySem.W.Frag} {M W H : Hp} {ρ : Env} {σ : L2.St} {vs : List V} {B0 : Hp} {T : List (Addr × Str)}
theorem io1_some {x : Option (Fg × D)} {g : Fg} {d : D} (h : io1 x = some (g, d)) : pinF g = true ∧ x = some (g, d) := by
 unfold io1 at h
 split at h
 ·cases h; exact ⟨rfl, rfl⟩
 ·cases h; exact ⟨rfl, rfl⟩
 ·exact nomatch h
theorem io_get {np i : Nat} {g : Fg} {d : D} (h : (ioOf np ρ)[i]? = some (some (g, d))) : i < np ∧ pinF g = true ∧ ρ[i]? = some (some (g, d)) := by
 unfold ioOf at h
 rw [List.getElem?_map] at h
 rcases Nat.lt_or_ge i np with hl | hl
 ·rw [List.getElem?_range hl] at h
  refine ⟨hl, ?_⟩
  obtain ⟨h1, h2⟩ := io1_some (Option.some.inj h)
  refine ⟨h1, ?_⟩
  rw [List.getD_eq_getElem?_getD] at h2
  cases e : ρ[i]? with
  | none => rw [e] at h2; exact nomatch h2
  | some x => rw [e] at h2; rw [show x = some (g, d) from h2]
 ·rw [List.getElem?_eq_none (by rw [List.length_range]; exact hl)] at h; exact nomatch h
theorem SlOk.pin {B : Bx} {i : Nat} {g : Fg} {v : V} {d : D} (hg : pinF g = true) (h : SlOk K B M W H i g v d) : ∃ a, v = .ref a ∧ B.p i = some a := by
 cases g with
 | o u p => obtain ⟨a, o, e, _, _, _, p4⟩ := h; exact ⟨a, e, p4 hg⟩
 | q p => obtain ⟨a, o, e, _, _, _, p4⟩ := h; exact ⟨a, e, p4 hg⟩
 | _ => exact absurd hg Bool.false_ne_true
theorem io_key {np : Nat} (s : St K ⟨B0, ppOf vs, fun _ => none, T⟩ M W H ρ σ) {i : Nat} {g : Fg} {d : D} (q : (ioOf np ρ)[i]? = some (some (g, d))) : ∃ a, ρ[i]? = some (some (g, d)) ∧ σ[i]? = some (some (.ref a)) ∧ (vs.map some)[i]? = some (some (.ref a)) ∧ SlOk K ⟨B0, ppOf vs, fun _ => none, T⟩ M W H i g (.ref a) d := by
 obtain ⟨hi, hp, q'⟩ := io_get q
 obtain ⟨v, h1, h2⟩ := s.sl i _ _ q'
 obtain ⟨a, rfl, p5⟩ := h2.pin hp
 refine ⟨a, q', h1, ?_, h2⟩
 have p5 : ppOf vs i = some a := p5
 unfold ppOf at p5
 split at p5
 ·rename_i b e
  cases p5
  rw [List.getElem?_map, e]; rfl
 ·exact nomatch p5
theorem Apart.io {np : Nat} {x : Addr} (s : St K ⟨B0, ppOf vs, fun _ => none, T⟩ M W H ρ σ) (ap : Apart K M H ρ σ x) : Apart K M H (ioOf np ρ) (vs.map some) x := fun i g d b F q z f => by
 obtain ⟨a, r1, r2, r3, _⟩ := io_key s q
 rw [r3] at z; cases z
 exact ap i g d _ F r1 r2 f
theorem St.io {np : Nat} (hn : np = vs.length) (s : St K ⟨B0, ppOf vs, fun _ => none, T⟩ M W H ρ σ) : St K ⟨B0, ppOf vs, fun _ => none, T⟩ M W H (ioOf np ρ) (vs.map some) ∧ ∀ z v, TpOk K ⟨B0, ppOf vs, fun _ => none, T⟩ M W H ρ σ (Rz.tp z) v → TpOk K ⟨B0, ppOf vs, fun _ => none, T⟩ M W H (ioOf np ρ) (vs.map some) z.tp v := by
 refine ⟨⟨s.bw, s.mw, s.wh, ?_, fun i g d q => ?_, fun i j g h d e a b F G hij q1 q2 z1 z2 f1 f2 => ?_, s.tb⟩, fun z v h => ?_⟩
 ·unfold ioOf; rw [List.length_map, List.length_map, List.length_range]; exact hn
 ·obtain ⟨a, _, _, q3, q4⟩ := io_key s q
  exact ⟨_, q3, q4⟩
 ·obtain ⟨a', r1, r2, r3, _⟩ := io_key s q1
  obtain ⟨a'', t1, t2, t3, _⟩ := io_key s q2
  rw [r3] at z1; cases z1
  rw [t3] at z2; cases z2
  exact s.sp i j _ _ d e _ _ F G hij r1 t1 r2 t2 f1 f2
 ·cases z with
  | fz d => exact h
  | ow u d =>
   obtain ⟨a, o, rfl, h1, h2, h3, h4⟩ := h
   exact ⟨a, o, rfl, h1, h2, h3, h4.io s⟩
  | tr d =>
   obtain ⟨a, F, rfl, h1, h2, h3, h4⟩ := h
   exact ⟨a, F, rfl, h1, h2, h3, fun x hx => (h4 x hx).io s⟩
theorem St.pad (s : St K ⟨B0, ppOf vs, fun _ => none, T⟩ M W H ρ σ) (n : Nat) : St K ⟨B0, ppOf vs, fun _ => none, T⟩ M W H (ρ ++ List.replicate n none) (σ ++ List.replicate n none) := by
 have key : ∀ {i : Nat} {g : Fg} {d : D}, (ρ ++ List.replicate n none)[i]? = some (some (g, d)) → ρ[i]? = some (some (g, d)) ∧ (σ ++ List.replicate n none)[i]? = σ[i]? := fun {i g d} q => by
  rcases Nat.lt_or_ge i ρ.length with h | h
  ·rw [List.getElem?_append_left h] at q
   exact ⟨q, List.getElem?_append_left (by rw [← s.ln]; exact h)⟩
  ·rw [List.getElem?_append_right h, List.getElem?_replicate] at q
   split at q <;> exact nomatch q
 refine ⟨s.bw, s.mw, s.wh, by rw [List.length_append, List.length_append, s.ln, List.length_replicate, List.length_replicate], fun i g d q => ?_, fun i j g h d e a b F G hij q1 q2 z1 z2 f1 f2 => ?_, s.tb⟩
 ·obtain ⟨q, e⟩ := key q
  obtain ⟨v, h1, h2⟩ := s.sl i g d q
  exact ⟨v, by rw [e]; exact h1, h2⟩
 ·obtain ⟨q1, e1⟩ := key q1
  obtain ⟨q2, e2⟩ := key q2
  exact s.sp i j g h d e a b F G hij q1 q2 (by rw [← e1]; exact z1) (by rw [← e2]; exact z2) f1 f2
end
section
variable {P : Program} {w : World} {K : PySem.W.Frag} {mg : Str → Option Value} {base : Heap} {T : List (Addr × Str)}
theorem body_ok {t : TS} {r : RS} {np n : Nat} {vs : List V} {H : Hp} {Q : VK} {E : XK} (h : spM K T (runFn np n r) vs H Q E) (hb : ∀ B : Bx, SS K (B.at T) (fun cls d _ H => E cls d H) t r) :
  vs.length = np ∧ t { nx := fun _ H' => Q .non H', rt := Q } (vs.map some ++ List.replicate (n - np) none) H := by
 obtain ⟨args, B0, M, s, k⟩ := h
 unfold runFn at k
 by_cases hl : args.length = np
 ·rw [if_pos hl] at k
  have hv : vs.length = np := by
   have := s.ln
   rw [List.length_map, List.length_map] at this
   omega
  refine ⟨hv, hb ⟨B0, ppOf vs, fun _ => none, T⟩ _ _ H M B0 (args.map some ++ List.replicate (n - np) none) (s.pad _) ?_⟩
  cases e : r (args.map some ++ List.replicate (n - np) none) with
  | stk => rw [e] at k; exact k
  | er ρ x =>
   rw [e] at k
   intro σ' d M' W' H' gr st hx
   exact k d M' W' H' gr (st.io hv.symm).1 hx
  | ok ρ fl =>
   rw [e] at k
   intro σ' M' W' H' gr st
   obtain ⟨st2, f2⟩ := st.io (np := np) hv.symm
   cases fl with
   | nx => exact k .non M' W' H' gr st2 (Rp.non)
   | bk => exact False.elim k
   | ct => exact False.elim k
   | rt tp =>
    cases tp with
    | sl i => exact False.elim k
    | fz d => exact fun v hv => k v M' W' H' gr st2 (f2 (.fz d) v hv)
    | ow u d => exact fun v hv => k v M' W' H' gr st2 (f2 (.ow u d) v hv)
    | tr d => exact fun v hv => k v M' W' H' gr st2 (f2 (.tr d) v hv)
 ·rw [if_neg hl] at k; exact False.elim k
theorem okM {x qual : Str} {st : Stmt} {f : Addr} {fd : FuncData} {N ps : List Str} {k : Nat} {r : RS} (F : Fun K x qual st f fd) (S : FnScope N ps (defScope st))
  (body : ∀ (cdv : Value) (Ar : Around) (outer : List PySem.Env) (s : Shared) (H : Hp) (E : XK), Room k (Ar.deeper (envOfC qual (defScope st) s.heap.objs.size f cdv)) →
   ∃ t, PSs (cxOf CX0 P w K mg base N qual (defScope st) f cdv Ar outer s H E).nox (defBody st) t ∧ ∀ B : Bx, SS K (B.at T) (fun _ _ _ _ => False) t r) :
  FnOk P w K mg base CX0 (k + 1) f fd ps (spM K T (runFn ps.length N.length fun ρ => (r ρ).dry)) := by
 have up : ∀ {t : TS} {B : Bx} {E : XK}, SS K B (fun _ _ _ _ => False) t r → SS K B (fun cls d _ H => E cls d H) t fun ρ => (r ρ).dry := fun {t B E} h D σ H M W ρ s k => h D σ H M W ρ s (by
  dsimp only at k
  cases e : r ρ with
  | stk => rw [e] at k; exact k
  | er ρ' x => rw [e] at k; exact False.elim k
  | ok ρ' fl => rw [e] at k; exact k)
 refine F.ok S (fun vs H Q E h => ?_) (fun cdv Ar outer s H vs Q E hr h => ?_)
 ·obtain ⟨args, B0, M, s, k⟩ := h
  have := s.ln
  rw [List.length_map, List.length_map] at this
  unfold runFn at k
  by_cases hl : args.length = ps.length
  ·omega
  ·rw [if_neg hl] at k; exact False.elim k
 ·obtain ⟨t, d, q⟩ := body cdv Ar outer s H E hr
  obtain ⟨h1, h2⟩ := body_ok h (fun B => up (q B))
  refine ⟨t, d, ?_⟩
  unfold L2.start
  rw [h1]
  exact h2
theorem okMX {x qual : Str} {st : Stmt} {f : Addr} {fd : FuncData} {N ps : List Str} {k : Nat} {r : RS} (F : Fun K x qual st f fd) (S : FnScope N ps (defScope st))
  (body : ∀ (cdv : Value) (Ar : Around) (outer : List PySem.Env) (s : Shared) (H : Hp) (E : XK), Room k (Ar.deeper (envOfC qual (defScope st) s.heap.objs.size f cdv)) →
   ∃ t, PSs (cxOf (L2.CX P w) P w K mg base N qual (defScope st) f cdv Ar outer s H E) (defBody st) t ∧ ∀ B : Bx, SS K (B.at T) (fun cls d _ H => E cls d H) t r) :
  FnOk P w K mg base (L2.CX P w) (k + 1) f fd ps (spM K T (runFn ps.length N.length r)) := by
 refine F.okX S (fun vs H Q E h => ?_) (fun cdv Ar outer s H vs Q E hr h => ?_)
 ·obtain ⟨args, B0, M, s, k⟩ := h
  have := s.ln
  rw [List.length_map, List.length_map] at this
  unfold runFn at k
  by_cases hl : args.length = ps.length
  ·omega
  ·rw [if_neg hl] at k; exact False.elim k
 ·obtain ⟨t, d, q⟩ := body cdv Ar outer s H E hr
  obtain ⟨h1, h2⟩ := body_ok h q
  refine ⟨t, d, ?_⟩
  unfold L2.start
  rw [h1]
  exact h2
end
end Vm
namespace Vm
open PySem PySem.Spec PyProof.Rows L2 Fz
def melt1 : Bool → Tp → Tp
 | false, .ow _ d => .fz d
 | _, tp => tp
def melt : List Bool → List Tp → List Tp
 | m :: ms, tp :: tps => melt1 m tp :: melt ms tps
 | _, _ => []
def pass1 (ρ : Env) : Bool → Tp → Option (Fg × D)
 | false, .fz d => some (.f, d)
 | false, .sl i => match ρ[i]? with
  | some (some (.f, d)) => some (.f, d)
  | some (some (.s, d)) => some (.s, d)
  | some (some (.e, _)) => none
  | some (some (.q _, _)) => none
  | some (some (_, d)) => some (.b, d)
  | _ => none
 | true, .sl i => match ρ[i]? with
  | some (some (.o u _, d)) => some (.o u true, d)
  | some (some (.q _, d)) => some (.q true, d)
  | _ => none
 | true, .ow u d => some (.o u true, d)
 | _, _ => none
def pass (ρ : Env) : List Bool → List Tp → Option (List (Fg × D))
 | [], [] => some []
 | m :: ms, tp :: tps => match pass1 ρ m tp, pass ρ ms tps with
  | some x, some xs => some (x :: xs)
  | _, _ => none
 | _, _ => none
def once : List Bool → List Tp → Bool
 | m :: ms, .sl i :: tps => (!m || tps.all (fun tp => match tp with | .sl j => i != j | _ => true)) && (m || (ms.zip tps).all (fun x => match x with | (true, .sl j) => i != j | _ => true)) && once ms tps
 | _ :: ms, _ :: tps => once ms tps
 | _, _ => true
def back (ρ : Env) : List Bool → List Tp → Env → Option Env
 | [], [], _ => some ρ
 | true :: ms, .sl i :: tps, some (.o u true, d) :: io => match ρ[i]? with
  | some (some (.o _ p, _)) => back (ρ.set i (some (.o u p, d))) ms tps io
  | _ => none
 | true :: ms, .sl i :: tps, some (.q true, d) :: io => match ρ[i]? with
  | some (some (.q p, _)) => back (ρ.set i (some (.q p, d))) ms tps io
  | _ => none
 | true :: ms, .sl i :: tps, none :: io => back (ρ.set i none) ms tps io
 | true :: ms, .ow _ _ :: tps, _ :: io => back ρ ms tps io
 | false :: ms, _ :: tps, _ :: io => back ρ ms tps io
 | _, _, _ => none
def rCall (m : List (Fg × D) → FOut) (ms : List Bool) (a : RA) : RE := fun ρ => (a ρ).bind fun ρ1 tps => if ms.length = tps.length ∧ once ms tps = true then (match pass ρ1 ms (melt ms tps) with
 | none => .stk
 | some args => match m args with
  | .stk => .stk
  | .ok z io => match back ρ1 ms tps io with
   | some ρ2 => .ok ρ2 z.tp
   | none => .stk
  | .er x io => match back ρ1 ms tps io with
   | some ρ2 => .er ρ2 x
   | none => .stk) else .stk
section
variable {K : PySem.W.Frag} {B : Bx} {M W H : Hp} {ρ : Env} {σ : L2.St} {w : WX}
theorem TpsOk.at {tps : List Tp} : ∀ {vs : List V} {k : Nat} {tp : Tp}, TpsOk K B M W H ρ σ tps vs → tps[k]? = some tp → ∃ v, vs[k]? = some v ∧ TpOkL K B M W H ρ σ tp v := by
 induction tps with
 | nil => intro vs k tp _ e; simp at e
 | cons t tps ih =>
  intro vs k tp h e
  cases vs with
  | nil => exact False.elim h
  | cons u vs =>
   cases k with
   | zero => cases e; exact ⟨u, rfl, h.1⟩
   | succ k => exact ih (vs := vs) h.2.1 (by simpa using e)
theorem TpsOk.len {tps : List Tp} : ∀ {vs : List V}, TpsOk K B M W H ρ σ tps vs → vs.length = tps.length := by
 induction tps with
 | nil => intro vs h; cases vs with
  | nil => rfl
  | cons _ _ => exact False.elim h
 | cons t tps ih =>
  intro vs h
  cases vs with
  | nil => exact False.elim h
  | cons u vs => rw [List.length_cons, List.length_cons, ih h.2.1]
theorem ownVs_mem {tps : List Tp} : ∀ {vs : List V} {k : Nat} {u : Bool} {d : D} {v : V}, tps[k]? = some (.ow u d) → vs[k]? = some v → v ∈ ownVs tps vs := by
 induction tps with
 | nil => intro vs k u d v e _; simp at e
 | cons t tps ih =>
  intro vs k u d v e e2
  cases vs with
  | nil => simp at e2
  | cons x vs =>
   cases k with
   | zero => cases e; cases e2; simp [ownVs]
   | succ k =>
    have := ih (vs := vs) (k := k) (by simpa using e) (by simpa using e2)
    cases t <;> simp [ownVs, this]
theorem TpsOk.ne {tps : List Tp} : ∀ {vs : List V} {k l : Nat} {u u' : Bool} {d d' : D} {v : V}, TpsOk K B M W H ρ σ tps vs → tps[k]? = some (.ow u d) → tps[l]? = some (.ow u' d') → vs[k]? = some v → vs[l]? = some v → k = l := by
 induction tps with
 | nil => intro vs k l u u' d d' v _ e; simp at e
 | cons t tps ih =>
  intro vs k l u u' d d' v h e1 e2 q1 q2
  cases vs with
  | nil => exact False.elim h
  | cons x vs =>
   obtain ⟨h1, h2, h3⟩ := h
   cases k with
   | zero =>
    cases l with
    | zero => rfl
    | succ l =>
     cases e1; cases q1
     exact absurd (ownVs_mem (vs := vs) (by simpa using e2) (by simpa using q2)) (h3 _ _ rfl)
   | succ k =>
    cases l with
    | zero =>
     cases e2; cases q2
     exact absurd (ownVs_mem (vs := vs) (by simpa using e1) (by simpa using q1)) (h3 _ _ rfl)
    | succ l =>
     have := ih (vs := vs) (k := k) (l := l) h2 (by simpa using e1) (by simpa using e2) (by simpa using q1) (by simpa using q2)
     rw [this]
theorem TpsOk.keep {M' W' : Hp} {ρ' : Env} {tp : Tp} {v : V} (f1 : ∀ tp' v', TpOkL K B M W H ρ σ tp' v' → (∀ g d, tp = .ow g d → ∀ g' d', tp' = .ow g' d' → v' ≠ v) → TpOkL K B M' W' H ρ' σ tp' v') : ∀ {tps : List Tp} {vs : List V}, TpsOk K B M W H ρ σ tps vs → (∀ g d, tp = .ow g d → v ∉ ownVs tps vs) → TpsOk K B M' W' H ρ' σ tps vs := by
 intro tps
 induction tps with
 | nil => intro vs h _; cases vs with
  | nil => trivial
  | cons _ _ => exact False.elim h
 | cons t tps ih =>
  intro vs h n
  cases vs with
  | nil => exact False.elim h
  | cons u vs =>
   obtain ⟨q1, q2, q3⟩ := h
   refine ⟨f1 t u q1 fun g d e g' d' e' z => ?_, ih q2 fun g d e z => n g d e ?_, q3⟩
   ·subst e'
    exact n g d e (by simp [ownVs, z])
   ·cases t with
    | sl i => exact z
    | fz x => exact z
    | tr x => exact z
    | ow _ _ => simp [ownVs, z]
theorem melt_sub : ∀ {ms : List Bool} {tps : List Tp} {vs : List V} {x : V}, x ∈ ownVs (melt ms tps) vs → x ∈ ownVs tps vs := by
 intro ms
 induction ms with
 | nil => intro tps vs x hx; simp [melt, ownVs] at hx
 | cons m ms ih =>
  intro tps vs x hx
  cases tps with
  | nil => simp [melt, ownVs] at hx
  | cons t tps =>
   cases vs with
   | nil => cases m <;> cases t <;> simp [melt, melt1, ownVs] at hx
   | cons u vs =>
    cases t with
    | sl i => cases m <;> exact ih (tps := tps) (vs := vs) (by simpa [melt, melt1, ownVs] using hx)
    | fz e => cases m <;> exact ih (tps := tps) (vs := vs) (by simpa [melt, melt1, ownVs] using hx)
    | tr e => cases m <;> exact ih (tps := tps) (vs := vs) (by simpa [melt, melt1, ownVs] using hx)
    | ow g e =>
     cases m with
     | false =>
      have := ih (tps := tps) (vs := vs) (x := x) (by simpa [melt, melt1, ownVs] using hx)
      simp [ownVs, this]
     | true =>
      have hx : x = u ∨ x ∈ ownVs (melt ms tps) vs := by simpa [melt, melt1, ownVs] using hx
      rcases hx with rfl | hx
      ·simp [ownVs]
      ·simp [ownVs, ih hx]
theorem melt_ok : ∀ {ms : List Bool} {tps : List Tp} {vs : List V} {M W : Hp}, ms.length = tps.length → St K B M W H ρ σ → TpsOk K B M W H ρ σ tps vs → ∃ M' W', Gr M W M' W' ∧ St K B M' W' H ρ σ ∧ TpsOk K B M' W' H ρ σ (melt ms tps) vs ∧
  ∀ tp' v', TpOkL K B M W H ρ σ tp' v' → ((∃ g d, tp' = .ow g d) → v' ∉ ownVs tps vs) → TpOkL K B M' W' H ρ σ tp' v'
 | [], [], vs, M, W, _, s, h => ⟨M, W, Gr.refl _ _, s, h, fun _ _ q _ => q⟩
 | m :: ms, tp :: tps, [], M, W, _, s, h => False.elim h
 | m :: ms, tp :: tps, v :: vs, M, W, hl, s, h => by
  obtain ⟨h1, h2, h3⟩ := h
  have plain : melt1 m tp = tp → ∃ M' W', Gr M W M' W' ∧ St K B M' W' H ρ σ ∧ TpsOk K B M' W' H ρ σ (melt (m :: ms) (tp :: tps)) (v :: vs) ∧
    ∀ tp' v', TpOkL K B M W H ρ σ tp' v' → ((∃ g d, tp' = .ow g d) → v' ∉ ownVs (tp :: tps) (v :: vs)) → TpOkL K B M' W' H ρ σ tp' v' := fun em => by
   obtain ⟨M1, W1, g1, s1, k1, f1⟩ := melt_ok (ms := ms) (tps := tps) (by simpa using hl) s h2
   refine ⟨M1, W1, g1, s1, ⟨by rw [em]; exact f1 tp v h1 fun ⟨g, d, e⟩ => h3 g d e, k1, fun g d e z => ?_⟩, fun tp' v' q n => f1 tp' v' q fun x z => n x ?_⟩
   ·rw [em] at e
    exact h3 g d e (melt_sub z)
   ·cases tp <;> simp [ownVs, z]
  cases tp with
  | sl i => exact plain (by cases m <;> rfl)
  | fz d => exact plain (by cases m <;> rfl)
  | tr d => exact plain (by cases m <;> rfl)
  | ow u d =>
   cases m with
   | true => exact plain rfl
   | false =>
    obtain ⟨M1, W1, g1, s1, r1, f1⟩ := stF_ok (ρ' := ρ) (d := d) s (h1.ok fun _ z => nomatch z) rfl
    have k1 := TpsOk.keep f1 h2 h3
    obtain ⟨M2, W2, g2, s2, k2, f2⟩ := melt_ok (ms := ms) (tps := tps) (by simpa using hl) s1 k1
    refine ⟨M2, W2, g1.trans g2, s2, ⟨Rp.mono g2.m r1, k2, fun g d e => nomatch e⟩, fun tp' v' q n => f2 tp' v' (f1 tp' v' q fun g d e g' d' e' z => n ⟨g', d', e'⟩ (by simp [ownVs, z])) fun x z => n x (by simp [ownVs, z])⟩
end
end Vm
namespace Vm
open PySem PySem.Spec PyProof.Rows L2 Fz
section
variable {K : PySem.W.Frag} {B : Bx} {M W H : Hp} {ρ : Env} {σ : L2.St} {w : WX}
theorem pass_at : ∀ {ms : List Bool} {tps : List Tp} {args : List (Fg × D)}, pass ρ ms tps = some args → ms.length = tps.length ∧ args.length = tps.length ∧ ∀ (k : Nat) (x : Fg × D), args[k]? = some x → ∃ m tp, ms[k]? = some m ∧ tps[k]? = some tp ∧ pass1 ρ m tp = some x
 | [], [], args, e => by cases e; exact ⟨rfl, rfl, fun k x h => by simp at h⟩
 | [], _ :: _, args, e => nomatch e
 | _ :: _, [], args, e => nomatch e
 | m :: ms, tp :: tps, args, e => by
  unfold pass at e
  cases e1 : pass1 ρ m tp with
  | none => rw [e1] at e; exact nomatch e
  | some x =>
   cases e2 : pass ρ ms tps with
   | none => rw [e1, e2] at e; exact nomatch e
   | some xs =>
    rw [e1, e2] at e
    cases e
    obtain ⟨h1, h2, h3⟩ := pass_at e2
    refine ⟨by simp [h1], by simp [h2], fun k y h => ?_⟩
    cases k with
    | zero => cases h; exact ⟨m, tp, rfl, rfl, e1⟩
    | succ k => exact h3 k y (by simpa using h)
theorem melt_at : ∀ {ms : List Bool} {tps : List Tp} (k : Nat), ms.length = tps.length → (melt ms tps)[k]? = match ms[k]?, tps[k]? with | some m, some tp => some (melt1 m tp) | _, _ => none
 | [], [], k, _ => by simp [melt]
 | m :: ms, tp :: tps, 0, _ => rfl
 | m :: ms, tp :: tps, k + 1, h => by
  show (melt ms tps)[k]? = _
  rw [melt_at k (by simpa using h)]
  simp
theorem melt_len : ∀ {ms : List Bool} {tps : List Tp}, ms.length = tps.length → (melt ms tps).length = tps.length
 | [], [], _ => rfl
 | m :: ms, tp :: tps, h => by
  show (melt1 m tp :: melt ms tps).length = _
  rw [List.length_cons, List.length_cons, melt_len (by simpa using h)]
theorem once_at : ∀ {ms : List Bool} {tps : List Tp} {k l i j : Nat}, ms.length = tps.length → once ms tps = true → ms[k]? = some true → tps[k]? = some (.sl i) → tps[l]? = some (.sl j) → k ≠ l → i ≠ j
 | [], [], k, l, i, j, _, _, h, _, _, _ => by simp at h
 | m :: ms, tp :: tps, k, l, i, j, hl, h, h1, h2, h3, hk => by
  have hl' : ms.length = tps.length := by simpa using hl
  have tail : once ms tps = true := by
   cases tp with
   | sl x => unfold once at h; simp only [Bool.and_eq_true] at h; exact h.2
   | fz d => exact h
   | ow u d => exact h
   | tr d => exact h
  cases k with
  | zero =>
   cases h1; cases h2
   cases l with
   | zero => exact absurd rfl hk
   | succ l =>
    have h3 : tps[l]? = some (.sl j) := by simpa using h3
    unfold once at h
    simp only [Bool.and_eq_true, Bool.or_eq_true, Bool.not_true, Bool.false_eq_true, false_or, true_or, List.all_eq_true] at h
    have := h.1.1 _ (List.mem_of_getElem? h3)
    simpa using this
  | succ k =>
   have h1 : ms[k]? = some true := by simpa using h1
   have h2 : tps[k]? = some (.sl i) := by simpa using h2
   cases l with
   | zero =>
    cases h3
    unfold once at h
    simp only [Bool.and_eq_true, Bool.or_eq_true, List.all_eq_true] at h
    cases m with
    | true =>
     have := h.1.1
     simp only [Bool.not_true, Bool.false_eq_true, false_or] at this
     have := this _ (List.mem_of_getElem? h2)
     intro e; subst e; simp at this
    | false =>
     have := h.1.2
     simp only [Bool.false_eq_true, false_or] at this
     have hz : (ms.zip tps)[k]? = some (true, .sl i) := by rw [List.getElem?_zip_eq_some]; exact ⟨h1, h2⟩
     have := this _ (List.mem_of_getElem? hz)
     intro e; subst e; simp at this
   | succ l => exact once_at (k := k) (l := l) hl' tail h1 h2 (by simpa using h3) (by omega)
def cellF : Fg → Bool
 | .o _ _ => true
 | .q _ => true
 | _ => false
def unpin (p : Bool) : Fg → Fg
 | .o u _ => .o u p
 | .q _ => .q p
 | g => g
def Cel (K : PySem.W.Frag) (M W H : Hp) : Fg → Addr → D → List Addr → Prop
 | .o u _, r, d, F => F = [r] ∧ ∃ o, H r = some o ∧ OwnO K M u o d ∧ W r = none
 | .q _, r, d, F => TrO K M H r d F ∧ F.Nodup ∧ ∀ x ∈ F, W x = none
 | _, _, _, _ => False
theorem Cel.flag {g : Fg} {r : Addr} {d : D} {F : List Addr} (h : Cel K M W H g r d F) : cellF g = true := by cases g <;> first | rfl | exact False.elim h
theorem Cel.sf {g : Fg} {r : Addr} {d : D} {F : List Addr} (h : Cel K M W H g r d F) : SF K M H g r d F := by
 cases g with
 | o u p => exact h.1
 | q p => exact h.1
 | _ => exact False.elim h
theorem Cel.wn {g : Fg} {r : Addr} {d : D} {F : List Addr} (h : Cel K M W H g r d F) : ∀ x ∈ F, W x = none := by
 cases g with
 | o u p => obtain ⟨rfl, o, _, _, q⟩ := h; intro x hx; rw [List.mem_singleton] at hx; rw [hx]; exact q
 | q p => exact h.2.2
 | _ => exact False.elim h
theorem Cel.cell {g : Fg} {r : Addr} {d : D} {F : List Addr} (h : Cel K M W H g r d F) : ∀ x ∈ F, ∃ o, H x = some o ∧ MutF o ∧ ∀ ps, o ≠ .tbl ps := by
 cases g with
 | o u p => obtain ⟨rfl, o, q1, q2, _⟩ := h; intro x hx; rw [List.mem_singleton] at hx; subst hx; exact ⟨o, q1, mutF q2.mut, q2.kind.nt⟩
 | q p => intro x hx; obtain ⟨o, q1, q2⟩ := h.1.cell x hx; exact ⟨o, q1, q2.mutF, q2.nt⟩
 | _ => exact False.elim h
theorem Cel.repin {g : Fg} {r : Addr} {d : D} {F : List Addr} (p : Bool) (h : Cel K M W H g r d F) : Cel K M W H (unpin p g) r d F := by cases g <;> exact h
theorem SF.repin {g : Fg} {r : Addr} {d : D} {F : List Addr} {p : Bool} (h : SF K M H (unpin p g) r d F) : SF K M H g r d F := by cases g <;> exact h
theorem Cel.tr {M' W' H' : Hp} {g : Fg} {r : Addr} {d : D} {F : List Addr} (h : Cel K M W H g r d F) (hm : Lq K M M') (hh : ∀ x ∈ F, ∀ o, H x = some o → H' x = some o) (hw : ∀ x ∈ F, W' x = none) : Cel K M' W' H' g r d F := by
 cases g with
 | o u p => obtain ⟨rfl, o, q1, q2, _⟩ := h; exact ⟨rfl, o, hh _ (List.mem_singleton.mpr rfl) _ q1, q2.lq hm, hw _ (List.mem_singleton.mpr rfl)⟩
 | q p => exact ⟨h.1.lq hm hh, h.2.1, hw⟩
 | _ => exact False.elim h
theorem Cel.sl {B' : Bx} {i : Nat} {g : Fg} {r : Addr} {d : D} {F : List Addr} (h : Cel K M W H g r d F) (hp : pinF g = true → B'.p i = some r) : SlOk K B' M W H i g (.ref r) d := by
 cases g with
 | o u p => obtain ⟨_, o, q1, q2, q3⟩ := h; exact ⟨r, o, rfl, q1, q2, q3, hp⟩
 | q p => exact ⟨r, F, rfl, h.1, h.2.1, h.2.2, hp⟩
 | _ => exact False.elim h
theorem SlOk.cel {B' : Bx} {i : Nat} {g : Fg} {v : V} {d : D} (hg : cellF g = true) (h : SlOk K B' M W H i g v d) : ∃ r F, v = .ref r ∧ Cel K M W H g r d F := by
 cases g with
 | o u p => obtain ⟨a, o, rfl, q1, q2, q3, _⟩ := h; exact ⟨a, _, rfl, rfl, o, q1, q2, q3⟩
 | q p => obtain ⟨a, F, rfl, q1, q2, q3, _⟩ := h; exact ⟨a, F, rfl, q1, q2, q3⟩
 | _ => exact absurd hg Bool.false_ne_true
theorem SF.flag {g : Fg} {r : Addr} {d : D} {F : List Addr} (h : SF K M H g r d F) : cellF g = true := by cases g <;> first | rfl | exact False.elim h
theorem SF.uniq {g : Fg} {r : Addr} {d : D} {F G : List Addr} (h : SF K M H g r d F) (k : SF K M H g r d G) : F = G := by
 cases g with
 | o u p => cases h; cases k; rfl
 | q p => exact TrO.uniq (.of (Same.refl _)) h k
 | _ => exact False.elim h
def IO (K : PySem.W.Frag) (M H : Hp) (ms : List Bool) (args : List (Fg × D)) (vs : List V) (a : Addr) : Prop := ∃ (k : Nat) (x : Fg × D) (r : Addr) (F : List Addr), ms[k]? = some true ∧ args[k]? = some x ∧ vs[k]? = some (.ref r) ∧ SF K M H x.1 r x.2 F ∧ a ∈ F
open Classical in
noncomputable def bIO (P : Addr → Prop) (H : Hp) : Hp := fun a => if P a ∨ ∃ ps, H a = some (.tbl ps) then none else H a
theorem bIO_in {P : Addr → Prop} {a : Addr} (h : P a) : bIO P H a = none := if_pos (.inl h)
theorem bIO_out {P : Addr → Prop} {a : Addr} (h : ¬ P a) (ht : ∀ ps, H a ≠ some (.tbl ps)) : bIO P H a = H a := if_neg fun z => z.elim h fun ⟨ps, e⟩ => ht ps e
theorem bIO_of {P : Addr → Prop} {a : Addr} {o : HO} (h : bIO P H a = some o) : H a = some o := by
 unfold bIO at h
 split at h
 ·exact nomatch h
 ·exact h
theorem bIO_nt {P : Addr → Prop} : NoTb (bIO P H) := fun b ps e => by
 unfold bIO at e
 split at e
 ·exact nomatch e
 ·rename_i h; exact h (.inr ⟨ps, e⟩)
structure Ent (K : PySem.W.Frag) (B : Bx) (M W H : Hp) (ρ : Env) (σ : L2.St) (ms : List Bool) (tps : List Tp) (vs : List V) (args : List (Fg × D)) : Prop where
 s : St K B M W H ρ σ
 t : TpsOk K B M W H ρ σ (melt ms tps) vs
 p : pass ρ ms (melt ms tps) = some args
 o : once ms tps = true
 l : ms.length = tps.length
variable {ms : List Bool} {tps : List Tp} {vs : List V} {args : List (Fg × D)}
theorem Ent.io (E : Ent K B M W H ρ σ ms tps vs args) {k : Nat} {x : Fg × D} (hx : args[k]? = some x) (hm : ms[k]? = some true) : ∃ r F, vs[k]? = some (.ref r) ∧ pinF x.1 = true ∧ Cel K M W H x.1 r x.2 F ∧
  ((∃ i g0, tps[k]? = some (.sl i) ∧ ρ[i]? = some (some (g0, x.2)) ∧ σ[i]? = some (some (.ref r)) ∧ SF K M H g0 r x.2 F) ∨ (∃ u d, F = [r] ∧ tps[k]? = some (.ow u d) ∧ (melt ms tps)[k]? = some (.ow u d) ∧ Apart K M H ρ σ r)) := by
 obtain ⟨_, _, h3⟩ := pass_at E.p
 obtain ⟨m, tp', q1, q2, q3⟩ := h3 k x hx
 rw [hm] at q1; cases q1
 obtain ⟨v, v1, v2⟩ := E.t.at q2
 have q2' := q2
 rw [melt_at k E.l, hm] at q2
 cases e : tps[k]? with
 | none => rw [e] at q2; exact nomatch q2
 | some tp =>
  rw [e] at q2
  have q2 : tp = tp' := by cases tp <;> exact Option.some.inj q2
  subst q2
  cases tp with
  | fz d => exact nomatch q3
  | tr d => exact nomatch q3
  | ow u d =>
   cases q3
   obtain ⟨a, o, rfl, p1, p2, p3, p4⟩ := v2
   exact ⟨a, [a], v1, rfl, ⟨rfl, o, p1, p2, p3⟩, .inr ⟨u, d, rfl, rfl, q2', p4⟩⟩
  | sl i =>
   have v2 : σ[i]? = some (some v) := v2
   unfold pass1 at q3
   dsimp only at q3
   split at q3
   ·rename_i u p d hr
    cases q3
    obtain ⟨v', r1, r2⟩ := E.s.sl i _ _ hr
    rw [v2] at r1; cases r1
    obtain ⟨r, F, rfl, c⟩ := SlOk.cel (g := .o u p) rfl r2
    exact ⟨r, F, v1, rfl, c, .inl ⟨i, _, rfl, hr, v2, c.sf⟩⟩
   ·rename_i p d hr
    cases q3
    obtain ⟨v', r1, r2⟩ := E.s.sl i _ _ hr
    rw [v2] at r1; cases r1
    obtain ⟨r, F, rfl, c⟩ := SlOk.cel (g := .q p) rfl r2
    exact ⟨r, F, v1, rfl, c, .inl ⟨i, _, rfl, hr, v2, c.sf⟩⟩
   ·exact nomatch q3
theorem Ent.len (E : Ent K B M W H ρ σ ms tps vs args) : args.length = vs.length ∧ ms.length = vs.length := by
 obtain ⟨_, h2, _⟩ := pass_at E.p
 have h3 := E.t.len
 have h4 := melt_len E.l
 have := E.l
 omega
theorem Ent.ioW (E : Ent K B M W H ρ σ ms tps vs args) {a : Addr} (h : IO K M H ms args vs a) : W a = none := by
 obtain ⟨k, x, r, F, h1, h2, h3, h4, h5⟩ := h
 obtain ⟨r', F', q1, q2, q3, _⟩ := E.io h2 h1
 rw [h3] at q1; cases q1
 have := q3.sf.uniq h4
 subst this
 exact q3.wn a h5
theorem Ent.sameB (E : Ent K B M W H ρ σ ms tps vs args) : Same W (bIO (IO K M H ms args vs) H) := fun a o h => by
 have : ¬ IO K M H ms args vs a := fun q => by
  have hw := E.ioW q
  rw [h] at hw; cases hw
 have hh := E.s.wh _ _ h
 rw [bIO_out this fun ps z => by rw [hh] at z; cases z; exact E.s.tb.1 _ _ h]; exact hh
theorem Ent.notIO (E : Ent K B M W H ρ σ ms tps vs args) {j : Nat} {g : Fg} {d : D} {b : Addr} {G : List Addr} (hr : ρ[j]? = some (some (g, d))) (hs : σ[j]? = some (some (.ref b))) (hf : SF K M H g b d G) (hn : ∀ k : Nat, ms[k]? = some true → tps[k]? ≠ some (.sl j)) : ∀ a ∈ G, ¬ IO K M H ms args vs a := fun a ha q => by
 obtain ⟨k, x, r, F, h1, h2, h3, h4, h5⟩ := q
 obtain ⟨r', F', q1, _, q3, q5⟩ := E.io h2 h1
 rw [h3] at q1; cases q1
 have := q3.sf.uniq h4
 subst this
 rcases q5 with ⟨i, g0, t1, t2, t3, t4⟩ | ⟨u, d', rfl, t1, _, ap⟩
 ·by_cases hij : i = j
  ·subst hij; exact hn k h1 t1
  ·exact E.s.sp i j _ _ _ _ _ _ _ _ hij t2 hr t3 hs t4 hf a h5 ha
 ·rw [List.mem_singleton] at h5; subst h5
  exact ap j g d b G hr hs hf ha
theorem Ent.stay (E : Ent K B M W H ρ σ ms tps vs args) {j : Nat} {g : Fg} {d : D} {b : Addr} {G : List Addr} (hr : ρ[j]? = some (some (g, d))) (hs : σ[j]? = some (some (.ref b))) (hf : SF K M H g b d G) (hn : ∀ k : Nat, ms[k]? = some true → tps[k]? ≠ some (.sl j)) : ∀ a ∈ G, ∃ o, H a = some o ∧ MutF o ∧ bIO (IO K M H ms args vs) H a = some o := fun a ha => by
 obtain ⟨v, v1, v2⟩ := E.s.sl j g d hr
 rw [hs] at v1; cases v1
 obtain ⟨r, F, e, c⟩ := v2.cel hf.flag
 cases e
 have := c.sf.uniq hf
 subst this
 obtain ⟨o, q1, q2, q3⟩ := c.cell a ha
 exact ⟨o, q1, q2, by rw [bIO_out (E.notIO hr hs hf hn a ha) fun ps z => by rw [q1] at z; cases z; exact q3 _ rfl]; exact q1⟩
theorem Ent.own (E : Ent K B M W H ρ σ ms tps vs args) {k : Nat} {g : Fg} {d : D} (hg : cellF g = true) (q : (args.map some)[k]? = some (some (g, d))) : args[k]? = some (g, d) ∧ ms[k]? = some true := by
 rw [List.getElem?_map] at q
 cases hx : args[k]? with
 | none => rw [hx] at q; exact nomatch q
 | some x =>
  rw [hx] at q
  have q : x = (g, d) := Option.some.inj (Option.some.inj q)
  subst q
  obtain ⟨_, _, h3⟩ := pass_at E.p
  obtain ⟨m, tp', q1, q2, q3⟩ := h3 k _ hx
  cases m with
  | true => exact ⟨rfl, q1⟩
  | false =>
   exfalso
   cases tp' with
   | fz d' => cases q3; exact absurd hg Bool.false_ne_true
   | ow u d' => exact nomatch q3
   | tr d' => exact nomatch q3
   | sl i =>
    unfold pass1 at q3
    dsimp only at q3
    split at q3
    ·cases q3; exact absurd hg Bool.false_ne_true
    ·cases q3; exact absurd hg Bool.false_ne_true
    ·exact nomatch q3
    ·exact nomatch q3
    ·cases q3; exact absurd hg Bool.false_ne_true
    ·exact nomatch q3
theorem Ent.enter (E : Ent K B M W H ρ σ ms tps vs args) : St K ⟨bIO (IO K M H ms args vs) H, ppOf vs, fun _ => none, B.t⟩ M (bIO (IO K M H ms args vs) H) H (args.map some) (vs.map some) := by
 have sb := E.sameB
 obtain ⟨hl1, hl2⟩ := E.len
 refine ⟨Same.refl _, E.s.mw.trans sb, fun a o h => ?_, by rw [List.length_map, List.length_map]; exact hl1, fun k g d q => ?_, fun k l g h d e a b F G hkl q1 q2 z1 z2 f1 f2 => ?_, ⟨bIO_nt, E.s.tb.2⟩⟩
 ·exact bIO_of h
 ·rw [List.getElem?_map] at q
  cases hx : args[k]? with
  | none => rw [hx] at q; exact nomatch q
  | some x =>
   rw [hx] at q
   have q : x = (g, d) := Option.some.inj (Option.some.inj q)
   subst q
   obtain ⟨_, _, h3⟩ := pass_at E.p
   obtain ⟨m, tp', q1, q2, q3⟩ := h3 k _ hx
   cases m with
   | true =>
    obtain ⟨r, F, r1, r2, r3, _⟩ := E.io hx q1
    refine ⟨.ref r, by rw [List.getElem?_map, r1]; rfl, (r3.tr (W' := bIO (IO K M H ms args vs) H) (.of (Same.refl _)) (fun _ _ _ h => h) fun y hy => bIO_in ⟨k, _, r, F, q1, hx, r1, r3.sf, hy⟩).sl fun _ => ?_⟩
    show ppOf vs k = some r
    unfold ppOf
    rw [r1]
   | false =>
    obtain ⟨v, v1, v2⟩ := E.t.at q2
    refine ⟨v, by rw [List.getElem?_map, v1]; rfl, ?_⟩
    cases tp' with
    | fz d' => cases q3; exact v2
    | ow u d' => exact nomatch q3
    | tr d' => exact nomatch q3
    | sl i =>
     have v2 : σ[i]? = some (some v) := v2
     have htp : tps[k]? = some (.sl i) := by
      rw [melt_at k E.l, q1] at q2
      cases e : tps[k]? with
      | none => rw [e] at q2; exact nomatch q2
      | some tp =>
       rw [e] at q2
       cases tp with
       | sl j => exact q2
       | fz _ => exact nomatch q2
       | tr _ => exact nomatch q2
       | ow _ _ => exact nomatch q2
     unfold pass1 at q3
     dsimp only at q3
     split at q3
     ·rename_i d' hr
      cases q3
      obtain ⟨v', r1, r2⟩ := E.s.sl i _ _ hr
      rw [v2] at r1; cases r1
      exact r2
     ·rename_i d' hr
      cases q3
      obtain ⟨v', r1, r2⟩ := E.s.sl i _ _ hr
      rw [v2] at r1; cases r1
      obtain ⟨a, ns, e1, e2, e3⟩ := r2
      exact ⟨a, ns, e1, (E.s.bw.trans sb).seq e2, e3⟩
     ·exact nomatch q3
     ·exact nomatch q3
     ·rename_i g' d' hf hf2 hf3 hf4 hr
      cases q3
      obtain ⟨v', r1, r2⟩ := E.s.sl i _ _ hr
      rw [v2] at r1; cases r1
      cases g' with
      | f => exact (hf rfl).elim
      | s => exact (hf2 rfl).elim
      | e => exact (hf3 rfl).elim
      | q p => exact (hf4 _ rfl).elim
      | l => exact r2.2.r1 (E.s.mw.trans sb) (E.s.bw.trans sb)
      | b => exact R1.mono (E.s.bw.trans sb) (Same.refl _) r2
      | o u p =>
       obtain ⟨a, o, rfl, p1, p2, p3, _⟩ := r2
       have ni : ¬ IO K M H ms args vs a := E.notIO (g := .o u p) (G := [a]) hr v2 rfl (fun l hl e => by
        by_cases hk : l = k
        ·subst hk; rw [q1] at hl; cases hl
        ·exact once_at E.l E.o hl e htp hk rfl) a (List.mem_singleton.mpr rfl)
       exact p2.r1 (by show bIO _ H a = some o; rw [bIO_out ni fun ps z => by rw [p1] at z; cases z; exact p2.kind]; exact p1)
     ·exact nomatch q3
 ·obtain ⟨x1, m1⟩ := E.own f1.flag q1
  obtain ⟨x2, m2⟩ := E.own f2.flag q2
  obtain ⟨a1, F1, r1, _, r3, r6⟩ := E.io x1 m1
  obtain ⟨a2, F2, t1, _, t3, t6⟩ := E.io x2 m2
  have z1' := z1
  have z2' := z2
  rw [List.getElem?_map, r1] at z1'
  rw [List.getElem?_map, t1] at z2'
  cases z1'; cases z2'
  have := r3.sf.uniq f1
  subst this
  have := t3.sf.uniq f2
  subst this
  intro y hy hy2
  rcases r6 with ⟨i, g1, p1, p2, p3, p4⟩ | ⟨u1, d1, rfl, p1, p2, p3⟩
  ·rcases t6 with ⟨j, g2, s1, s2, s3, s4⟩ | ⟨u2, d2, rfl, s1, s2, s3⟩
   ·exact E.s.sp i j _ _ _ _ _ _ _ _ (once_at E.l E.o m1 p1 s1 hkl) p2 s2 p3 s3 p4 s4 y hy hy2
   ·rw [List.mem_singleton] at hy2; subst hy2
    exact s3 i _ _ _ _ p2 p3 p4 hy
  ·rw [List.mem_singleton] at hy; subst hy
   rcases t6 with ⟨j, g2, s1, s2, s3, s4⟩ | ⟨u2, d2, rfl, s1, s2, s3⟩
   ·exact p3 j _ _ _ _ s2 s3 s4 hy2
   ·rw [List.mem_singleton] at hy2; subst hy2
    exact hkl (E.t.ne p2 s2 r1 t1)
theorem back_at : ∀ {ms : List Bool} {tps : List Tp} {io ρ ρ2 : Env}, back ρ ms tps io = some ρ2 → ρ2.length = ρ.length ∧
  (∀ (j : Nat) (x : Fg × D), ρ2[j]? = some (some x) → (ρ[j]? = some (some x) ∧ ∀ k : Nat, ms[k]? = some true → tps[k]? ≠ some (.sl j)) ∨ ∃ (k : Nat) (g g0 : Fg) (d d0 : D), ms[k]? = some true ∧ tps[k]? = some (.sl j) ∧ io[k]? = some (some (g, d)) ∧ cellF g = true ∧ cellF g0 = true ∧ ρ[j]? = some (some (g0, d0)) ∧ x = (unpin (pinF g0) g, d))
 | [], [], io, ρ, ρ2, e => by
  have e : ρ = ρ2 := by simpa [back] using e
  subst e; exact ⟨rfl, fun j x h => .inl ⟨h, fun k h => by simp at h⟩⟩
 | m :: ms, tp :: tps, io, ρ, ρ2, e => by
  cases io with
  | nil => cases m <;> cases tp <;> simp [back] at e
  | cons y io =>
   have plain : (m = false ∨ ∀ i, tp ≠ .sl i) → back ρ ms tps io = some ρ2 → ρ2.length = ρ.length ∧
    (∀ (j : Nat) (x : Fg × D), ρ2[j]? = some (some x) → (ρ[j]? = some (some x) ∧ ∀ k : Nat, (m :: ms)[k]? = some true → (tp :: tps)[k]? ≠ some (.sl j)) ∨ ∃ (k : Nat) (g g0 : Fg) (d d0 : D), (m :: ms)[k]? = some true ∧ (tp :: tps)[k]? = some (.sl j) ∧ (y :: io)[k]? = some (some (g, d)) ∧ cellF g = true ∧ cellF g0 = true ∧ ρ[j]? = some (some (g0, d0)) ∧ x = (unpin (pinF g0) g, d)) := fun hmt e => by
    obtain ⟨h1, h2⟩ := back_at e
    refine ⟨h1, fun j x h => ?_⟩
    rcases h2 j x h with ⟨q1, q2⟩ | ⟨k, g, g0, d, d0, q1, q2, q3, q4⟩
    ·refine .inl ⟨q1, fun k hk => ?_⟩
     cases k with
     | zero =>
      rcases hmt with rfl | hmt
      ·simp at hk
      ·intro z; exact hmt j (Option.some.inj z)
     | succ k => simpa using q2 k (by simpa using hk)
    ·exact .inr ⟨k + 1, g, g0, d, d0, by simpa using q1, by simpa using q2, by simpa using q3, q4⟩
   cases m with
   | false => exact plain (.inl rfl) (by simpa [back] using e)
   | true =>
    cases tp with
    | fz d => simp [back] at e
    | tr d => simp [back] at e
    | ow u' d' => exact plain (.inr fun i z => nomatch z) (by simpa [back] using e)
    | sl i =>
     have step : ∀ nv : Option (Fg × D), back (ρ.set i nv) ms tps io = some ρ2 → (∀ x, nv = some x → i < ρ.length → ∃ (g g0 : Fg) (d d0 : D), y = some (g, d) ∧ cellF g = true ∧ cellF g0 = true ∧ ρ[i]? = some (some (g0, d0)) ∧ x = (unpin (pinF g0) g, d)) → (∀ x, nv = some x → unpin (pinF x.1) x.1 = x.1 ∧ ∀ g0 : Fg, (∃ d0, ρ[i]? = some (some (g0, d0))) → pinF x.1 = pinF g0 ∧ cellF g0 = true) → ρ2.length = ρ.length ∧
      (∀ (j : Nat) (x : Fg × D), ρ2[j]? = some (some x) → (ρ[j]? = some (some x) ∧ ∀ k : Nat, (true :: ms)[k]? = some true → (Tp.sl i :: tps)[k]? ≠ some (.sl j)) ∨ ∃ (k : Nat) (g g0 : Fg) (d d0 : D), (true :: ms)[k]? = some true ∧ (Tp.sl i :: tps)[k]? = some (.sl j) ∧ (y :: io)[k]? = some (some (g, d)) ∧ cellF g = true ∧ cellF g0 = true ∧ ρ[j]? = some (some (g0, d0)) ∧ x = (unpin (pinF g0) g, d)) := fun nv e hnv hpin => by
      obtain ⟨h1, h2⟩ := back_at e
      refine ⟨by rw [h1, List.length_set], fun j x h => ?_⟩
      rcases h2 j x h with ⟨q1, q2⟩ | ⟨k, g, g0, d, d0, q1, q2, q3, q4, q5, q6, q7⟩
      ·by_cases hj : j = i
       ·subst hj
        rw [List.getElem?_set, if_pos rfl] at q1
        split at q1
        ·rename_i hl
         obtain ⟨g, g0, d, d0, e1, e2, e3, e4, e5⟩ := hnv x (Option.some.inj q1) hl
         exact .inr ⟨0, g, g0, d, d0, rfl, rfl, by rw [e1]; rfl, e2, e3, e4, e5⟩
        ·exact nomatch q1
       ·rw [List.getElem?_set_ne (Ne.symm hj)] at q1
        refine .inl ⟨q1, fun k hk => ?_⟩
        cases k with
        | zero => intro z; cases z; exact hj rfl
        | succ k => simpa using q2 k (by simpa using hk)
      ·by_cases hj : j = i
       ·subst hj
        rw [List.getElem?_set, if_pos rfl] at q6
        split at q6
        ·rename_i hl
         obtain ⟨g', g0', d', d0', e1, e2, e3, e4, e5⟩ := hnv _ (Option.some.inj q6) hl
         obtain ⟨p1, p2⟩ := (hpin _ (Option.some.inj q6)).2 g0' ⟨_, e4⟩
         exact .inr ⟨k + 1, g, g0', d, d0', by simpa using q1, by simpa using q2, by simpa using q3, q4, e3, e4, by rw [← p1]; exact q7⟩
        ·exact nomatch q6
       ·rw [List.getElem?_set_ne (Ne.symm hj)] at q6
        exact .inr ⟨k + 1, g, g0, d, d0, by simpa using q1, by simpa using q2, by simpa using q3, q4, q5, q6, q7⟩
     cases y with
     | none => exact step none (by simpa [back] using e) (fun _ z => nomatch z) (fun _ z => nomatch z)
     | some z =>
      obtain ⟨g, d⟩ := z
      cases g with
      | o u p =>
       cases p with
       | false => simp [back] at e
       | true =>
        simp only [back] at e
        split at e
        ·rename_i u0 p d0 hr
         exact step (some (.o u p, d)) e (fun x z _ => by cases z; exact ⟨.o u true, .o u0 p, d, d0, rfl, rfl, rfl, hr, rfl⟩) (fun x z => by cases z; exact ⟨rfl, fun g0 ⟨d1, q⟩ => by rw [hr] at q; cases q; exact ⟨rfl, rfl⟩⟩)
        ·exact nomatch e
      | q p =>
       cases p with
       | false => simp [back] at e
       | true =>
        simp only [back] at e
        split at e
        ·rename_i p d0 hr
         exact step (some (.q p, d)) e (fun x z _ => by cases z; exact ⟨.q true, .q p, d, d0, rfl, rfl, rfl, hr, rfl⟩) (fun x z => by cases z; exact ⟨rfl, fun g0 ⟨d1, q⟩ => by rw [hr] at q; cases q; exact ⟨rfl, rfl⟩⟩)
        ·exact nomatch e
      | _ => simp [back] at e
 | [], _ :: _, io, ρ, ρ2, e => by simp [back] at e
 | m :: _, [], io, ρ, ρ2, e => by cases m <;> simp [back] at e
end
end Vm
namespace Vm
open PySem PySem.Spec PyProof.Rows L2 Fz
def joinH (M W : Hp) : Hp := fun a => match M a with
 | some o => some o
 | none => W a
theorem joinH_l {M W : Hp} {a : Addr} {o : HO} (h : M a = some o) : joinH M W a = some o := by unfold joinH; rw [h]
theorem joinH_r {M W : Hp} {a : Addr} (h : M a = none) : joinH M W a = W a := by unfold joinH; rw [h]
section
variable {K : PySem.W.Frag} {B : Bx} {M W H : Hp} {ρ : Env} {σ : L2.St} {w : WX} {ms : List Bool} {tps : List Tp} {vs : List V} {args : List (Fg × D)}
theorem Ent.leave (E : Ent K B M W H ρ σ ms tps vs args) {M' W' H' : Hp} {io ρ2 : Env} (gr : Gr M (bIO (IO K M H ms args vs) H) M' W') (s' : St K ⟨bIO (IO K M H ms args vs) H, ppOf vs, fun _ => none, B.t⟩ M' W' H' io (vs.map some)) (e : back ρ ms tps io = some ρ2) :
  ∃ W'', Gr M W M' W'' ∧ St K B M' W'' H' ρ2 σ ∧ ∀ z v, TpOk K ⟨bIO (IO K M H ms args vs) H, ppOf vs, fun _ => none, B.t⟩ M' W' H' io (vs.map some) (Rz.tp z) v → TpOk K B M' W'' H' ρ2 σ z.tp v := by
 obtain ⟨b1, b2⟩ := back_at e
 have sb := E.sameB
 have bh : Same (bIO (IO K M H ms args vs) H) H' := (gr.w.trans s'.wh)
 have whH : Same W H' := sb.trans bh
 have mh : Same M' H' := s'.mw.trans s'.wh
 have free : ∀ {a : Addr}, W' a = none → M' a = none := fun h => s'.mw.free h
 have wn : ∀ {a : Addr}, W' a = none → W a = none := fun {a} h => by
  cases q : W a with
  | none => rfl
  | some o =>
   have := gr.w _ _ (sb _ _ q)
   rw [h] at this; cases this
 have stay : ∀ {j : Nat} {g : Fg} {d : D} {b : Addr} {G : List Addr}, ρ[j]? = some (some (g, d)) → σ[j]? = some (some (.ref b)) → SF K M H g b d G → (∀ k : Nat, ms[k]? = some true → tps[k]? ≠ some (.sl j)) → ∀ a ∈ G, (∀ o, H a = some o → H' a = some o) ∧ M' a = none ∧ W a = none ∧ W' a ≠ none := fun {j g d b G} hr hs hf hn a ha => by
  obtain ⟨o, q1, q2, q3⟩ := E.stay hr hs hf hn a ha
  have hw := (E.s.cells hr hs hf a ha).1
  refine ⟨fun o' h => by rw [q1] at h; cases h; exact bh _ _ q3, gr.n a o q3 q2 (E.s.mw.free hw), hw, fun z => ?_⟩
  rw [gr.w _ _ q3] at z; cases z
 have turned : ∀ {k : Nat} {g : Fg} {d : D}, cellF g = true → io[k]? = some (some (g, d)) → ∃ r F, vs[k]? = some (.ref r) ∧ (vs.map some)[k]? = some (some (.ref r)) ∧ Cel K M' W' H' g r d F := fun {k g d} hg hi => by
  obtain ⟨v, q1, q2⟩ := s'.sl k _ _ hi
  obtain ⟨r, F, rfl, c⟩ := q2.cel hg
  have q1' := q1
  rw [List.getElem?_map] at q1
  cases hv : vs[k]? with
  | none => rw [hv] at q1; exact nomatch q1
  | some x =>
   rw [hv] at q1
   cases Option.some.inj (Option.some.inj q1)
   exact ⟨r, F, rfl, q1', c⟩
 have slotA : ∀ {k j : Nat} {a : Addr}, ms[k]? = some true → tps[k]? = some (.sl j) → vs[k]? = some (.ref a) → σ[j]? = some (some (.ref a)) := fun {k j a} hm ht hv => by
  have hk : k < args.length := by
   have := E.len.1
   have : k < vs.length := by
    rcases Nat.lt_or_ge k vs.length with q | q
    ·exact q
    ·rw [List.getElem?_eq_none q] at hv; cases hv
   omega
  obtain ⟨r, F, q1, _, _, q6⟩ := E.io (List.getElem?_eq_getElem hk) hm
  rw [hv] at q1; cases q1
  rcases q6 with ⟨i, g0, t1, t2, t3, _⟩ | ⟨u, d, _, t1, _⟩
  ·rw [ht] at t1; cases t1; exact t3
  ·rw [ht] at t1; cases t1
 have slot : ∀ {j : Nat} {g : Fg} {d : D} {b : Addr} {F : List Addr}, ρ2[j]? = some (some (g, d)) → σ[j]? = some (some (.ref b)) → SF K M' H' g b d F → (ρ[j]? = some (some (g, d)) ∧ SF K M H g b d F ∧ (∀ a ∈ F, W' a ≠ none)) ∨ ∃ (k : Nat) (g' : Fg), io[k]? = some (some (g', d)) ∧ tps[k]? = some (.sl j) ∧ (vs.map some)[k]? = some (some (.ref b)) ∧ SF K M' H' g' b d F ∧ (∀ a ∈ F, W' a = none) := fun {j g d b F} q hs hf => by
  rcases b2 j (g, d) q with ⟨q1, q2⟩ | ⟨k, g', g0, d', d0, q1, q2, q3, q4, q5, q6, q7⟩
  ·have hf0 := E.s.sfBack (H' := H') (.of gr.m) q1 hs (fun F0 h0 x hx o ho => (stay q1 hs h0 q2 x hx).1 o ho) hf
   exact .inl ⟨q1, hf0, fun a ha => (stay q1 hs hf0 q2 a ha).2.2.2⟩
  ·cases q7
   obtain ⟨r, F', t1, t2, t3⟩ := turned q4 q3
   have t5 := slotA q1 q2 t1
   rw [hs] at t5; cases t5
   have hf := hf.repin
   have := t3.sf.uniq hf
   subst this
   exact .inr ⟨k, g', q3, q2, t2, hf, t3.wn⟩
 have apart : ∀ {x : Addr}, W' x = none → Apart K M' H' io (vs.map some) x → Apart K M' H' ρ2 σ x := fun {x} hw ap j g d b F q z f m => by
  rcases slot q z f with ⟨_, _, t⟩ | ⟨k, g', t1, _, t2, t3, _⟩
  ·exact t x m hw
  ·exact ap k g' d b F t1 t2 t3 m
 refine ⟨joinH M' W, ⟨gr.m, fun a o h => ?_, fun a o h1 hm h2 => gr.n a o (sb _ _ h1) hm h2⟩, ⟨fun a o h => ?_, fun a o h => joinH_l h, fun a o h => ?_, ?_, fun j g d q => ?_, fun j l g h d e' a b F G hjl q1 q2 z1 z2 f1 f2 => ?_, ⟨fun b ps e => by
  cases hm : M' b with
  | none => rw [joinH_r hm] at e; exact E.s.tb.1 _ _ e
  | some o' => rw [joinH_l hm] at e; cases e; exact s'.tb.1 _ _ (s'.mw _ _ hm), s'.tb.2⟩⟩, fun z v h => ?_⟩
 ·cases hm : M' a with
  | none => rw [joinH_r hm]; exact h
  | some o' =>
   rw [joinH_l hm]
   have h1 := whH _ _ h
   rw [mh _ _ hm] at h1
   exact h1
 ·have h := E.s.bw _ _ h
  cases hm : M' a with
  | none => rw [joinH_r hm]; exact h
  | some o' =>
   rw [joinH_l hm]
   have h1 := whH _ _ h
   rw [mh _ _ hm] at h1
   exact h1
 ·cases hm : M' a with
  | none => rw [joinH_r hm] at h; exact whH _ _ h
  | some o' => rw [joinH_l hm] at h; cases h; exact mh _ _ hm
 ·rw [b1]; exact E.s.ln
 ·rcases b2 j (g, d) q with ⟨q1, q2⟩ | ⟨k, g', g0, d', d0, q1, q2, q3, q4, q5, q6, q7⟩
  ·obtain ⟨v, h1, h2⟩ := E.s.sl j g d q1
   refine ⟨v, h1, ?_⟩
   by_cases hc : cellF g = true
   ·obtain ⟨r, F, rfl, c⟩ := h2.cel hc
    refine (c.tr (.of gr.m) (fun x hx o ho => (stay q1 h1 c.sf q2 x hx).1 o ho) fun x hx => ?_).sl fun hp => ?_
    ·obtain ⟨_, t2, t3, _⟩ := stay q1 h1 c.sf q2 x hx
     rw [joinH_r t2]; exact t3
    ·obtain ⟨a, e1, e2⟩ := h2.pin hp
     cases e1; exact e2
   ·cases g with
    | f => exact Rp.mono gr.m h2
    | b => exact R1.mono (Same.refl _) gr.m h2
    | s => exact h2
    | e => first | exact h2 | (obtain ⟨_, _, _, e1, e2, e0, e3⟩ := h2; exact ⟨_, _, _, e1, e2, e0, e3.mono gr.m⟩)
    | l => first | exact h2 | exact ⟨h2.1, h2.2.mono gr.m⟩
    | o u p => exact absurd rfl hc
    | q p => exact absurd rfl hc
  ·cases q7
   obtain ⟨r, F, t1, _, t3⟩ := turned q4 q3
   have t5 := slotA q1 q2 t1
   refine ⟨.ref r, t5, ((t3.repin (pinF g0)).tr (.of (Same.refl _)) (fun _ _ _ h => h) fun x hx => ?_).sl fun hp => ?_⟩
   ·have := t3.wn x hx
    rw [joinH_r (free this)]; exact wn this
   ·obtain ⟨v, r1, r2⟩ := E.s.sl j _ _ q6
    rw [t5] at r1; cases r1
    have hp : pinF g0 = true := by cases g' <;> first | exact hp | exact absurd q4 Bool.false_ne_true
    obtain ⟨a, e1, e2⟩ := r2.pin hp
    cases e1; exact e2
 ·intro x hx hy
  rcases slot q1 z1 f1 with ⟨r1, r2, r3⟩ | ⟨k, g', r1, r2, r3, r4, r5⟩
  ·rcases slot q2 z2 f2 with ⟨t1, t2, t3⟩ | ⟨k', g'', t1, t2, t3, t4, t5⟩
   ·exact E.s.sp j l _ _ _ _ _ _ _ _ hjl r1 t1 z1 z2 r2 t2 x hx hy
   ·exact r3 x hx (t5 x hy)
  ·rcases slot q2 z2 f2 with ⟨t1, t2, t3⟩ | ⟨k', g'', t1, t2, t3, t4, t5⟩
   ·exact t3 x hy (r5 x hx)
   ·refine s'.sp k k' _ _ _ _ _ _ _ _ (fun z => ?_) r1 t1 r3 t3 r4 t4 x hx hy
    subst z
    rw [r2] at t2; cases t2
    exact hjl rfl
 ·cases z with
  | fz d => exact h
  | ow u d =>
   obtain ⟨a, o, rfl, h1, h2, h3, h4⟩ := h
   exact ⟨a, o, rfl, h1, h2, by rw [joinH_r (free h3)]; exact wn h3, apart h3 h4⟩
  | tr d =>
   obtain ⟨a, F, rfl, h1, h2, h3, h4⟩ := h
   exact ⟨a, F, rfl, h1, h2, fun x hx => by rw [joinH_r (free (h3 x hx))]; exact wn (h3 x hx), fun x hx => apart (h3 x hx) (h4 x hx)⟩
theorem call_ok {m m' : List (Fg × D) → FOut} {tA : TA} {rA : RA} (hA : SA K B w tA rA) {M W H : Hp} {ρ : Env} {σ : L2.St} {Q : VK} {X : XK} (s : St K B M W H ρ σ) (k : KG K B M W σ w (RelV1 K B σ) (rCall m' ms rA ρ) Q)
  (hm : ∀ args, m' args = .stk ∨ (m' args = m args ∧ ∀ x io, m' args = .er x io → ∀ cls d H, w cls d σ H → X cls d H)) :
  tA σ H fun vs H1 => spM K B.t m vs H1 Q X :=
 hA σ H M W ρ _ s (KG.bind k fun ρ1 tps vs M1 W1 H1 _ g1 s1 h1 k1 => by
  by_cases ho : ms.length = tps.length ∧ once ms tps = true
  ·rw [if_pos ho] at k1
   cases e : pass ρ1 ms (melt ms tps) with
   | none => rw [e] at k1; exact False.elim k1
   | some args =>
    rw [e] at k1
    dsimp only at k1
    obtain ⟨M2, W2, g2, s2, h2, _⟩ := melt_ok ho.1 s1 h1
    have E : Ent K B M2 W2 H1 ρ1 σ ms tps vs args := ⟨s2, h2, e, ho.2, ho.1⟩
    refine ⟨args, _, M2, E.enter, ?_⟩
    rcases hm args with q | ⟨q, hx⟩
    ·rw [q] at k1; exact False.elim k1
    rw [← q]
    cases e2 : m' args with
    | stk => rw [e2] at k1; exact k1
    | ok z io =>
     rw [e2] at k1
     dsimp only at k1 ⊢
     intro v M' W' H' gr s' hv
     cases e3 : back ρ1 ms tps io with
     | none => rw [e3] at k1; exact False.elim k1
     | some ρ2 =>
      rw [e3] at k1
      obtain ⟨W'', g3, s3, f3⟩ := E.leave gr s' e3
      exact k1 v M' W'' H' (g2.trans g3) s3 (f3 z v hv)
    | er x io =>
     rw [e2] at k1
     dsimp only at k1 ⊢
     intro d M' W' H' gr s' hv
     cases e3 : back ρ1 ms tps io with
     | none => rw [e3] at k1; exact False.elim k1
     | some ρ2 =>
      rw [e3] at k1
      obtain ⟨W'', g3, s3, f3⟩ := E.leave gr s' e3
      exact hx x io e2 _ _ _ (k1 d M' W'' H' (g2.trans g3) s3 hv)
  ·rw [if_neg ho] at k1; exact False.elim k1)
def mdry (m : List (Fg × D) → FOut) (args : List (Fg × D)) : FOut := match m args with
 | .er _ _ => .stk
 | o => o
theorem mdry_or (m : List (Fg × D) → FOut) (args : List (Fg × D)) : mdry m args = .stk ∨ (mdry m args = m args ∧ ∀ x io, mdry m args ≠ .er x io) := by
 unfold mdry
 cases e : m args with
 | stk => exact .inl rfl
 | ok z io => exact .inr ⟨rfl, fun _ _ q => nomatch q⟩
 | er x io => exact .inl rfl
theorem se_call {m : List (Fg × D) → FOut} {tA : TA} {rA : RA} {E : XK} (ms : List Bool) (hA : SA K B w tA rA) : SE K B w (tCall (spM K B.t m) [] E tA) (rCall (mdry m) ms rA) := fun σ H M W ρ Q s k => by
 have := call_ok (m := m) (m' := mdry m) (X := E) hA s k fun args => by
  rcases mdry_or m args with q | ⟨q1, q2⟩
  ·exact .inl q
  ·exact .inr ⟨q1, fun x io e => absurd e (q2 x io)⟩
 show tA σ H fun vs H1 => spM K B.t m (vs ++ []) H1 Q E
 have e : (fun vs H1 => spM K B.t m (vs ++ []) H1 Q E) = fun vs H1 => spM K B.t m vs H1 Q E := by
  funext vs H1; rw [List.append_nil]
 rw [e]
 exact this
theorem se_callS {m : List (Fg × D) → FOut} {tA : TA} {rA : RA} (ms : List Bool) (hA : SA K B w tA rA) : SE K B w (tCallS (spM K B.t m) (WE w) tA) (rCall m ms rA) := fun σ H M W ρ Q s k =>
 call_ok (m := m) (m' := m) hA s k fun args => .inr ⟨rfl, fun _ _ _ _ _ _ h => h⟩
end
end Vm
namespace Vm
open PySem PySem.Spec PyProof.Rows L2 Fz
def f2 (f : D → D → Option Rz) : List D → Option Rz
 | [d, e] => f d e
 | _ => none
def f1 (f : D → Option Rz) : List D → Option Rz
 | [d] => f d
 | _ => none
def Op2 (K : PySem.W.Frag) (r : R2) (f : D → D → Option Rz) : Prop := ∀ (x y : V) (d e : D) (H M : Hp) (Q : VK) (z : Rz), Same M H → R1 K H M x d → R1 K H M y e → f d e = some z → ResK K H M z Q → r x y H Q
def Op1 (K : PySem.W.Frag) (r : V → Hp → VK → Prop) (f : D → Option Rz) : Prop := ∀ (x : V) (d : D) (H M : Hp) (Q : VK) (z : Rz), Same M H → R1 K H M x d → f d = some z → ResK K H M z Q → r x H Q
def rOp2 (f : D → D → Option Rz) (a b : RE) : RE := rOp (f2 f) (rCons a (rCons b rNil))
def rOp1 (f : D → Option Rz) (a : RE) : RE := rOp (f1 f) (rCons a rNil)
section
variable {K : PySem.W.Frag} {B : Bx} {w : WX} {t ta tb : TE} {ra rb : RE} {tA : TA} {rA : RA}
theorem opn2 {r : R2} {f : D → D → Option Rz} (ho : Op2 K r f) : OpN K (fun vs H Q => match vs with | [x, y] => r x y H Q | _ => False) (f2 f) := fun vs ds H M Q z sm h e q => by
 cases h with
 | nil => exact nomatch e
 | cons h1 h =>
  cases h with
  | nil => exact nomatch e
  | cons h2 h =>
   cases h with
   | nil => exact ho _ _ _ _ H M Q z sm h1 h2 e q
   | cons h3 h => exact nomatch e
theorem opn1 {r : V → Hp → VK → Prop} {f : D → Option Rz} (ho : Op1 K r f) : OpN K (fun vs H Q => match vs with | [x] => r x H Q | _ => False) (f1 f) := fun vs ds H M Q z sm h e q => by
 cases h with
 | nil => exact nomatch e
 | cons h1 h =>
  cases h with
  | nil => exact ho _ _ H M Q z sm h1 e q
  | cons h2 h => exact nomatch e
theorem se_op {r : R2} {f : D → D → Option Rz} (ho : Op2 K r f) (ha : SE K B w ta ra) (hb : SE K B w tb rb) : SE K B w (tOp r ta tb) (rOp2 f ra rb) := fun σ H M W ρ Q s k =>
 se_cb (sa_cons ha (sa_cons hb sa_nil)) (opn2 ho) σ H M W ρ Q s k
theorem se_un {r : V → Hp → VK → Prop} {f : D → Option Rz} (ho : Op1 K r f) (ha : SE K B w ta ra) : SE K B w (tUn r ta) (rOp1 f ra) := fun σ H M W ρ Q s k =>
 se_cb (sa_cons ha sa_nil) (opn1 ho) σ H M W ρ Q s k
theorem se_cb1 {rr : List V → Hp → VK → Prop} {f : D → Option Rz} (ho : Op1 K (fun x H Q => rr [x] H Q) f) (ha : SE K B w ta ra) : SE K B w (tCB rr (tCons ta tNil)) (rOp1 f ra) := fun σ H M W ρ Q s k =>
 se_cb (sa_cons ha sa_nil) (opn1 ho) σ H M W ρ Q s k
theorem se_cb2 {rr : List V → Hp → VK → Prop} {f : D → D → Option Rz} (ho : Op2 K (fun x y H Q => rr [x, y] H Q) f) (ha : SE K B w ta ra) (hb : SE K B w tb rb) : SE K B w (tCB rr (tCons ta (tCons tb tNil))) (rOp2 f ra rb) := fun σ H M W ρ Q s k =>
 se_cb (sa_cons ha (sa_cons hb sa_nil)) (opn2 ho) σ H M W ρ Q s k
end
section
variable {K : PySem.W.Frag}
def oI (g : Int → Int → Int) : D → D → Option Rz
 | .int i, .int j => some (.fz (.int (g i j)))
 | _, _ => none
def oIb (g : Int → Int → Bool) : D → D → Option Rz
 | .int i, .int j => some (.fz (.bool (g i j)))
 | _, _ => none
def oIc (c : Int → Int → Bool) (g : Int → Int → Int) : D → D → Option Rz
 | .int i, .int j => if c i j = true then some (.fz (.int (g i j))) else none
 | _, _ => none
theorem op_i {g : Int → Int → Int} : Op2 K (rI0 fun i j => .int (g i j)) (oI g) := fun x y d e H M Q z sm h1 h2 q k => by
 cases h1 <;> cases h2 <;> first | (cases q; done) | skip
 cases q; exact ⟨_, _, rfl, rfl, k.1 _ (.int _)⟩
theorem op_ib {g : Int → Int → Bool} : Op2 K (rI0 fun i j => .bl (g i j)) (oIb g) := fun x y d e H M Q z sm h1 h2 q k => by
 cases h1 <;> cases h2 <;> first | (cases q; done) | skip
 cases q; exact ⟨_, _, rfl, rfl, k.1 _ (.bl _)⟩
theorem op_ic {C : Int → Int → Prop} {c : Int → Int → Bool} {g : Int → Int → Int} (hc : ∀ i j, c i j = true → C i j) : Op2 K (rI C fun i j => .int (g i j)) (oIc c g) := fun x y d e H M Q z sm h1 h2 q k => by
 cases h1 <;> cases h2 <;> first | (cases q; done) | skip
 unfold oIc at q
 dsimp only at q
 split at q
 ·rename_i h; cases q; exact ⟨_, _, rfl, rfl, hc _ _ h, k.1 _ (.int _)⟩
 ·exact nomatch q
def oAdd := oI (· + ·)
def oSub := oI (· - ·)
def oLt := oIb fun i j => decide (i < j)
def oLe := oIb fun i j => decide (i ≤ j)
def oGt := oIb fun i j => decide (j < i)
def oGe := oIb fun i j => decide (j ≤ i)
def cMul (i j : Int) : Bool := decide ((-(2 ^ 64) < i ∧ i < 2 ^ 64) ∨ (-(2 ^ 64) < j ∧ j < 2 ^ 64))
def oMul := oIc cMul (· * ·)
def cMod (_ j : Int) : Bool := decide (0 < j)
def oMod := oIc cMod (· % ·)
def cDiv (_ j : Int) : Bool := decide (0 < j ∧ j < 2 ^ 256)
def oDiv := oIc cDiv (· / ·)
def cPow (i j : Int) : Bool := decide (0 ≤ j ∧ j ≤ 1000000 ∧ i.natAbs < 2 ^ 64)
def oPow := oIc cPow fun i j => i ^ j.toNat
theorem op2_add : Op2 K (rI0 fun i j => .int (i + j)) oAdd := op_i
theorem op2_sub : Op2 K (rI0 fun i j => .int (i - j)) oSub := op_i
theorem op2_lt : Op2 K (rI0 fun i j => .bl (decide (i < j))) oLt := op_ib
theorem op2_le : Op2 K (rI0 fun i j => .bl (decide (i ≤ j))) oLe := op_ib
theorem op2_gt : Op2 K (rI0 fun i j => .bl (decide (j < i))) oGt := op_ib
theorem op2_ge : Op2 K (rI0 fun i j => .bl (decide (j ≤ i))) oGe := op_ib
theorem op2_mul : Op2 K (rI CMul fun i j => .int (i * j)) oMul := op_ic fun _ _ h => by
 unfold cMul at h
 have := of_decide_eq_true h
 exact this
theorem op2_mod : Op2 K (rI (fun _ j => 0 < j) fun i j => .int (i % j)) oMod := op_ic fun _ _ h => of_decide_eq_true h
theorem op2_div : Op2 K (rI CDivW fun i j => .int (i / j)) oDiv := op_ic fun i j h => by
 have h := of_decide_eq_true h
 exact wide_div (b := 256) h.1 (by omega) (by decide) (by decide)
theorem op2_pow : Op2 K (rI CPow fun i j => .int (i ^ j.toNat)) oPow := op_ic fun _ _ h => by
 unfold cPow at h
 have := of_decide_eq_true h
 exact this
def oNeg : D → Option Rz
 | .int i => some (.fz (.int (-i)))
 | _ => none
def oEq : D → D → Option Rz
 | .int i, .int j => some (.fz (.bool (decide (i = j))))
 | .str i, .str j => some (.fz (.bool (decide (i = j))))
 | .bool i, .bool j => some (.fz (.bool (decide (i = j))))
 | _, _ => none
def oNe : D → D → Option Rz
 | .int i, .int j => some (.fz (.bool (!decide (i = j))))
 | .str i, .str j => some (.fz (.bool (!decide (i = j))))
 | .bool i, .bool j => some (.fz (.bool (!decide (i = j))))
 | _, _ => none
theorem op2_eq : Op2 K rEq oEq := fun x y d e H M Q z sm h1 h2 q k => by
 cases h1 <;> cases h2 <;> first | (cases q; done) | skip
 all_goals (cases q; refine ⟨rfl, ?_⟩; have := k.1 _ (Rp.bl _); simpa using this)
theorem op2_ne : Op2 K rNe oNe := fun x y d e H M Q z sm h1 h2 q k => by
 cases h1 <;> cases h2 <;> first | (cases q; done) | skip
 all_goals (cases q; refine ⟨rfl, ?_⟩; have := k.1 _ (Rp.bl _); simpa using this)
mutual
theorem Rp.dp {M : Hp} : ∀ {v : V} {d : D}, Rp K M v d → d.canLay0 = true → Dp K M v d
 | _, _, .non, _ => .non
 | _, _, .bl b, _ => .bl b
 | _, _, .int i, _ => .int i
 | _, _, .str x, _ => .str x
 | _, _, .lst h t, c => .lst (.inl (.inl h)) (Rps.dp t (by unfold PyData.canLay0 at c; exact c))
 | _, _, .tup h t, c => .tup (.inl (.inl h)) (Rps.dp t (by unfold PyData.canLay0 at c; exact c))
 | _, _, .tupK h _ t, c => .tup (h M) (Rps.dp t (by unfold PyData.canLay0 at c; exact c))
 | _, _, .dic _ _ _, c => by unfold PyData.canLay0 at c; cases c
 | _, _, .diT _ _ _, c => by unfold PyData.canLay0 at c; cases c
 | _, _, .tupN _ _ _, c => by unfold PyData.canLay0 at c; cases c
theorem Rps.dp {M : Hp} : ∀ {vs : List V} {ds : List D}, Rps K M vs ds → PyData.canLayAll0 ds = true → DpAll K M vs ds
 | _, _, .nil, _ => .nil
 | _, _, .cons h t, c => by
  unfold PyData.canLayAll0 at c
  rw [Bool.and_eq_true] at c
  exact .cons (Rp.dp h c.1) (Rps.dp t c.2)
end
def oEqD (d e : D) : Option Rz := if (SeqAt.shaped d && SeqAt.shaped e) = true then some (.fz (.bool (PyData.eqv d e))) else none
def oNeD (d e : D) : Option Rz := if (SeqAt.shaped d && SeqAt.shaped e) = true then some (.fz (.bool (!PyData.eqv d e))) else none
theorem R1.dp {H M : Hp} {v : V} {d : D} (sm : Same M H) (h : R1 K H M v d) (c : SeqAt.shaped d = true) : Dp K H v d := (h.all sm).dp (SeqAt.canLay_of_shaped c)
theorem op2_eqD : Op2 K (rEqD K) oEqD := fun x y d e H M Q z sm h1 h2 q k => by
 unfold oEqD at q
 split at q
 ·rename_i h
  rw [Bool.and_eq_true] at h
  cases q
  exact ⟨d, e, h1.dp sm h.1, h2.dp sm h.2, h.1, h.2, k.1 _ (.bl _)⟩
 ·exact nomatch q
theorem op2_neD : Op2 K (rNeD K) oNeD := fun x y d e H M Q z sm h1 h2 q k => by
 unfold oNeD at q
 split at q
 ·rename_i h
  rw [Bool.and_eq_true] at h
  cases q
  exact ⟨d, e, h1.dp sm h.1, h2.dp sm h.2, h.1, h.2, k.1 _ (.bl _)⟩
 ·exact nomatch q
def oIsN : D → D → Option Rz
 | d, .none => some (.fz (.bool (isNone d)))
 | _, _ => none
def oNotN : D → D → Option Rz
 | d, .none => some (.fz (.bool (!isNone d)))
 | _, _ => none
theorem atI_rp {M : Hp} {vs : List V} {ds : List D} {i : Int} {d : D} (h : Rps K M vs ds) (e : atI ds i = some d) : ∃ v, atI vs i = some v ∧ Rp K M v d := by
 unfold atI at e ⊢
 rw [h.length]
 cases q : ixN ds.length i with
 | none => rw [q] at e; cases e
 | some j => rw [q] at e; exact h.get e
def oIxT : D → D → Option Rz
 | .tuple ds, .int i => match atI ds i with
  | some d => some (.fz d)
  | none => none
 | _, _ => none
def oIxL : D → D → Option Rz
 | .list ds, .int i => match atI ds i with
  | some d => some (.fz d)
  | none => none
 | _, _ => none
theorem R1.sqT {H M : Hp} {a : Addr} {ds : List D} (sm : Same M H) (h : R1 K H M (.ref a) (.tuple ds)) : ∃ xs, SqT K H a xs ∧ Rps K M xs ds := by
 cases h with
 | tup h t => exact ⟨_, .inl (.inl (sm _ _ h)), t⟩
 | tupK h _ t => exact ⟨_, h H, t⟩
theorem R1.tupR {H M : Hp} {v : V} {ds : List D} (h : R1 K H M v (.tuple ds)) : ∃ a, v = .ref a := by cases h <;> exact ⟨_, rfl⟩
theorem op2_ixL : Op2 K (rIxL K) oIxL := fun x y d e H M Q z sm h1 h2 q k => by
 unfold oIxL at q
 split at q
 ·rename_i ds i
  cases e1 : atI ds i with
  | none => rw [e1] at q; exact nomatch q
  | some d' =>
   rw [e1] at q
   cases q
   cases h1 with
   | lst t1 t2 =>
    obtain ⟨v, v1, v2⟩ := atI_rp t2 e1
    have := r1_int h2
    subst this
    exact ⟨_, _, i, v, rfl, rfl, .inl (.inl t1), v1, k.1 v v2⟩
 ·exact nomatch q
def oIxS : D → D → Option Rz
 | .str x, .int i => if x.length ≤ sizeLine then (match atI x.cps.toList i with
  | some c => some (.fz (.str (sgn c)))
  | none => none) else none
 | _, _ => none
theorem op2_ixS : Op2 K rIxS oIxS := fun x y d e H M Q z sm h1 h2 q k => by
 unfold oIxS at q
 split at q
 ·rename_i s i
  split at q
  ·rename_i hl
   cases e1 : atI s.cps.toList i with
   | none => rw [e1] at q; exact nomatch q
   | some c =>
    rw [e1] at q
    cases q
    have := r1_int h2
    subst this
    have := r1_str h1
    subst this
    exact ⟨s, i, c, rfl, rfl, hl, e1, k.1 _ (.str _)⟩
  ·exact nomatch q
 ·exact nomatch q
def oCatT : D → D → Option Rz
 | .tuple ds, .tuple es => if ds.length + es.length ≤ sizeLine then some (.fz (.tuple (ds ++ es))) else none
 | _, _ => none
def oRepT : D → D → Option Rz
 | .tuple ds, .int n => if (!ds.isEmpty && decide (-1000 ≤ n ∧ n ≤ 1000 ∧ ds.length ≤ 1000)) = true then some (.fz (.tuple (List.replicate n.toNat ds).flatten)) else none
 | _, _ => none
def oCatL : D → D → Option Rz
 | .list ds, .list es => if ds.length + es.length ≤ sizeLine then some (.ow false (.list (ds ++ es))) else none
 | _, _ => none
theorem op2_catL : Op2 K rCat oCatL := fun x y d e H M Q z sm h1 h2 q k => by
 unfold oCatL at q
 split at q
 ·rename_i ds es
  split at q
  ·rename_i hl
   cases q
   cases h1 with
   | lst t1 t2 =>
    cases h2 with
    | lst u1 u2 => exact ⟨_, _, _, _, rfl, rfl, t1, u1, by rw [t2.length, u2.length]; exact hl, fun p hp => k p (.lst _) hp (t2.append u2)⟩
  ·exact nomatch q
 ·exact nomatch q
def oRepL : D → D → Option Rz
 | .list ds, .int n => if -1000000 ≤ n ∧ n ≤ 1000000 ∧ ds.length * n.toNat ≤ sizeLine then some (.ow false (.list (List.replicate n.toNat ds).flatten)) else none
 | _, _ => none
end
end Vm
namespace Vm
open PySem PySem.Spec PyProof.Rows L2 Fz
section
variable {K : PySem.W.Frag}
def flatD : D → Bool
 | .none => true
 | .bool _ => true
 | .int _ => true
 | .str _ => true
 | _ => false
def oIn (neg : Bool) : D → D → Option Rz
 | d, .list es => if (flatD d && es.all flatD) = true then some (.fz (.bool (if neg then !(es.any fun e => PyData.eqv e d) else es.any fun e => PyData.eqv e d))) else none
 | d, .tuple es => if (flatD d && es.all flatD) = true then some (.fz (.bool (if neg then !(es.any fun e => PyData.eqv e d) else es.any fun e => PyData.eqv e d))) else none
 | _, _ => none
theorem r1_flat {H M : Hp} {v : V} {d : D} (h : R1 K H M v d) (f : flatD d = true) : flatV v = true ∧ Rp K M v d := by
 cases h with
 | non => exact ⟨rfl, .non⟩
 | bl b => exact ⟨rfl, .bl b⟩
 | int i => exact ⟨rfl, .int i⟩
 | str x => exact ⟨rfl, .str x⟩
 | _ => exact absurd f Bool.false_ne_true
theorem rp_flat {M : Hp} {v : V} {d : D} (h : Rp K M v d) (f : flatD d = true) : flatV v = true := by
 cases h <;> first | rfl | exact absurd f Bool.false_ne_true
theorem eqV_flat {M : Hp} {v u : V} {d e : D} (h : Rp K M v d) (g : Rp K M u e) (f : flatD d = true) (f' : flatD e = true) : eqV v u = PyData.eqv d e := by
 cases h <;> first | exact absurd f Bool.false_ne_true | skip
 all_goals (cases g <;> first | exact absurd f' Bool.false_ne_true | skip)
 all_goals simp [eqV, PyData.eqv]
theorem inV_flat {M : Hp} {v : V} {d : D} (h : Rp K M v d) (f : flatD d = true) : ∀ {xs : List V} {es : List D}, Rps K M xs es → es.all flatD = true → xs.all flatV = true ∧ inV v xs = es.any fun e => PyData.eqv e d
 | _, _, .nil, _ => ⟨rfl, rfl⟩
 | _, _, .cons hx t, g => by
  rw [List.all_cons, Bool.and_eq_true] at g
  obtain ⟨i1, i2⟩ := inV_flat h f t g.2
  refine ⟨by rw [List.all_cons, rp_flat hx g.1, i1]; rfl, ?_⟩
  unfold inV at i2 ⊢
  rw [List.any_cons, List.any_cons, i2, eqV_flat hx h g.1 f]
theorem op2_in {neg : Bool} : Op2 K (rIn K neg) (oIn neg) := fun x y d e H M Q z sm h1 h2 q k => by
 cases e with
 | list es =>
  unfold oIn at q
  dsimp only at q
  split at q
  ·rename_i hf
   rw [Bool.and_eq_true] at hf
   cases q
   obtain ⟨f1, r1⟩ := r1_flat h1 hf.1
   cases h2 with
   | lst t1 t2 =>
    obtain ⟨i1, i2⟩ := inV_flat r1 hf.1 t2 hf.2
    refine ⟨_, _, rfl, .inl (.inl (.inl t1)), f1, i1, ?_⟩
    rw [i2]
    exact k.1 _ (.bl _)
  ·exact nomatch q
 | tuple es =>
  unfold oIn at q
  dsimp only at q
  split at q
  ·rename_i hf
   rw [Bool.and_eq_true] at hf
   cases q
   obtain ⟨f1, r1⟩ := r1_flat h1 hf.1
   obtain ⟨a, rfl⟩ := h2.tupR
   obtain ⟨xs, t1, t2⟩ := h2.sqT sm
   obtain ⟨i1, i2⟩ := inV_flat r1 hf.1 t2 hf.2
   refine ⟨_, _, rfl, .inr t1, f1, i1, ?_⟩
   rw [i2]
   exact k.1 _ (.bl _)
  ·exact nomatch q
 | _ => exact nomatch q
def oInS (neg : Bool) : D → D → Option Rz
 | .str x, .str z => match x.cps.toList with
  | [c] => some (.fz (.bool (if neg then !decide (c ∈ z.cps.toList) else decide (c ∈ z.cps.toList))))
  | _ => none
 | _, _ => none
theorem one_sgn {x : Str} {c : Nat} (h : x.cps.toList = [c]) : x = ⟨#[c]⟩ := str_ext (by rw [h])
theorem op2_notInS : Op2 K (fun x y H Q => ∃ (c : Nat) (z : Str), x = .str ⟨#[c]⟩ ∧ y = .str z ∧ Q (.bl (!decide (c ∈ z.cps.toList))) H) (oInS true) := fun x y d e H M Q z sm h1 h2 q k => by
 cases h1 <;> cases h2 <;> first | (cases q; done) | skip
 rename_i a b
 unfold oInS at q
 dsimp only at q
 split at q
 ·rename_i c hc
  cases q
  have := one_sgn hc; subst this
  exact ⟨c, b, rfl, rfl, k.1 _ (.bl _)⟩
 ·exact nomatch q
def oCatS : D → D → Option Rz
 | .str x, .str y => if x.length + y.length ≤ sizeLine then some (.fz (.str (x ++ y))) else none
 | _, _ => none
theorem op2_catS : Op2 K (fun x y H Q => ∃ i j, x = .str i ∧ y = .str j ∧ i.length + j.length ≤ sizeLine ∧ Q (.str (i ++ j)) H) oCatS := fun x y d e H M Q z sm h1 h2 q k => by
 cases h1 <;> cases h2 <;> first | (cases q; done) | skip
 unfold oCatS at q
 dsimp only at q
 split at q
 ·rename_i hl; cases q; exact ⟨_, _, rfl, rfl, hl, k.1 _ (.str _)⟩
 ·exact nomatch q
def isN : D → Bool
 | .dict [(.list [], .list _)] => true
 | _ => false
theorem R1.n {H M : Hp} {v : V} {d : D} (h : R1 K H M v d) (i : isN d = true) : ∃ (a : Addr) (o : Obj) (xs : List V) (ds : List D), v = .ref a ∧ d = .dict [(.list [], .list ds)] ∧ M a = some (.frz o (.tup xs)) ∧ (o.cls = .type "tuple" ∧ o.dict = none) ∧ Rps K M xs ds := by
 have key : ∃ ds, d = .dict [(.list [], .list ds)] := by
  unfold isN at i
  split at i
  ·exact ⟨_, rfl⟩
  ·exact nomatch i
 obtain ⟨ds, rfl⟩ := key
 generalize e : PyData.dict [(.list [], .list ds)] = d at h
 cases h with
 | tupN h1 h2 h3 => cases e; exact ⟨_, _, _, _, rfl, rfl, h1, h2, h3⟩
 | dic h1 h2 h3 =>
  cases e
  rename_i kvs
  cases kvs with
  | nil => cases h2
  | cons p t => obtain ⟨k, w⟩ := p; cases k <;> cases h2
 | diT h1 h2 h3 =>
  cases e
  rename_i kvs
  cases kvs with
  | nil => cases h2
  | cons p t => cases h2
 | _ => cases e
def oLen : D → Option Rz
 | .list ds => some (.fz (.int ds.length))
 | .tuple ds => some (.fz (.int ds.length))
 | .dict [(.list [], .list ds)] => some (.fz (.int ds.length))
 | _ => none
theorem op1_len : Op1 K (fun x H Q => ∃ p ys, [x] = [.ref p] ∧ (SqL K H p ys ∨ SqT K H p ys) ∧ Q (.int ys.length) H) oLen := fun x d H M Q z sm h q k => by
 cases d with
 | list ds =>
  cases q
  cases h with
  | lst t1 t2 => exact ⟨_, _, rfl, .inl (.inl (.inl t1)), by rw [t2.length]; exact k.1 _ (.int _)⟩
 | tuple ds =>
  cases q
  obtain ⟨a, rfl⟩ := h.tupR
  obtain ⟨xs, t1, t2⟩ := h.sqT sm
  exact ⟨_, _, rfl, .inr t1, by rw [t2.length]; exact k.1 _ (.int _)⟩
 | dict kds =>
  unfold oLen at q
  split at q <;> first | (rename_i he; cases he; done) | skip
  ·rename_i ds he
   rw [he] at h
   obtain ⟨a, o, xs, es, rfl, e, h1, h2, h3⟩ := h.n rfl
   cases e
   cases q
   exact ⟨_, _, rfl, .inr (.inl (.inr ⟨o, sm _ _ h1⟩)), by rw [h3.length]; exact k.1 _ (.int _)⟩
  ·exact nomatch q
 | _ => exact nomatch q
def oLenS : D → Option Rz
 | .str x => if x.length ≤ sizeLine then some (.fz (.int x.length)) else none
 | _ => none
theorem op1_lenS : Op1 K (fun x H Q => ∃ z, [x] = [.str z] ∧ z.length ≤ sizeLine ∧ Q (.int z.length) H) oLenS := fun x d H M Q z sm h q k => by
 cases h <;> first | (cases q; done) | skip
 unfold oLenS at q
 dsimp only at q
 split at q
 ·rename_i hl; cases q; exact ⟨_, rfl, hl, k.1 _ (.int _)⟩
 ·exact nomatch q
def oAbs : D → Option Rz
 | .int i => some (.fz (.int (if i < 0 then -i else i)))
 | _ => none
def oMax := oI fun i j => if j > i then j else i
def oMin := oI fun i j => if j < i then j else i
theorem op2_max : Op2 K (fun x y H Q => ∃ i j, [x, y] = [.int i, .int j] ∧ Q (.int (if j > i then j else i)) H) oMax := fun x y d e H M Q z sm h1 h2 q k => by
 cases h1 <;> cases h2 <;> first | (cases q; done) | skip
 cases q; exact ⟨_, _, rfl, k.1 _ (.int _)⟩
theorem op2_min : Op2 K (fun x y H Q => ∃ i j, [x, y] = [.int i, .int j] ∧ Q (.int (if j < i then j else i)) H) oMin := fun x y d e H M Q z sm h1 h2 q k => by
 cases h1 <;> cases h2 <;> first | (cases q; done) | skip
 cases q; exact ⟨_, _, rfl, k.1 _ (.int _)⟩
def oInt : D → Option Rz
 | .int i => some (.fz (.int i))
 | .bool b => some (.fz (.int (if b then 1 else 0)))
 | _ => none
def oList : D → Option Rz
 | .list ds => some (.ow false (.list ds))
 | .tuple ds => some (.ow false (.list ds))
 | _ => none
theorem op1_list : Op1 K (fun x H Q => ∃ p ys, [x] = [.ref p] ∧ (SqL K H p ys ∨ SqT K H p ys) ∧ ∀ l, H l = none → Q (.ref l) (upd H l (.lst ys))) oList := fun x d H M Q z sm h q k => by
 cases d with
 | list ds =>
  cases q
  cases h with
  | lst t1 t2 => exact ⟨_, _, rfl, .inl (.inl (.inl t1)), fun l hl => k l (.lst _) hl t2⟩
 | tuple ds =>
  cases q
  obtain ⟨a, rfl⟩ := h.tupR
  obtain ⟨xs, t1, t2⟩ := h.sqT sm
  exact ⟨_, _, rfl, .inr t1, fun l hl => k l (.lst _) hl t2⟩
 | _ => exact nomatch q
def oTuple : D → Option Rz
 | .list ds => some (.fz (.tuple ds))
 | .tuple ds => some (.fz (.tuple ds))
 | _ => none
def tyOk : D → Bool
 | .dict ((.int _, _) :: _) => true
 | .dict ((.str _, _) :: _) => true
 | .dict _ => false
 | _ => true
theorem r1_ty {H M : Hp} {v : V} {d : D} (sm : Same M H) (hd : tyOk d = true) (h : R1 K H M v d) : TyX K H v (.type (dTy d)) := by
 cases h with
 | non => exact .base .non
 | bl b => exact .base (.bl b)
 | int i => exact .base (.int i)
 | str x => exact .base (.str x)
 | lst h _ => exact .base (.lst h)
 | tup h _ => exact .base (.tup (sm _ _ h))
 | tupK h _ _ =>
  rcases h H with (h | ⟨o, h⟩) | ⟨o, its, n, h1, h2, _⟩
  ·exact .base (.tup h)
  ·exact .fTuple h
  ·exact .kTuple h1 h2
 | dic h _ _ =>
  rcases h with h | ⟨o, h⟩
  ·exact .base (.dK h)
  ·exact .fDict h
 | diT h e _ =>
  rename_i kvs kds
  have no : ∀ (kvs : List (List Key × V)) (kds : List (D × D)), kvs.map (fun p => PyData.tuple (p.1.map kD)) = kds.map (·.1) → tyOk (.dict kds) = true → False := by
   intro kvs kds e hd
   cases kds with
   | nil => exact absurd hd Bool.false_ne_true
   | cons p kds =>
    cases kvs with
    | nil => simp at e
    | cons q kvs =>
     obtain ⟨x, y⟩ := p
     rw [List.map_cons, List.map_cons] at e
     injection e with e1 e2
     dsimp only at e1
     subst e1
     exact absurd hd Bool.false_ne_true
  exact (no _ _ e hd).elim
 | tupN _ _ _ => exact absurd hd Bool.false_ne_true
def oIsi (n : String) (d : D) : Option Rz := if tyOk d = true then (match kitB (dTy d) n with
 | some b => some (.fz (.bool b))
 | none => none) else if isN d = true then (match kitB "tuple" n with
 | some b => some (.fz (.bool b))
 | none => none) else none
def rIsi1 (n : String) (r : RE) : RE := rOp1 (oIsi n) r
theorem se_isi {B : Bx} {w : WX} {ta : TE} {ra : RE} {n : String} (ha : SE K B w ta ra) : SE K B w (tCB (rIsi K) (tCons ta (tCons (tC (.ty n)) tNil))) (rIsi1 n ra) := fun σ H M W ρ Q s k =>
 se_cb1 (rr := fun xs H Q => match xs with | [x] => rIsi K [x, .ty n] H Q | _ => False) (fun x d H M Q z sm h q k => by
  unfold oIsi at q
  split at q
  ·rename_i hd
   cases e : kitB (dTy d) n with
   | none => rw [e] at q; exact nomatch q
   | some b =>
    rw [e] at q
    cases q
    exact ⟨x, .ty n, _, _, b, rfl, .ty n, r1_ty sm hd h, kit_ty e, k.1 _ (.bl b)⟩
  ·split at q
   ·rename_i hi
    obtain ⟨a, o, xs, ds, rfl, rfl, h1, h2, h3⟩ := h.n hi
    cases e : kitB "tuple" n with
    | none => rw [e] at q; exact nomatch q
    | some b =>
     rw [e] at q
     cases q
     exact ⟨_, .ty n, _, _, b, rfl, .ty n, .fTuple (sm _ _ h1), kit_ty e, k.1 _ (.bl b)⟩
   ·exact nomatch q) ha σ H M W ρ Q s k
def cutL (ds : List D) (lo hi : Option Int) : List D := (ds.drop (HT.sIx ds.length 0 lo)).take (HT.sIx ds.length ds.length hi - HT.sIx ds.length 0 lo)
def SlO (K : PySem.W.Frag) (r : V → Option Int → Option Int → Hp → VK → Prop) (f : D → Option Int → Option Int → Option Rz) : Prop := ∀ (x : V) (d : D) (lo hi : Option Int) (H M : Hp) (Q : VK) (z : Rz), Same M H → R1 K H M x d → f d lo hi = some z → ResK K H M z Q → r x lo hi H Q
def rNoPart : Env → Out (Option Int) := fun ρ => .ok ρ none
def rPart (r : RE) : Env → Out (Option Int) := fun ρ => (r ρ).bind fun ρ1 tp => match rdT ρ1 tp with
 | some (.int i) => .ok ρ1 (some i)
 | _ => .stk
def rSl (f : D → Option Int → Option Int → Option Rz) (a : RE) (lo hi : Env → Out (Option Int)) : RE := fun ρ => (a ρ).bind fun ρ1 tp => (lo ρ1).bind fun ρ2 l => (hi ρ2).bind fun ρ3 h => match rdT ρ3 tp with
 | some d => match f d l h with
  | some z => .ok ρ3 z.tp
  | none => .stk
 | none => .stk
theorem so_none {B : Bx} {w : WX} : SO K B w tNoPart rNoPart := fun σ H M W ρ Q s k => k _ _ _ _ (Gr.refl _ _) s rfl
theorem so_some {B : Bx} {w : WX} {t : TE} {r : RE} (h : SE K B w t r) : SO K B w (tPart t) (rPart r) := fun σ H M W ρ Q s k =>
 h σ H M W ρ _ s (KG.bind k fun ρ1 tp v M1 W1 H1 _ g1 s1 h1 k1 => by
  split at k1
  ·rename_i i e
   exact ⟨i, r1_int (h1.r1 s1 e), k1 _ _ _ _ (Gr.refl _ _) s1 rfl⟩
  ·exact False.elim k1)
theorem se_sl {B : Bx} {w : WX} {te : TE} {ra : RE} {tl th : TO} {lo hi : Env → Out (Option Int)} {r : V → Option Int → Option Int → Hp → VK → Prop} {f : D → Option Int → Option Int → Option Rz} (ho : SlO K r f) (ha : SE K B w te ra) (hl : SO K B w tl lo) (hh : SO K B w th hi) : SE K B w (tSl r te tl th) (rSl f ra lo hi) := fun σ H M W ρ Q s k =>
 ha σ H M W ρ _ s (KG.bind k fun ρ1 tp v M1 W1 H1 _ g1 s1 h1 k1 => by
  obtain ⟨Wp, sp, pd⟩ := pend s1 h1
  refine hl σ H1 M1 Wp ρ1 _ sp ?_
  cases e : lo ρ1 with
  | stk => rw [e] at k1; exact k1
  | er ρ2 x =>
   rw [e] at k1
   intro d M2 W2 H2 g2 s2 hx
   obtain ⟨W3, g3, s3, _, _⟩ := pd M2 W2 H2 ρ2 g2 s2
   exact k1 d M2 W3 H2 g3 s3 hx
  | ok ρ2 l =>
   rw [e] at k1
   intro l' M2 W2 H2 g2 s2 hx
   have hx : l = l' := hx
   subst hx
   refine hh σ H2 M2 W2 ρ2 _ s2 ?_
   have k1 : KG K B M1 W1 σ w (RelV1 K B σ) ((hi ρ2).bind fun ρ3 h => match rdT ρ3 tp with
    | some d => match f d l h with
     | some z => .ok ρ3 z.tp
     | none => .stk
    | none => .stk) Q := k1
   cases e3 : hi ρ2 with
   | stk => rw [e3] at k1; exact k1
   | er ρ3 x =>
    rw [e3] at k1
    intro d M3 W3 H3 g3 s3 hx
    obtain ⟨W4, g4, s4, _, _⟩ := pd M3 W3 H3 ρ3 (g2.trans g3) s3
    exact k1 d M3 W4 H3 g4 s4 hx
   | ok ρ3 h =>
    rw [e3] at k1
    intro h' M3 W3 H3 g3 s3 hx
    have hx : h = h' := hx
    subst hx
    obtain ⟨W4, g4, s4, _, t4⟩ := pd M3 W3 H3 ρ3 (g2.trans g3) s3
    simp only [Out.bind] at k1
    cases e4 : rdT ρ3 tp with
    | none => rw [e4] at k1; exact False.elim k1
    | some d =>
     rw [e4] at k1
     dsimp only at k1
     cases e5 : f d l h with
     | none => rw [e5] at k1; exact False.elim k1
     | some z =>
      rw [e5] at k1
      exact ho v d l h H3 M3 Q z s4.mh (t4.r1 s4 e4) e5 (ResK.mk (w := w) s4 (KG.up g4 k1)))
def oSlT (d : D) (lo hi : Option Int) : Option Rz := match d with
 | .tuple ds => some (.fz (.tuple (cutL ds lo hi)))
 | _ => none
def oSlL (d : D) (lo hi : Option Int) : Option Rz := match d with
 | .list ds => some (.ow false (.list (cutL ds lo hi)))
 | _ => none
def oSlS (d : D) (lo hi : Option Int) : Option Rz := match d with
 | .str x => if x.length ≤ sizeLine then some (.fz (.str (cutS x lo hi))) else none
 | _ => none
theorem cut_rp {M : Hp} {xs : List V} {ds : List D} {lo hi : Option Int} (h : Rps K M xs ds) : Rps K M (cutV xs lo hi) (cutL ds lo hi) := by
 unfold cutV cutL
 rw [h.length]
 exact (h.drop _).take _
theorem slo_L : SlO K (rSlL K) oSlL := fun x d lo hi H M Q z sm h q k => by
 cases d with
 | list ds =>
  cases q
  cases h with
  | lst t1 t2 => exact ⟨_, _, rfl, .inl (.inl t1), fun p hp => k p (.lst _) hp (cut_rp t2)⟩
 | _ => exact nomatch q
theorem slo_S : SlO K rSlS oSlS := fun x d lo hi H M Q z sm h q k => by
 cases d with
 | str s =>
  unfold oSlS at q
  dsimp only at q
  split at q
  ·rename_i hl
   cases q
   have := r1_str h
   subst this
   exact ⟨s, rfl, hl, k.1 _ (.str _)⟩
  ·exact nomatch q
 | _ => exact nomatch q
def rLenSc (i : Nat) : RE := fun ρ => match ρ[i]? with
 | some (some (.s, .list ds)) => .ok ρ (.fz (.int ds.length))
 | _ => .stk
def rIxSc (i : Nat) (r : RE) : RE := fun ρ => match ρ[i]? with
 | some (some (.s, .list ds)) => (r ρ).bind fun ρ1 tp => match rdT ρ1 tp with
  | some (.int j) => match atI ds j with
   | some (.int n) => .ok ρ1 (.fz (.int n))
   | _ => .stk
  | _ => .stk
 | _ => .stk
theorem se_lenSc {B : Bx} {w : WX} {i : Nat} : SE K B w (tCB (fun xs H Q => ∃ p ys, xs = [.ref p] ∧ (SqL K H p ys ∨ SqT K H p ys) ∧ Q (.int ys.length) H) (tCons (tVar i) tNil)) (rLenSc i) := fun σ H M W ρ Q s k => by
 unfold rLenSc at k
 split at k
 ·rename_i ds hr
  obtain ⟨v, h1, a, ns, rfl, h2, h3⟩ := s.sl i _ _ hr
  refine ⟨.ref a, h1, a, ns.map V.int, rfl, .inl ((s.bw.trans s.wh).seq h2), ?_⟩
  have := k (.int ds.length) M W H (Gr.refl _ _) s (Rp.int _)
  cases h3
  rw [List.length_map] at this ⊢
  exact this
 ·exact False.elim k
theorem se_ixSc {B : Bx} {w : WX} {i : Nat} {tb : TE} {r : RE} (hb : SE K B w tb r) : SE K B w (tOp (rIxL K) (tVar i) tb) (rIxSc i r) := fun σ H M W ρ Q s k => by
 unfold rIxSc at k
 split at k
 ·rename_i ds hr
  obtain ⟨v, h1, a, ns, rfl, h2, h3⟩ := s.sl i _ _ hr
  refine ⟨.ref a, h1, hb σ H M W ρ _ s (KG.bind k fun ρ1 tp u M1 W1 H1 _ g1 s1 t1 k1 => ?_)⟩
  split at k1
  ·rename_i j e
   split at k1
   ·rename_i n e2
    have := r1_int (t1.r1 s1 e)
    subst this
    cases h3
    have hm : atI (ns.map V.int) j = some (.int n) := by
     unfold atI at e2 ⊢
     rw [List.length_map] at e2 ⊢
     cases q : ixN ns.length j with
     | none => rw [q] at e2; exact nomatch e2
     | some m =>
      rw [q] at e2
      simp only [Option.bind, List.getElem?_map] at e2 ⊢
      cases q2 : ns[m]? with
      | none => rw [q2] at e2; exact nomatch e2
      | some x => rw [q2] at e2; cases e2; rfl
    exact ⟨a, ns.map V.int, j, .int n, rfl, rfl, (s1.bw.trans s1.wh).seq h2, hm, k1 _ _ _ _ (Gr.refl _ _) s1 (Rp.int _)⟩
   ·exact False.elim k1
  ·exact False.elim k1
 ·exact False.elim k
end
end Vm
namespace Vm
open PySem PySem.Spec PyProof.Rows L2 Fz
section
variable {K : PySem.W.Frag} {B : Bx} {w : WX} {M W H : Hp} {ρ : Env} {σ : L2.St}
theorem St.turnSlot {i : Nat} {u p : Bool} {d d' : D} {a : Addr} {o o' : HO} (s : St K B M W H ρ σ) (hr : ρ[i]? = some (some (.o u p, d))) (hσ : σ[i]? = some (some (.ref a))) (ha : H a = some o) (hW : W a = none) (ho' : OwnO K M u o' d') : St K B M W (upd H a o') (ρ.set i (some (.o u p, d'))) σ := by
 have ap := apart_forget s (g := .o u p) rfl hr hσ
 have hmu : OwnK o := by
  obtain ⟨v, q1, q2⟩ := s.sl i _ _ hr
  rw [hσ] at q1; cases q1
  obtain ⟨a', o1, e, h1, h2, _⟩ := q2
  cases e
  rw [ha] at h1; cases h1
  exact h2.kind
 have s2 := (s.forget i).turn (o' := o') ha hmu hW ap
 refine s2.put hσ (g := .o u p) ⟨a, o', rfl, upd_same, ho', hW, fun hp => ?_⟩ (fun _ z => nomatch z) (fun b _ e => by cases e; exact ap.turnd (s.forget i))
 obtain ⟨v, q1, q2⟩ := s.sl i _ _ hr
 rw [hσ] at q1; cases q1
 obtain ⟨a', o2, e, _, _, _, q⟩ := q2
 cases e
 exact q hp
theorem St.cell {i : Nat} {u p : Bool} {d : D} (s : St K B M W H ρ σ) (hr : ρ[i]? = some (some (.o u p, d))) : ∃ a o, σ[i]? = some (some (.ref a)) ∧ H a = some o ∧ OwnO K M u o d ∧ W a = none := by
 obtain ⟨v, q1, a, o, rfl, q2, q3, q4, _⟩ := s.sl i _ _ hr
 exact ⟨a, o, q1, q2, q3, q4⟩
end
def MutL (K : PySem.W.Frag) (r : V → List V → Hp → VK → Prop) (f : List D → List D → Option (List D × D)) : Prop := ∀ (a : Addr) (xs : List V) (ds : List D) (vs : List V) (es : List D) (H M : Hp) (Q : VK) (ds' : List D) (res : D), H a = some (.lst xs) → Rps K M xs ds → Rps K M vs es → Same M H → f ds es = some (ds', res) → (∀ v xs', Rps K M xs' ds' → Rp K M v res → Q v (upd H a (.lst xs'))) → r (.ref a) vs H Q
def rMethL (i : Nat) (f : List D → List D → Option (List D × D)) (a : RA) : RE := fun ρ => match ρ[i]? with
 | some (some (.o false _, .list _)) => (a ρ).bind fun ρ1 tps => match stFs ρ1 tps with
  | some (ρ2, es) => match ρ2[i]? with
   | some (some (.o false p, .list ds)) => match f ds es with
    | some (ds', res) => .ok (ρ2.set i (some (.o false p, .list ds'))) (.fz res)
    | none => .stk
   | _ => .stk
  | none => .stk
 | _ => .stk
section
variable {K : PySem.W.Frag} {B : Bx} {w : WX} {tA : TA} {rA : RA}
theorem ownL {M : Hp} {o : HO} {ds : List D} (h : OwnO K M false o (.list ds)) : ∃ xs, o = .lst xs ∧ Rps K M xs ds := by
 cases o <;> first | exact False.elim h | exact ⟨_, rfl, h⟩
theorem meth_end {r : V → List V → Hp → VK → Prop} {f : List D → List D → Option (List D × D)} {i : Nat} (ho : MutL K r f) {M1 W1 H1 : Hp} {ρ1 : Env} {σ : L2.St} {tps : List Tp} {vs : List V} {Q : VK} {v : V} (s1 : St K B M1 W1 H1 ρ1 σ) (h1 : TpsOk K B M1 W1 H1 ρ1 σ tps vs) (hσ : σ[i]? = some (some v))
  (k1 : KG K B M1 W1 σ w (RelV1 K B σ) (match stFs ρ1 tps with
  | some (ρ2, es) => match ρ2[i]? with
   | some (some (.o false p, .list ds)) => match f ds es with
    | some (ds', res) => .ok (ρ2.set i (some (.o false p, .list ds'))) (.fz res)
    | none => .stk
   | _ => .stk
  | none => .stk) Q) : r v vs H1 Q := by
 cases e : stFs ρ1 tps with
 | none => rw [e] at k1; exact False.elim k1
 | some x =>
  obtain ⟨ρ2, es⟩ := x
  rw [e] at k1
  dsimp only at k1
  obtain ⟨M2, W2, g2, s2, r2⟩ := stFs_ok s1 h1 e
  split at k1
  ·rename_i p ds hr2
   obtain ⟨a, o, q1, q2, q3, q4⟩ := s2.cell hr2
   rw [hσ] at q1; cases q1
   obtain ⟨xs, rfl, q3⟩ := ownL q3
   cases e3 : f ds es with
   | none => rw [e3] at k1; exact False.elim k1
   | some y =>
    obtain ⟨ds', res⟩ := y
    rw [e3] at k1
    dsimp only at k1
    refine ho a xs ds vs es H1 M2 Q ds' res q2 q3 r2 s2.mh e3 fun v xs' hx hv => ?_
    exact k1 v M2 W2 _ g2 (s2.turnSlot hr2 hσ q2 q4 (o' := .lst xs') (d' := .list ds') hx) hv
  ·exact False.elim k1
theorem se_methL {r : V → List V → Hp → VK → Prop} {f : List D → List D → Option (List D × D)} {i : Nat} (ho : MutL K r f) (hA : SA K B w tA rA) : SE K B w (tBM K "list" r (tVar i) tA) (rMethL i f rA) := fun σ H M W ρ Q s k => by
 unfold rMethL at k
 split at k
 ·rename_i p0 ds0 hr
  obtain ⟨a, o, q1, q2, q3, q4⟩ := s.cell hr
  obtain ⟨xs, rfl, q3⟩ := ownL q3
  refine ⟨.ref a, q1, .inl ⟨rfl, xs, .inl (.inl q2)⟩, hA σ H M W ρ _ s (KG.bind k fun ρ1 tps vs M1 W1 H1 _ g1 s1 h1 k1 => meth_end ho s1 h1 q1 k1)⟩
 ·exact False.elim k
def mAppend (ds es : List D) : Option (List D × D) := match es with
 | [e] => if ds.length < sizeLine then some (ds ++ [e], .none) else none
 | _ => none
theorem mut_append : MutL K rAppend mAppend := fun a xs ds vs es H M Q ds' res ha hx hv sm e k => by
 cases hv with
 | nil => exact nomatch e
 | cons h1 h =>
  cases h with
  | cons _ _ => exact nomatch e
  | nil =>
   unfold mAppend at e
   dsimp only at e
   split at e
   ·rename_i hl; cases e
    exact ⟨a, xs, _, rfl, rfl, ha, by rw [hx.length]; exact hl, k _ _ (hx.append (.cons h1 .nil)) .non⟩
   ·exact nomatch e
theorem Rps.dropLast {M : Hp} {vs : List V} {ds : List D} (h : Rps K M vs ds) : Rps K M vs.dropLast ds.dropLast := by
 rw [List.dropLast_eq_take, List.dropLast_eq_take, h.length]
 exact h.take _
def mPopI (ds : List D) : D → Option (List D × D)
 | .int i => if -1000000 ≤ i ∧ i ≤ 1000000 then (match ixN ds.length i with
  | some j => match ds[j]? with
   | some d => some (ds.eraseIdx j, d)
   | none => none
  | none => none) else none
 | _ => none
def mPopAt (ds es : List D) : Option (List D × D) := match es with
 | [x] => mPopI ds x
 | _ => none
theorem mut_popAt : MutL K rPopAt mPopAt := fun a xs ds vs es H M Q ds' res ha hx hv sm e k => by
 cases hv with
 | nil => exact nomatch e
 | cons h1 h =>
  cases h with
  | cons _ _ => exact nomatch e
  | nil =>
   cases h1 <;> first | (cases e; done) | skip
   rename_i i
   unfold mPopAt mPopI at e
   dsimp only at e
   split at e
   ·rename_i hb
    split at e
    ·rename_i j hj
     split at e
     ·rename_i d hd
      cases e
      obtain ⟨v, v1, v2⟩ := hx.get hd
      exact ⟨a, xs, i, j, v, rfl, rfl, ha, by omega, by omega, by rw [hx.length]; exact (ixN_seq hj).1, v1, k _ _ (hx.erase j) v2⟩
     ·exact nomatch e
    ·exact nomatch e
   ·exact nomatch e
def mExtT (ds : List D) : D → Option (List D × D)
 | .tuple fs => if ds.length + fs.length ≤ sizeLine then some (ds ++ fs, .none) else none
 | _ => none
def mExtendT (ds es : List D) : Option (List D × D) := match es with
 | [x] => mExtT ds x
 | _ => none
def mExtL (ds : List D) : D → Option (List D × D)
 | .list fs => if ds.length + fs.length ≤ sizeLine then some (ds ++ fs, .none) else none
 | _ => none
def mExtendL (ds es : List D) : Option (List D × D) := match es with
 | [x] => mExtL ds x
 | _ => none
theorem mut_extendL : MutL K rExtend mExtendL := fun a xs ds vs es H M Q ds' res ha hx hv sm e k => by
 cases hv with
 | nil => exact nomatch e
 | cons h1 h =>
  cases h with
  | cons _ _ => exact nomatch e
  | nil =>
   rename_i v d
   cases d with
   | list fs =>
    unfold mExtendL mExtL at e
    dsimp only at e
    split at e
    ·rename_i hl; cases e
     cases h1 with
     | lst t1 t2 => exact ⟨a, _, xs, _, rfl, rfl, ha, sm _ _ t1, by rw [hx.length, t2.length]; exact hl, k _ _ (hx.append t2) .non⟩
    ·exact nomatch e
   | _ => exact nomatch e
end
def r2 {α : Type} (a b : RE) (kf : Env → Tp → Tp → Out α) : Env → Out α := fun ρ => (a ρ).bind fun ρ1 t1 => (b ρ1).bind fun ρ2 t2 => kf ρ2 t1 t2
section
variable {K : PySem.W.Frag} {B : Bx} {w : WX} {ta tb : TE} {ra rb : RE} {M W H : Hp} {ρ : Env} {σ : L2.St}
def Two (K : PySem.W.Frag) (B : Bx) (M W H : Hp) (ρ : Env) (σ : L2.St) (t1 t2 : Tp) (v1 v2 : V) : Prop := TpOkL K B M W H ρ σ t1 v1 ∧ TpOkL K B M W H ρ σ t2 v2 ∧ ((∃ g d, t1 = .ow g d) → (∃ g d, t2 = .ow g d) → v2 ≠ v1)
theorem twoS {D : Ends} {kf : Env → Tp → Tp → Out Fl} {G : V → Hp → Prop} {P : V → V → Hp → Prop} (ha : SE K B w ta ra) (hb : SE K B w tb rb) (s : St K B M W H ρ σ) (k : KS K B M W w D (r2 ra rb kf ρ))
  (hw : ∀ x H1, (tb σ H1 fun y H2 => P x y H2) → G x H1)
  (fin : ∀ ρ2 t1 t2 v1 v2 M2 W2 H2, Gr M W M2 W2 → St K B M2 W2 H2 ρ2 σ → Two K B M2 W2 H2 ρ2 σ t1 t2 v1 v2 → KS K B M2 W2 w D (kf ρ2 t1 t2) → P v1 v2 H2) : ta σ H G :=
 ha σ H M W ρ _ s (KS.bind k fun ρ1 t1 v1 M1 W1 H1 _ g1 s1 h1 k1 => by
  obtain ⟨Wp, sp, pd⟩ := pend s1 h1
  refine hw _ _ (hb σ H1 M1 Wp ρ1 _ sp ?_)
  cases e : rb ρ1 with
  | stk => rw [e] at k1; exact k1
  | er ρ2 x =>
   rw [e] at k1
   intro d M2 W2 H2 g2 s2 hx
   obtain ⟨W3, g3, s3, _, _⟩ := pd M2 W2 H2 ρ2 g2 s2
   exact k1 σ d M2 W3 H2 g3 s3 hx
  | ok ρ2 t2 =>
   rw [e] at k1
   intro v2 M2 W2 H2 g2 s2 h2
   obtain ⟨W3, g3, s3, f3, h3⟩ := pd M2 W2 H2 ρ2 g2 s2
   obtain ⟨q1, q2⟩ := f3 t2 v2 h2.l
   exact fin ρ2 t1 t2 v1 v2 M2 W3 H2 (g1.trans g3) s3 ⟨h3, q1, q2⟩ (KS.up g3 k1))
theorem twoE {kf : Env → Tp → Tp → Out Tp} {Q : VK} {G : V → Hp → Prop} {P : V → V → Hp → Prop} (ha : SE K B w ta ra) (hb : SE K B w tb rb) (s : St K B M W H ρ σ) (k : KG K B M W σ w (RelV1 K B σ) (r2 ra rb kf ρ) Q)
  (hw : ∀ x H1, (tb σ H1 fun y H2 => P x y H2) → G x H1)
  (fin : ∀ ρ2 t1 t2 v1 v2 M2 W2 H2, Gr M W M2 W2 → St K B M2 W2 H2 ρ2 σ → Two K B M2 W2 H2 ρ2 σ t1 t2 v1 v2 → KG K B M2 W2 σ w (RelV1 K B σ) (kf ρ2 t1 t2) Q → P v1 v2 H2) : ta σ H G :=
 ha σ H M W ρ _ s (KG.bind k fun ρ1 t1 v1 M1 W1 H1 _ g1 s1 h1 k1 => by
  obtain ⟨Wp, sp, pd⟩ := pend s1 h1
  refine hw _ _ (hb σ H1 M1 Wp ρ1 _ sp ?_)
  cases e : rb ρ1 with
  | stk => rw [e] at k1; exact k1
  | er ρ2 x =>
   rw [e] at k1
   intro d M2 W2 H2 g2 s2 hx
   obtain ⟨W3, g3, s3, _, _⟩ := pd M2 W2 H2 ρ2 g2 s2
   exact k1 d M2 W3 H2 g3 s3 hx
  | ok ρ2 t2 =>
   rw [e] at k1
   intro v2 M2 W2 H2 g2 s2 h2
   obtain ⟨W3, g3, s3, f3, h3⟩ := pd M2 W2 H2 ρ2 g2 s2
   obtain ⟨q1, q2⟩ := f3 t2 v2 h2.l
   exact fin ρ2 t1 t2 v1 v2 M2 W3 H2 (g1.trans g3) s3 ⟨h3, q1, q2⟩ (KG.up g3 k1))
end
def kSetI (i : Nat) (ρ1 : Env) (tv ti : Tp) : Out Fl := match stF ρ1 tv with
 | some (ρ2, e) => match rdT ρ2 ti, ρ2[i]? with
  | some (.int n), some (some (.o false p, .list ds)) => match ixN ds.length n with
   | some j => .ok (ρ2.set i (some (.o false p, .list (ds.set j e)))) .nx
   | none => .stk
  | _, _ => .stk
 | none => .stk
def rSetI (i : Nat) (a b : RE) : RS := fun ρ => match ρ[i]? with
 | some (some (.o false _, .list _)) => r2 a b (kSetI i) ρ
 | _ => .stk
section
variable {K : PySem.W.Frag} {B : Bx} {w : WX} {ta tb : TE} {ra rb : RE}
theorem ss_setI {i : Nat} (ha : SE K B w ta ra) (hb : SE K B w tb rb) : SS K B w (tAsg ta (gSub (tVar i) tb rSetL)) (rSetI i ra rb) := fun D σ H M W ρ s k => by
 unfold rSetI at k
 split at k
 ·rename_i p0 ds0 hr
  obtain ⟨a, o, q1, q2, q3, q4⟩ := s.cell hr
  refine twoS (P := fun v x H3 => rSetL (.ref a) x v H3 fun H4 => D.nx σ H4) ha hb s k (fun x H1 h => ⟨.ref a, q1, h⟩) fun ρ1 tv ti v x M1 W1 H1 g1 s1 ⟨h1, h2, h3⟩ k1 => ?_
  unfold kSetI at k1
  cases e : stF ρ1 tv with
  | none => rw [e] at k1; exact False.elim k1
  | some y =>
   obtain ⟨ρ2, ed⟩ := y
   rw [e] at k1
   dsimp only at k1
   obtain ⟨M2, W2, g2, s2, r2, f2⟩ := stF_okL s1 h1 e
   have h2' := f2 ti x h2 (fun g d e1 g' d' e2 => h3 ⟨g, d, e1⟩ ⟨g', d', e2⟩)
   split at k1
   ·rename_i n p ds hn hr2
    obtain ⟨a', o', t1, t2, t3, t4⟩ := s2.cell hr2
    rw [q1] at t1; cases t1
    obtain ⟨xs, rfl, t3⟩ := ownL t3
    have := r1_int (h2'.r1 s2 hn)
    subst this
    cases ej : ixN ds.length n with
    | none => rw [ej] at k1; exact False.elim k1
    | some j =>
     rw [ej] at k1
     refine ⟨a, xs, n, j, rfl, rfl, t2, by rw [t3.length]; exact ej, ?_⟩
     exact k1 σ M2 W2 _ g2 (s2.turnSlot hr2 q1 t2 t4 (o' := .lst (xs.set j v)) (d' := .list (ds.set j ed)) (t3.set r2 j))
   ·exact False.elim k1
 ·exact False.elim k
end
end Vm
namespace Vm
open PySem PySem.Spec PyProof.Rows L2 Fz
def key1 : D → Option Key
 | .int i => some (.inl i)
 | .str x => some (.inr x)
 | _ => none
def keys1 : List D → Option (List Key)
 | [] => some []
 | d :: ds => match key1 d, keys1 ds with
  | some k, some ks => some (k :: ks)
  | _, _ => none
def keyT : D → Option (List Key)
 | .tuple ds => if cst ds = true then none else keys1 ds
 | _ => none
def keyOf (u : Bool) (d : D) : Option (Key ⊕ List Key) := if u = true then (keyT d).map .inr else (key1 d).map .inl
def sameK (k : Key ⊕ List Key) (d : D) : Bool := match k, d with
 | .inl k, d => decide (key1 d = some k)
 | .inr ks, .tuple ds => decide (keys1 ds = some ks)
 | _, _ => false
def lookD (kds : List (D × D)) (k : Key ⊕ List Key) : Option D := (kds.find? fun p => sameK k p.1).map (·.2)
def putD (kds : List (D × D)) (k : Key ⊕ List Key) (kd d : D) : List (D × D) := if (kds.any fun p => sameK k p.1) = true then kds.map (fun p => if sameK k p.1 = true then (p.1, d) else p) else kds ++ [(kd, d)]
def dropD (kds : List (D × D)) (k : Key ⊕ List Key) : List (D × D) := kds.filter fun p => !sameK k p.1
theorem key1_kD (k : Key) : key1 (kD k) = some k := by cases k <;> rfl
theorem keys1_kD : ∀ ks : List Key, keys1 (ks.map kD) = some ks
 | [] => rfl
 | k :: ks => by rw [List.map_cons]; unfold keys1; rw [key1_kD, keys1_kD ks]
theorem key1_of {d : D} {k : Key} (h : key1 d = some k) : d = kD k := by
 cases d <;> first | (cases h; done) | (cases h; rfl)
theorem keys1_of : ∀ {ds : List D} {ks : List Key}, keys1 ds = some ks → ds = ks.map kD
 | [], ks, h => by cases h; rfl
 | d :: ds, ks, h => by
  unfold keys1 at h
  cases e1 : key1 d with
  | none => rw [e1] at h; exact nomatch h
  | some k =>
   cases e2 : keys1 ds with
   | none => rw [e1, e2] at h; exact nomatch h
   | some ks' => rw [e1, e2] at h; cases h; rw [List.map_cons, key1_of e1, keys1_of e2]
section
variable {K : PySem.W.Frag} {M : Hp}
theorem sameK_l (k k' : Key) : sameK (.inl k) (kD k') = decide (k' = k) := by
 unfold sameK
 dsimp only
 rw [key1_kD]
 simp
theorem sameK_r (k k' : List Key) : sameK (.inr k) (.tuple (k'.map kD)) = decide (k' = k) := by
 unfold sameK
 dsimp only
 rw [keys1_kD]
 simp
inductive Prs (K : PySem.W.Frag) (M : Hp) {κ : Type} (kd : κ → D) : List (κ × V) → List (D × D) → Prop
 | nil : Prs K M kd [] []
 | cons {k : κ} {v : V} {d : D} {kvs : List (κ × V)} {kds : List (D × D)} : Rp K M v d → Prs K M kd kvs kds → Prs K M kd ((k, v) :: kvs) ((kd k, d) :: kds)
theorem prs_of {κ : Type} {kd : κ → D} : ∀ {kvs : List (κ × V)} {kds : List (D × D)}, kvs.map (fun p => kd p.1) = kds.map (·.1) → Rps K M (kvs.map (·.2)) (kds.map (·.2)) → Prs K M kd kvs kds
 | [], [], _, _ => .nil
 | [], _ :: _, e, _ => by simp at e
 | _ :: _, [], e, _ => by simp at e
 | (k, v) :: kvs, (x, d) :: kds, e, h => by
  rw [List.map_cons, List.map_cons] at e
  injection e with e1 e2
  dsimp only at e1
  subst e1
  rw [List.map_cons, List.map_cons] at h
  cases h with
  | cons h1 h2 => exact .cons h1 (prs_of e2 h2)
theorem of_prs {κ : Type} {kd : κ → D} : ∀ {kvs : List (κ × V)} {kds : List (D × D)}, Prs K M kd kvs kds → kvs.map (fun p => kd p.1) = kds.map (·.1) ∧ Rps K M (kvs.map (·.2)) (kds.map (·.2))
 | _, _, .nil => ⟨rfl, .nil⟩
 | _, _, .cons h t => by
  obtain ⟨h1, h2⟩ := of_prs t
  exact ⟨by rw [List.map_cons, List.map_cons, h1], .cons h h2⟩
section
variable {κ : Type} [DecidableEq κ] {kd : κ → D} {kk : Key ⊕ List Key} {k : κ} (hs : ∀ k', sameK kk (kd k') = decide (k' = k))
include hs
theorem prs_look : ∀ {kvs : List (κ × V)} {kds : List (D × D)}, Prs K M kd kvs kds → (∀ d, lookD kds kk = some d → ∃ v, valV kvs k = some v ∧ Rp K M v d) ∧ (lookD kds kk = none → valV kvs k = none)
 | _, _, .nil => And.intro (fun d h => nomatch h) (fun _ => rfl)
 | _, _, .cons (k := k') (v := v) (d := d) (kvs := kvs) (kds := kds) h t => by
  obtain ⟨i1, i2⟩ := prs_look t
  by_cases e : k' = k
  ·have e1 : lookD ((kd k', d) :: kds) kk = some d := by
    unfold lookD
    rw [List.find?_cons_of_pos (by rw [hs]; exact decide_eq_true e)]; rfl
   rw [e1, valV_pos (show (k', v).1 = k from e)]
   exact ⟨fun d' q => by cases q; exact ⟨v, rfl, h⟩, fun q => nomatch q⟩
  ·have e1 : lookD ((kd k', d) :: kds) kk = lookD kds kk := by
    unfold lookD
    rw [List.find?_cons_of_neg (by rw [hs]; simpa using e)]
   rw [e1, valV_neg (show ¬ (k', v).1 = k from e)]
   exact ⟨i1, i2⟩
theorem prs_any : ∀ {kvs : List (κ × V)} {kds : List (D × D)}, Prs K M kd kvs kds → (kvs.any fun kv => decide (kv.1 = k)) = kds.any fun p => sameK kk p.1
 | _, _, .nil => rfl
 | _, _, .cons h t => by rw [List.any_cons, List.any_cons, hs, prs_any t]
theorem prs_put {v : V} {d : D} {kvs : List (κ × V)} {kds : List (D × D)} (h : Prs K M kd kvs kds) (hv : Rp K M v d) : Prs K M kd (putK kvs k v) (putD kds kk (kd k) d) := by
 unfold putK putD
 rw [prs_any hs h]
 split
 ·rename_i hany
  clear hany
  induction h with
  | nil => exact .nil
  | @cons k' x e kvs kds h t ih =>
   rw [List.map_cons, List.map_cons]
   by_cases q : k' = k
   ·have e1 : sameK kk (kd k') = true := by rw [hs]; exact decide_eq_true q
    rw [if_pos (show (k', x).1 = k from q), if_pos (show sameK kk (kd k', e).1 = true from e1)]
    exact .cons hv ih
   ·have e1 : ¬ sameK kk (kd k') = true := by rw [hs]; simpa using q
    rw [if_neg (show ¬ (k', x).1 = k from q), if_neg (show ¬ sameK kk (kd k', e).1 = true from e1)]
    exact .cons h ih
 ·rename_i hany
  clear hany
  induction h with
  | nil => exact .cons hv .nil
  | cons h t ih => exact .cons h ih
end
theorem Prs.len {κ : Type} {kd : κ → D} : ∀ {kvs : List (κ × V)} {kds : List (D × D)}, Prs K M kd kvs kds → kvs.length = kds.length
 | _, _, .nil => rfl
 | _, _, .cons _ t => by rw [List.length_cons, List.length_cons, t.len]
end
def kTup (ks : List Key) : D := .tuple (ks.map kD)
def kindD : List (D × D) → Option Bool
 | [] => none
 | (.tuple _, _) :: _ => some true
 | (.list _, _) :: _ => none
 | _ :: _ => some false
def oDGet : D → D → Option Rz
 | .dict kds, k => match kindD kds with
  | some u => match keyOf u k with
   | some kk => match lookD kds kk with
    | some d => some (.fz d)
    | none => none
   | none => none
  | none => none
 | _, _ => none
def inD (kds : List (D × D)) (k : D) : Option Bool := match kindD kds with
 | some u => match keyOf u k with
  | some kk => some (lookD kds kk).isSome
  | none => none
 | none => none
def oDIn (neg : Bool) : D → D → Option Rz
 | k, .dict kds => match inD kds k with
  | some b => some (.fz (.bool (if neg then !b else b)))
  | none => none
 | _, _ => none
section
variable {K : PySem.W.Frag}
theorem rp_key {M : Hp} {v : V} {k : Key} (h : Rp K M v (kD k)) : v = kV k := by
 cases k <;> (cases h; rfl)
theorem rps_keys {M : Hp} : ∀ {ks : List Key} {xs : List V}, Rps K M xs (ks.map kD) → xs = ks.map kV
 | [], _, .nil => rfl
 | k :: ks, _, .cons h t => by rw [List.map_cons, rp_key h, rps_keys t]
theorem r1_look {H M : Hp} {x y : V} {kds : List (D × D)} {k : D} {u : Bool} {kk : Key ⊕ List Key} (sm : Same M H) (h1 : R1 K H M x (.dict kds)) (h2 : R1 K H M y k) (hu : kindD kds = some u) (hk : keyOf u k = some kk) :
  ∃ a o, x = .ref a ∧ DGet H a y o ∧ (∀ d, lookD kds kk = some d → ∃ v, o = some v ∧ Rp K M v d) ∧ (lookD kds kk = none → o = none) := by
 cases h1 with
 | dic t1 t2 t3 =>
  rename_i a kvs
  have pr := prs_of t2 t3
  have hu' : u = false := by
   cases pr with
   | nil => exact nomatch hu
   | @cons k' _ _ _ _ _ _ => cases k' <;> exact (Option.some.inj hu).symm
  subst hu'
  unfold keyOf at hk
  rw [if_neg Bool.false_ne_true] at hk
  cases e : key1 k with
  | none => rw [e] at hk; exact nomatch hk
  | some kx =>
   rw [e] at hk
   cases hk
   have := key1_of e
   subst this
   obtain ⟨l1, l2⟩ := prs_look (k := kx) (kd := kD) (kk := .inl kx) (fun k' => sameK_l kx k') pr
   have hy : y = kV kx := by cases kx <;> (cases h2; rfl)
   exact ⟨a, valV kvs kx, rfl, .inl ⟨kvs, kx, t1, hy, rfl⟩, l1, l2⟩
 | diT t1 t2 t3 =>
  rename_i a kvs
  have pr : Prs K M kTup kvs kds := prs_of t2 t3
  have hu' : u = true := by
   cases pr with
   | nil => exact nomatch hu
   | cons _ _ => exact (Option.some.inj hu).symm
  subst hu'
  unfold keyOf at hk
  rw [if_pos rfl] at hk
  cases e : keyT k with
  | none => rw [e] at hk; exact nomatch hk
  | some ks =>
   rw [e] at hk
   cases hk
   cases k <;> first | (cases e; done) | skip
   rename_i ds
   unfold keyT at e
   dsimp only at e
   split at e
   ·exact nomatch e
   ·rename_i hc
    have := keys1_of e
    subst this
    obtain ⟨l1, l2⟩ := prs_look (k := ks) (kd := kTup) (kk := .inr ks) (fun k' => sameK_r ks k') pr
    cases h2 with
    | tupK _ c _ => exact absurd c hc
    | tup b1 b2 =>
     have := rps_keys b2
     subst this
     exact ⟨a, valV kvs ks, rfl, .inr ⟨kvs, ks, _, t1, rfl, sm _ _ b1, rfl⟩, l1, l2⟩
 | tupN _ _ _ => exact nomatch hu
theorem op2_dget : Op2 K (fun x y H Q => ∃ a v, x = .ref a ∧ DGet H a y (some v) ∧ Q v H) oDGet := fun x y d e H M Q z sm h1 h2 q k => by
 cases d with
 | dict kds =>
  unfold oDGet at q
  dsimp only at q
  split at q
  ·rename_i u hu
   split at q
   ·rename_i kk hk
    split at q
    ·rename_i dd hd
     cases q
     obtain ⟨a, o, rfl, g, l1, _⟩ := r1_look sm h1 h2 hu hk
     obtain ⟨v, rfl, rv⟩ := l1 dd hd
     exact ⟨a, v, rfl, g, k.1 v rv⟩
    ·exact nomatch q
   ·exact nomatch q
  ·exact nomatch q
 | _ => exact nomatch q
variable {B : Bx} {w : WX} {td ty tv : TE} {rd ry rv : RE}
theorem se_dget (h1 : SE K B w td rd) (h2 : SE K B w ty ry) : SE K B w (tDGet td ty) (rOp2 oDGet rd ry) := se_op op2_dget h1 h2
end
def kDPut (i : Nat) (ρ1 : Env) (tv tk : Tp) : Out Fl := match stF ρ1 tv with
 | some (ρ2, e) => match rdT ρ2 tk, ρ2[i]? with
  | some k, some (some (.o u p, .dict kds)) => match keyOf u k with
   | some kk => if kds.length < sizeLine then .ok (ρ2.set i (some (.o u p, .dict (putD kds kk k e)))) .nx else .stk
   | none => .stk
  | _, _ => .stk
 | none => .stk
def rDPut (i : Nat) (v k : RE) : RS := fun ρ => match ρ[i]? with
 | some (some (.o _ _, .dict _)) => r2 v k (kDPut i) ρ
 | _ => .stk
section
variable {K : PySem.W.Frag} {B : Bx} {w : WX} {td ty tv : TE} {rd ry rv : RE}
theorem ss_dput {i : Nat} (hv : SE K B w tv rv) (hk : SE K B w ty ry) : SS K B w (sDPut (tVar i) ty tv) (rDPut i rv ry) := fun D σ H M W ρ s k => by
 unfold rDPut at k
 split at k
 ·rename_i u0 p0 ds0 hr
  obtain ⟨a, o, q1, q2, q3, q4⟩ := s.cell hr
  refine twoS (P := fun v x H3 => ∃ a' H4, V.ref a = .ref a' ∧ DPut H3 a' x v H4 ∧ D.nx σ H4) hv hk s k (fun x H1 h => ⟨.ref a, q1, h⟩) fun ρ1 tv ti v x M1 W1 H1 g1 s1 ⟨h1, h2, h3⟩ k1 => ?_
  unfold kDPut at k1
  cases e : stF ρ1 tv with
  | none => rw [e] at k1; exact False.elim k1
  | some y =>
   obtain ⟨ρ2, ed⟩ := y
   rw [e] at k1
   dsimp only at k1
   obtain ⟨M2, W2, g2, s2, r2, f2⟩ := stF_okL s1 h1 e
   have h2' := f2 ti x h2 (fun g d e1 g' d' e2 => h3 ⟨g, d, e1⟩ ⟨g', d', e2⟩)
   split at k1
   ·rename_i kd u p kds hn hr2
    obtain ⟨a', o', t1, t2, t3, t4⟩ := s2.cell hr2
    rw [q1] at t1; cases t1
    have rk := h2'.r1 s2 hn
    split at k1
    ·rename_i kk hkk
     split at k1
     ·rename_i hl
      cases u with
      | false =>
       cases o' <;> first | exact False.elim t3 | skip
       rename_i kvs
       have pr : Prs K M2 kD kvs kds := prs_of t3.1 t3.2
       unfold keyOf at hkk
       rw [if_neg Bool.false_ne_true] at hkk
       cases ek : key1 kd with
       | none => rw [ek] at hkk; exact nomatch hkk
       | some kx =>
        rw [ek] at hkk
        cases hkk
        have := key1_of ek
        subst this
        have hy : x = kV kx := by cases kx <;> (cases rk; rfl)
        subst hy
        refine ⟨a, _, rfl, DPut.k (k := kx) t2 (by rw [pr.len]; exact hl), ?_⟩
        exact k1 σ M2 W2 _ g2 (s2.turnSlot hr2 q1 t2 t4 (o' := .dK (putK kvs kx v)) (of_prs (prs_put (fun k' => sameK_l kx k') pr r2)))
      | true =>
       cases o' <;> first | exact False.elim t3 | skip
       rename_i kvs
       have pr : Prs K M2 kTup kvs kds := prs_of t3.1 t3.2
       unfold keyOf at hkk
       rw [if_pos rfl] at hkk
       cases ek : keyT kd with
       | none => rw [ek] at hkk; exact nomatch hkk
       | some ks =>
        rw [ek] at hkk
        cases hkk
        cases kd <;> first | (cases ek; done) | skip
        rename_i ds
        unfold keyT at ek
        dsimp only at ek
        split at ek
        ·exact nomatch ek
        ·rename_i hc
         have := keys1_of ek
         subst this
         cases rk with
         | tupK _ c _ => exact absurd c hc
         | tup b1 b2 =>
          have := rps_keys b2
          subst this
          refine ⟨a, _, rfl, DPut.t (k := ks) t2 (s2.mh _ _ b1) (by rw [pr.len]; exact hl), ?_⟩
          exact k1 σ M2 W2 _ g2 (s2.turnSlot hr2 q1 t2 t4 (o' := .dT (putK kvs ks v)) (of_prs (prs_put (kd := kTup) (fun k' => sameK_r ks k') pr r2)))
     ·exact False.elim k1
    ·exact False.elim k1
   ·exact False.elim k1
 ·exact False.elim k
end
end Vm
namespace Vm
open PySem PySem.Spec PyProof.Rows L2 Fz
def rAug (i : Nat) (f : D → D → Option Rz) (r : RE) : RS := fun ρ => match rVar i ρ with
 | .ok _ _ => (r ρ).bind fun ρ1 tp => match rdT ρ1 (.sl i), rdT ρ1 tp with
  | some d, some e => match f d e with
   | some z => match asg ρ1 i z.tp with
    | some ρ2 => .ok ρ2 .nx
    | none => .stk
   | none => .stk
  | _, _ => .stk
 | _ => .stk
section
variable {K : PySem.W.Frag} {B : Bx} {w : WX} {t ta tb tc : TE} {r ra rb rc : RE}
theorem ResK.mkG {M W H : Hp} {ρ : Env} {σ : L2.St} {z : Rz} {Q : VK} (s : St K B M W H ρ σ) (k : ∀ v M' W' H', Gr M W M' W' → St K B M' W' H' ρ σ → TpOk K B M' W' H' ρ σ z.tp v → Q v H') : ResK K H M z Q := by
 cases z with
 | tr d => trivial
 | fz d =>
  refine ⟨fun v hv => k v M W H (Gr.refl _ _) s hv, fun v a o ha hv => ?_⟩
  obtain ⟨gr, s'⟩ := s.newF (o := .tup o) ha fun _ z => nomatch z
  exact k v _ _ _ gr s' hv
 | ow g d =>
  intro a o ha ho
  obtain ⟨s', h'⟩ := s.newO ha ho
  exact k _ _ _ _ (Gr.refl _ _) s' h'
def rFz (r : RE) : RE := fun ρ => (r ρ).bind fun ρ1 tp => match stF ρ1 tp with
 | some (ρ2, d) => .ok ρ2 (.fz d)
 | none => .stk
theorem se_fz (h : SE K B w t r) : SE K B w t (rFz r) := fun σ H M W ρ Q s k =>
 h σ H M W ρ _ s (KG.bind k fun ρ1 tp v M1 W1 H1 _ g1 s1 h1 k1 => by
  split at k1
  ·rename_i ρ2 d e
   obtain ⟨M2, W2, g2, s2, r2, _⟩ := stF_ok s1 h1 e
   exact k1 v M2 W2 H1 g2 s2 r2
  ·exact False.elim k1)
def kChain (f g : D → D → Option Rz) (c : RE) (ρ2 : Env) (t1 t2 : Tp) : Out Tp := match t2 with
 | .fz e => match rdT ρ2 t1 with
  | some d => match f d e with
   | some (.fz (.bool x)) => if x = true then (c ρ2).bind fun ρ3 t3 => match rdT ρ3 t3 with
     | some d3 => match g e d3 with
      | some z => .ok ρ3 z.tp
      | none => .stk
     | none => .stk
    else .ok ρ2 (.fz (.bool false))
   | _ => .stk
  | none => .stk
 | _ => .stk
def rChain (f g : D → D → Option Rz) (a b c : RE) : RE := r2 a (rFz b) (kChain f g c)
theorem se_chain {r r' : R2} {f g : D → D → Option Rz} (h1 : Op2 K r f) (h2 : Op2 K r' g) (ha : SE K B w ta ra) (hb : SE K B w tb rb) (hc : SE K B w tc rc) : SE K B w (tChain r r' ta tb tc) (rChain f g ra rb rc) := fun σ H M W ρ Q s k =>
 twoE (G := fun x H1 => tb σ H1 fun y H2 => r x y H2 fun z H3 => ∃ k, z = .bl k ∧ (if k = true then tc σ H3 fun w' H4 => r' y w' H4 Q else Q (.bl false) H3)) ha (se_fz hb) s k (fun _ _ h => h) fun ρ2 t1 t2 v1 v2 M2 W2 H2 g2 s2 ⟨q1, q2, _⟩ k2 => by
  cases t2 with
  | sl _ => exact False.elim k2
  | ow _ _ => exact False.elim k2
  | tr _ => exact False.elim k2
  | fz e =>
   have q2 : Rp K M2 v2 e := q2
   unfold kChain at k2
   dsimp only at k2
   cases ed : rdT ρ2 t1 with
   | none => rw [ed] at k2; exact False.elim k2
   | some d =>
    rw [ed] at k2
    dsimp only at k2
    cases ef : f d e with
    | none => rw [ef] at k2; exact False.elim k2
    | some z =>
     rw [ef] at k2
     refine h1 v1 v2 d e H2 M2 _ z s2.mh (q1.r1 s2 ed) (Rp.r1 s2.mh q2) ef (ResK.mkG s2 fun y M3 W3 H3 g3 s3 h3 => ?_)
     split at k2
     ·rename_i x e1
      cases e1
      have hy : y = .bl x := by have h3 : Rp K M3 y (.bool x) := h3; cases h3; rfl
      refine ⟨x, hy, ?_⟩
      cases x with
      | false => rw [if_neg Bool.false_ne_true] at k2 ⊢; exact k2 _ _ _ _ g3 s3 (Rp.bl false)
      | true =>
       rw [if_pos rfl] at k2 ⊢
       refine hc σ H3 M3 W3 ρ2 _ s3 (KG.bind (KG.up g3 k2) fun ρ4 t4 v4 M4 W4 H4 _ g4 s4 h4 k4 => ?_)
       split at k4
       ·rename_i d3 e3
        split at k4
        ·rename_i z4 e4
         exact h2 v2 v4 e d3 H4 M4 Q z4 s4.mh (Rp.r1 s4.mh (Rp.mono (g3.trans g4).m q2)) (h4.r1 s4 e3) e4 (ResK.mk (w := w) s4 k4)
        ·exact False.elim k4
       ·exact False.elim k4
     ·exact False.elim k2
def rgD (lo : Int) (n : Nat) : List D := (List.range n).map fun i : Nat => .int (lo + (i : Int))
def rRng1 (a : RE) : Env → Out (List D) := fun ρ => (a ρ).bind fun ρ1 tp => match rdT ρ1 tp with
 | some (.int j) => if -(2 ^ 62) ≤ j ∧ j < 2 ^ 62 then .ok ρ1 (rgD 0 j.toNat) else .stk
 | _ => .stk
theorem it_rng {M : Hp} {lo : Int} {n : Nat} : ItOk K B M (Itr lo n) (rgD lo n) := fun M2 H2 _ _ _ => by
 refine ⟨by unfold rgD; rw [List.length_map, List.length_range]; exact Nat.le_refl _, fun i d h => ?_⟩
 unfold rgD at h
 rw [List.getElem?_map] at h
 have hi : i < n := by
  rcases Nat.lt_or_ge i n with q | q
  ·exact q
  ·rw [List.getElem?_eq_none (by rw [List.length_range]; exact q)] at h; exact nomatch h
 rw [List.getElem?_range hi] at h
 cases h
 exact ⟨hi, fun x H3 ⟨e1, e2⟩ => .inl ⟨e1, by rw [e2]; exact .int _⟩⟩
theorem si_rng1 (ha : SE K B w ta ra) : SI K B w (iRng1 (tCons ta tNil)) (rRng1 ra) := fun σ H M W ρ R s k =>
 ha σ H M W ρ _ s (KG.bind k fun ρ1 tp v M1 W1 H1 _ g1 s1 h1 k1 => by
  split at k1
  ·rename_i j e
   split at k1
   ·rename_i hb
    have := r1_int (h1.r1 s1 e)
    subst this
    exact ⟨j, rfl, hb.1, hb.2, k1 _ M1 W1 H1 (Gr.refl _ _) s1 it_rng⟩
   ·exact False.elim k1
  ·exact False.elim k1)
def rRng2 (a b : RE) : Env → Out (List D) := fun ρ => r2 a b (fun ρ1 t1 t2 => match rdT ρ1 t1, rdT ρ1 t2 with
 | some (.int i), some (.int j) => if -(2 ^ 62) ≤ i ∧ i < 2 ^ 62 ∧ -(2 ^ 62) ≤ j ∧ j < 2 ^ 62 then .ok ρ1 (rgD i (j - i).toNat) else .stk
 | _, _ => .stk) ρ
def wk (ρ : Env) (tp : Tp) : Option (Env × D) := match tp with
 | .sl i => match ρ[i]? with
  | some (some (.b, d)) => some (ρ, d)
  | _ => stF ρ tp
 | tp => stF ρ tp
theorem wk_ok {M W H : Hp} {ρ ρ' : Env} {σ : L2.St} {tp : Tp} {v : V} {d : D} (s : St K B M W H ρ σ) (h : TpOk K B M W H ρ σ tp v) (e : wk ρ tp = some (ρ', d)) : ∃ M' W', Gr M W M' W' ∧ St K B M' W' H ρ' σ ∧ (Rp K M' v d ∨ R1 K B.b M' v d) := by
 have st : stF ρ tp = some (ρ', d) → ∃ M' W', Gr M W M' W' ∧ St K B M' W' H ρ' σ ∧ (Rp K M' v d ∨ R1 K B.b M' v d) := fun e => by
  obtain ⟨M1, W1, g1, s1, r1, _⟩ := stF_ok s h e
  exact ⟨M1, W1, g1, s1, .inl r1⟩
 cases tp with
 | fz _ => exact st e
 | ow _ _ => exact st e
 | tr _ => exact st e
 | sl i =>
  unfold wk at e
  dsimp only at e
  split at e
  ·rename_i d' hr
   cases e
   have h : σ[i]? = some (some v) := h
   obtain ⟨v', q1, q2⟩ := s.sl i _ _ hr
   rw [h] at q1; cases q1
   exact ⟨M, W, Gr.refl _ _, s, .inr q2⟩
  ·exact st e
def rItL (a : RE) : Env → Out (List D) := fun ρ => (a ρ).bind fun ρ1 tp => match wk ρ1 tp with
 | some (ρ2, .list ds) => .ok ρ2 ds
 | _ => .stk
theorem si_list (ha : SE K B w ta ra) : SI K B w (iList K ta) (rItL ra) := fun σ H M W ρ R s k =>
 ha σ H M W ρ _ s (KG.bind k fun ρ1 tp v M1 W1 H1 _ g1 s1 h1 k1 => by
  split at k1
  ·rename_i ρ2 ds e
   obtain ⟨M2, W2, g2, s2, r2⟩ := wk_ok s1 h1 e
   have key : ∃ a xs, v = .ref a ∧ Rps K M2 xs ds ∧ (M2 a = some (.lst xs) ∨ B.b a = some (.lst xs)) := by
    rcases r2 with r2 | r2
    ·cases r2 with
     | lst t1 t2 => exact ⟨_, _, rfl, t2, .inl t1⟩
    ·cases r2 with
     | lst t1 t2 => exact ⟨_, _, rfl, t2, .inr t1⟩
   obtain ⟨a, xs, rfl, t2, t1⟩ := key
   have at_ : ∀ {M3 H3 : Hp}, Same M2 M3 → Same M3 H3 → Same B.b H3 → H3 a = some (.lst xs) := fun q1 q2 q3 => by
    rcases t1 with t1 | t1
    ·exact q2 _ _ (q1 _ _ t1)
    ·exact q3 _ _ t1
   refine ⟨a, rfl, ⟨xs, .inl (.inl (at_ (Same.refl _) s2.mh (s2.bw.trans s2.wh)))⟩, k1 _ M2 W2 H1 g2 s2 fun M3 H3 q1 q2 q3 => ?_⟩
   have hs : SqL K H3 a xs := .inl (.inl (at_ q1 q2 q3))
   refine ⟨⟨xs, hs, by rw [t2.length]; exact Nat.le_refl _⟩, fun i d hd => ?_⟩
   obtain ⟨v, v1, v2⟩ := t2.get hd
   refine ⟨⟨xs, v, hs, v1⟩, fun x H4 ⟨e1, e2⟩ => .inl ⟨e1, ?_⟩⟩
   have := e2 xs hs
   rw [v1] at this; cases this
   exact v2.mono q1
  ·exact False.elim k1)
def rItT (a : RE) : Env → Out (List D) := fun ρ => (a ρ).bind fun ρ1 tp => match wk ρ1 tp with
 | some (ρ2, .tuple ds) => .ok ρ2 ds
 | _ => .stk
def rItS (a : RE) : Env → Out (List D) := fun ρ => (a ρ).bind fun ρ1 tp => match rdT ρ1 tp with
 | some (.str x) => .ok ρ1 (x.cps.toList.map fun c => .str (sgn c))
 | _ => .stk
theorem si_str (ha : SE K B w ta ra) : SI K B w (iStr ta) (rItS ra) := fun σ H M W ρ R s k =>
 ha σ H M W ρ _ s (KG.bind k fun ρ1 tp v M1 W1 H1 _ g1 s1 h1 k1 => by
  split at k1
  ·rename_i x e
   have := r1_str (h1.r1 s1 e)
   subst this
   refine ⟨x, rfl, k1 _ M1 W1 H1 (Gr.refl _ _) s1 fun M3 H3 q1 q2 q3 => ⟨by rw [List.length_map]; exact Nat.le_refl _, fun i d hd => ?_⟩⟩
   rw [List.getElem?_map] at hd
   cases ec : x.cps.toList[i]? with
   | none => rw [ec] at hd; exact nomatch hd
   | some c =>
    rw [ec] at hd
    cases hd
    have hi : i < x.cps.size := by
     rcases Nat.lt_or_ge i x.cps.size with q | q
     ·exact q
     ·rw [List.getElem?_eq_none (by simpa using q)] at ec; cases ec
    refine ⟨hi, fun y H4 ⟨e1, c', hc, e2⟩ => .inl ⟨e1, ?_⟩⟩
    rw [Array.getElem?_toList] at ec
    rw [ec] at hc; cases hc
    rw [e2]; exact .str _
  ·exact False.elim k1)
def enD (ds : List D) : List D := (List.range ds.length).map fun i : Nat => .tuple [.int (i : Int), ds.getD i .none]
def rItE (a : RE) : Env → Out (List D) := fun ρ => (a ρ).bind fun ρ1 tp => match wk ρ1 tp with
 | some (ρ2, .list ds) => .ok ρ2 (enD ds)
 | _ => .stk
end
end Vm
namespace Vm
open PySem PySem.Spec PyProof.Rows L2 Fz
def rRaise (x : Str) : RS := fun ρ => .er ρ ⟨x, none⟩
section
variable {K : PySem.W.Frag} {B : Bx} {w : WX}
theorem ss_raise {x : Str} {C : Addr} (hc : clsOf K x = .ref C) : SS K B w (fun _ σ H => w (.ref C) none σ H) (rRaise x) := fun D σ H M W ρ s k => by
 have := k σ none M W H (Gr.refl _ _) s trivial
 rw [hc] at this
 exact this
end
def encX (x : Xn) : D := match x.fld with
 | none => .tuple [.str x.cls]
 | some (f, n) => .tuple [.str x.cls, .str f, .int n]
theorem encX_ok {K : PySem.W.Frag} {M : Hp} {x : Xn} {d : Option Addr} (h : XOk K M x d) : XM M (encX x) d := by
 obtain ⟨c, fl⟩ := x
 cases fl with
 | none => cases d with
  | none => exact trivial
  | some _ => exact False.elim h
 | some fn => cases d with
  | none => exact False.elim h
  | some dd => exact h
theorem encX_cls {K : PySem.W.Frag} (x : Xn) : XC K (encX x) (clsOf K x.cls) := by
 obtain ⟨c, fl⟩ := x
 cases fl <;> exact ⟨c, _, rfl, rfl⟩
def rTry (b : RS) (sub : Str → Option Bool) (i : Nat) (su : RS) : RS := fun ρ => match b ρ with
 | .er ρ1 x => match sub x.cls with
  | some true => if pinned ρ1 i = true then .stk else (match su (ρ1.set i (some (.e, encX x))) with
   | .ok _ (.rt (.sl _)) => .stk
   | .ok ρ2 fl => .ok (ρ2.set i none) fl
   | _ => .stk)
  | some false => .er ρ1 x
  | none => .stk
 | o => o
section
variable {K : PySem.W.Frag} {B : Bx} {w : WX}
theorem St.base {B' : Bx} {M W H : Hp} {ρ : Env} {σ : L2.St} (s : St K B M W H ρ σ) (hb : B'.b = B.b) (hp : B'.p = B.p) (ht : B'.t = B.t) (hx : ∀ (i : Nat) (d : D), ρ[i]? = some (some (.e, d)) → B'.x i = B.x i) (hl : ∀ (i : Nat) (d : D), ρ[i]? = some (some (.l, d)) → B'.x i = B.x i) : St K B' M W H ρ σ := by
 refine ⟨by rw [hb]; exact s.bw, s.mw, s.wh, s.ln, fun i g d e => ?_, s.sp, by rw [ht]; exact s.tb⟩
 obtain ⟨v, h1, h2⟩ := s.sl i g d e
 refine ⟨v, h1, ?_⟩
 cases g with
 | f => exact h2
 | b => show R1 K B'.b M v d; rw [hb]; exact h2
 | s => obtain ⟨a, ns, e1, e2, e3⟩ := h2; exact ⟨a, ns, e1, by rw [hb]; exact e2, e3⟩
 | e => obtain ⟨a, c, dd, e1, e2, e3, e4⟩ := h2; exact ⟨a, c, dd, e1, by rw [hx i d e]; exact e2, e3, e4⟩
 | l => obtain ⟨⟨c, dd, a, e1, e2⟩, e3⟩ := h2; exact ⟨⟨c, dd, a, e1, by rw [hl i d e]; exact e2⟩, by rw [hb]; exact e3⟩
 | o u p => obtain ⟨a, o, e1, e2, e3, e4, e5⟩ := h2; exact ⟨a, o, e1, e2, e3, e4, by rw [hp]; exact e5⟩
 | q p => obtain ⟨a, o, e1, e2, e3, e4, e5⟩ := h2; exact ⟨a, o, e1, e2, e3, e4, by rw [hp]; exact e5⟩
def exB (B : Bx) (i : Nat) (a : Addr) (c : Value) (d : Option Addr) : Bx := ⟨B.b, B.p, (fun j => if j = i then some (a, c, d) else B.x j), B.t⟩
theorem TpOk.base {B' : Bx} {M W H : Hp} {ρ ρ' : Env} {σ σ' : L2.St} {tp : Tp} {v : V} (hs : ∀ i, tp ≠ .sl i) (ha : ∀ a, Apart K M H ρ σ a → Apart K M H ρ' σ' a) (h : TpOk K B M W H ρ σ tp v) : TpOk K B' M W H ρ' σ' tp v := by
 cases tp with
 | sl i => exact absurd rfl (hs i)
 | fz d => exact h
 | ow u d => obtain ⟨a, o, e1, e2, e3, e4, e5⟩ := h; exact ⟨a, o, e1, e2, e3, e4, ha a e5⟩
 | tr d => obtain ⟨a, F, e1, e2, e3, e4, e5⟩ := h; exact ⟨a, F, e1, e2, e3, e4, fun x hx => ha x (e5 x hx)⟩
theorem ss_tryAs {tb : WX → TS} {ts : Addr → Value → Option Addr → TS} {rb su : RS} {cv : Value} {i : Nat} {sub : Str → Option Bool} (hb : ∀ W, SS K B W (tb W) rb) (subK : ∀ x b, sub x = some b → PySem.W.exmOne K (clsOf K x) cv = some b)
  (hs : ∀ (B' : Bx) a cls d, B'.x i = some (a, cls, d) → SS K (B'.at B.t) (fun _ _ _ _ => False) (ts a cls d) su) : SS K B w (fun D σ H => tb (wAs K cv i ts w D) D σ H) (rTry rb sub i su) := fun D σ H M W ρ s k => by
 refine hb _ D σ H M W ρ s ?_
 unfold rTry at k
 cases e : rb ρ with
 | stk => rw [e] at k; exact k
 | ok ρ1 fl => rw [e] at k; exact k
 | er ρ1 x =>
  rw [e] at k
  dsimp only at k
  intro σ1 d M1 W1 H1 g1 s1 hx
  cases es : sub x.cls with
  | none => rw [es] at k; exact False.elim k
  | some b =>
   rw [es] at k
   refine ⟨b, subK _ _ es, fun hbt a ha => ?_, fun hbf => ?_⟩
   ·subst hbt
    dsimp only at k
    split at k
    ·exact False.elim k
    rename_i hpin
    have s2 : St K (exB B i a (clsOf K x.cls) d) M1 W1 H1 (ρ1.set i none) (σ1.set i (some (.ref a))) := (s1.wipe1 i (some (.ref a))).base rfl rfl rfl (fun j dd q => by
     obtain ⟨hj, _⟩ := set_none_get q
     exact if_neg hj) (fun j dd q => by
     obtain ⟨hj, _⟩ := set_none_get q
     exact if_neg hj)
    have s3 : St K (exB B i a (clsOf K x.cls) d) M1 W1 H1 (ρ1.set i (some (.e, encX x))) (σ1.set i (some (.ref a))) := St.set s2 (g := .e) ⟨a, _, d, rfl, if_pos rfl, encX_cls x, encX_ok hx⟩ (fun _ z => nomatch z) (fun _ q => absurd q Bool.false_ne_true)
    refine hs (exB B i a (clsOf K x.cls) d) a _ d (if_pos rfl) _ _ H1 M1 W1 _ s3 ?_
    cases e2 : su (ρ1.set i (some (.e, encX x))) with
    | stk => rw [e2] at k; exact False.elim k
    | er ρ2 y => rw [e2] at k; exact False.elim k
    | ok ρ2 fl =>
     rw [e2] at k
     intro σ3 M3 W3 H3 g3 s4
     have back : ∀ x, St K B M3 W3 H3 (ρ2.set i none) (σ3.set i x) := fun x => (s4.wipe1 i x).base rfl rfl rfl (fun j dd q => by
      obtain ⟨hj, _⟩ := set_none_get q
      exact (if_neg hj).symm) (fun j dd q => by
      obtain ⟨hj, _⟩ := set_none_get q
      exact (if_neg hj).symm)
     have gr := g1.trans g3
     cases fl with
     | nx => exact k _ M3 W3 H3 gr (back none)
     | bk => exact k _ M3 W3 H3 gr (back none)
     | ct => exact k _ M3 W3 H3 gr (back none)
     | rt tp =>
      intro v hv
      have k' : (∀ j, tp ≠ .sl j) ∧ KS K B M W w D (.ok (ρ2.set i none) (.rt tp)) := by
       cases tp with
       | sl j => exact False.elim k
       | fz _ => exact ⟨(fun _ q => nomatch q), k⟩
       | ow _ _ => exact ⟨(fun _ q => nomatch q), k⟩
       | tr _ => exact ⟨(fun _ q => nomatch q), k⟩
      exact k'.2 (σ3.set i none) M3 W3 H3 gr (back none) v (TpOk.base k'.1 (fun b hb => apart_set hb) hv)
   ·subst hbf
    exact k σ1 d M1 W1 H1 g1 s1 hx
def rIsE (i : Nat) (tab : Str → Option Bool) : RE := fun ρ => match ρ[i]? with
 | some (some (.e, .tuple (.str c :: _))) => match tab c with
  | some b => .ok ρ (.fz (.bool b))
  | none => .stk
 | _ => .stk
def TabOk (K : PySem.W.Frag) (cv : Value) (tab : Str → Option Bool) : Prop := ∀ c b, tab c = some b → ∃ D, clsOf K c = .ref D ∧ ExcK K D ∧ PySem.W.kitOne K (.ref D) cv = some b
theorem xm_h {M H : Hp} {d : D} {dd : Option Addr} (s : Same M H) (h : XM M d dd) : XdH H dd := by
 unfold XM at h
 split at h
 ·exact .inl rfl
 ·exact .inr ⟨_, _, rfl, s _ _ h⟩
 ·exact False.elim h
theorem se_isE {i : Nat} {a : Addr} {cls : Value} {d : Option Addr} {c : V} {cv : Value} {tab : Str → Option Bool} (hx : B.x i = some (a, cls, d)) (hc : ClsV c cv) (ht : TabOk K cv tab) : SE K B w (tCB (rIsX K a cls d) (tCons (tVar i) (tCons (tC c) tNil))) (rIsE i tab) := fun σ H M W ρ Q s k => by
 unfold rIsE at k
 split at k
 ·rename_i n r hr
  obtain ⟨v, h1, a', c', dd, rfl, h2, ⟨n', r', h3, h4⟩, h5⟩ := s.sl i _ _ hr
  rw [hx] at h2; cases h2
  cases h3
  cases e : tab n with
  | none => rw [e] at k; exact False.elim k
  | some b =>
   rw [e] at k
   obtain ⟨D, q1, q2, q3⟩ := ht n b e
   refine ⟨.ref a, h1, c, cv, b, D, rfl, hc, ?_, q2, xm_h s.mh h5, q3, k _ M W H (Gr.refl _ _) s (Rp.bl b)⟩
   rw [← h4]; exact q1
 ·exact False.elim k
def rFldE (i : Nat) (x f : Str) : RE := fun ρ => match ρ[i]? with
 | some (some (.e, .tuple [.str c, .str g, .int n])) => if c = x ∧ g = f then .ok ρ (.fz (.int n)) else .stk
 | _ => .stk
theorem se_fldE {i : Nat} {a C : Addr} {cls : Value} {d : Option Addr} {x f : Str} (hx : B.x i = some (a, cls, d)) (hc : clsOf K x = .ref C) : SE K B w (tXf a cls d C f (tVar i)) (rFldE i x f) := fun σ H M W ρ Q s k => by
 unfold rFldE at k
 split at k
 ·rename_i c g n hr
  split at k
  ·rename_i hcg
   obtain ⟨rfl, rfl⟩ := hcg
   obtain ⟨v, h1, a', c', dd, rfl, h2, ⟨n', r', h3, h4⟩, h5⟩ := s.sl i _ _ hr
   rw [hx] at h2; cases h2
   cases h3
   cases d with
   | none => exact False.elim h5
   | some q =>
    have h5 : M q = some (.xd [(g, .int n)]) := h5
    refine ⟨.ref a, h1, rfl, by rw [← h4]; exact hc, q, _, .int n, rfl, s.mh _ _ h5, ?_, k _ M W H (Gr.refl _ _) s (Rp.int n)⟩
    simp [List.lookup]
  ·exact False.elim k
 ·exact False.elim k
end
end Vm
namespace Vm
open PySem PySem.Spec PyProof.Rows L2 Fz
section
variable {K : PySem.W.Frag}
theorem tab_nil {cv : Value} : TabOk K cv (fun _ => none) := fun _ _ h => nomatch h
theorem tab_cons {cv : Value} {x : Str} {D : Addr} {b : Bool} {t : Str → Option Bool} (h1 : clsOf K x = .ref D) (h2 : ExcK K D) (h3 : PySem.W.kitOne K (.ref D) cv = some b) (h : TabOk K cv t) : TabOk K cv (fun c => if c = x then some b else t c) := fun c b' e => by
 dsimp only at e
 split at e
 ·rename_i q; cases e; subst q; exact ⟨D, h1, h2, h3⟩
 ·exact h c b' e
def SubOk (K : PySem.W.Frag) (cv : Value) (tab : Str → Option Bool) : Prop := ∀ x b, tab x = some b → PySem.W.exmOne K (clsOf K x) cv = some b
theorem sub_nil {cv : Value} : SubOk K cv (fun _ => none) := fun _ _ h => nomatch h
theorem sub_cons {cv : Value} {x : Str} {D : Addr} {b : Bool} {t : Str → Option Bool} (h1 : clsOf K x = .ref D) (h3 : PySem.W.exmOne K (.ref D) cv = some b) (h : SubOk K cv t) : SubOk K cv (fun c => if c = x then some b else t c) := fun c b' e => by
 dsimp only at e
 split at e
 ·rename_i q; cases e; subst q; rw [h1]; exact h3
 ·exact h c b' e
end
theorem sql_b {K : PySem.W.Frag} {H : Hp} {a : Addr} {xs : List V} (hS : SqL K H a xs) : SqL K (bIO (fun _ => False) H) a xs := by
 have at_ : ∀ o, H a = some o → (∀ ps, o ≠ .tbl ps) → bIO (fun _ => False) H a = some o := fun o e n => by
  rw [bIO_out (fun h => h) fun ps z => by
   rw [e] at z; cases z
   exact n _ rfl]
  exact e
 rcases hS with (h | ⟨o, h⟩) | h
 ·exact .inl (.inl (at_ _ h fun _ z => nomatch z))
 ·exact .inl (.inr ⟨o, at_ _ h fun _ z => nomatch z⟩)
 ·exact .inr h
theorem law_start {K : PySem.W.Frag} {H : Hp} {T : List (Addr × Str)} {a : Addr} {ns : List Int} {E : XK} {m : List (Fg × D) → FOut} {io : Env} (hT : ∀ p ∈ T, H p.1 = some (.tbl #[])) (hS : SqL K H a (ns.map V.int)) (hm : m [(.s, .list (ns.map PyData.int))] = .ok (.fz (.bool true)) io) : spM K T m [.ref a] H (fun v _ => v = .bl true) E := by
 refine ⟨[(.s, .list (ns.map PyData.int))], bIO (fun _ => False) H, fun _ => none, ⟨Same.refl _, (fun _ _ e => nomatch e), (fun _ _ h => bIO_of h), rfl, fun i g d e => ?_, fun i j g h d e a b F G hij e1 e2 _ _ f1 f2 => ?_, ⟨bIO_nt, fun p hp => LamX.TabS.nil (hT p hp)⟩⟩, ?_⟩
 ·match i, e with
  | 0, e => cases e; exact ⟨.ref a, rfl, a, ns, rfl, sql_b hS, rfl⟩
  | i + 1, e => simp at e
 ·match i, e1 with
  | 0, e1 => cases e1; exact False.elim f1
  | i + 1, e1 => simp at e1
 ·rw [hm]
  intro v M' W' H' _ _ hv
  have hv : Rp K M' v (.bool true) := hv
  cases hv; rfl
def rListRg1 (a : RE) : RE := fun ρ => (a ρ).bind fun ρ1 tp => match rdT ρ1 tp with
 | some (.int j) => if -1000000 ≤ j ∧ j ≤ 1000000 then .ok ρ1 (.ow false (.list (rgD 0 j.toNat))) else .stk
 | _ => .stk
def rListRg2 (a b : RE) : RE := fun ρ => r2 a b (fun ρ1 t1 t2 => match rdT ρ1 t1, rdT ρ1 t2 with
 | some (.int i), some (.int j) => if -1000000 ≤ i ∧ i ≤ 1000000 ∧ -1000000 ≤ j ∧ j ≤ 1000000 then .ok ρ1 (.ow false (.list (rgD i (j - i).toNat))) else .stk
 | _, _ => .stk) ρ
section
variable {K : PySem.W.Frag} {B : Bx} {w : WX} {ta tb : TE} {ra rb : RE}
theorem r1_dk {H M : Hp} {x : V} {kds : List (D × D)} (h : R1 K H M x (.dict kds)) (hk : kindD kds = some false) : ∃ a kvs, x = .ref a ∧ Rd H a (.dK kvs) ∧ Prs K M kD kvs kds := by
 cases h with
 | dic t1 t2 t3 => exact ⟨_, _, rfl, t1, prs_of t2 t3⟩
 | diT t1 t2 t3 =>
  exfalso
  have pr : Prs K M kTup _ kds := prs_of t2 t3
  cases pr with
  | nil => exact nomatch hk
  | cons _ _ => exact nomatch hk
 | tupN _ _ _ => exact nomatch hk
def intKeys : List (D × D) → Option (List Int)
 | [] => some []
 | (.int i, _) :: r => match intKeys r with
  | some l => some (i :: l)
  | none => none
 | _ => none
def oSortD : D → Option Rz
 | .dict kds => match kds, intKeys kds with
  | _ :: _, some ks => if ks.length < 64 then some (.ow false (.list ((PySem.W.sortI ks).map PyData.int))) else none
  | _, _ => none
 | _ => none
def oLenD : D → Option Rz
 | .dict kds => match kindD kds with
  | some false => some (.fz (.int kds.length))
  | _ => none
 | _ => none
end
end Vm
namespace Vm
open PySem PySem.Spec PyProof.Rows L2 Fz
def flEq : D → D → Bool
 | .none, .none => true
 | .bool a, .bool b => decide (a = b)
 | .int a, .int b => decide (a = b)
 | .str a, .str b => decide (a = b)
 | _, _ => false
def sameD (kds lds : List (D × D)) : Bool := decide (kindD kds = some false) && decide (kindD lds = some false) && decide (kds.length = lds.length) && kds.all fun p => match key1 p.1 with
 | some k => match lookD lds (.inl k) with
  | some d => flEq p.2 d
  | none => false
 | none => false
def oDNe : D → D → Option Rz
 | .dict kds, .dict lds => if sameD kds lds = true then some (.fz (.bool false)) else none
 | _, _ => none
section
variable {K : PySem.W.Frag}
theorem flEq_v {M : Hp} {u v : V} {d e : D} (h : Rp K M u d) (g : Rp K M v e) (q : flEq d e = true) : u = v ∧ flatB u = true := by
 cases h <;> cases g <;> first | exact absurd q Bool.false_ne_true | skip
 ·exact ⟨rfl, rfl⟩
 ·exact ⟨by rw [of_decide_eq_true q], rfl⟩
 ·exact ⟨by rw [of_decide_eq_true q], rfl⟩
 ·exact ⟨by rw [of_decide_eq_true q], rfl⟩
theorem same_ok {M : Hp} {ls : List (Key × V)} {lds : List (D × D)} (hl : Prs K M kD ls lds) : ∀ {ks : List (Key × V)} {kds : List (D × D)}, Prs K M kD ks kds → (kds.all fun p => match key1 p.1 with
 | some k => match lookD lds (.inl k) with
  | some d => flEq p.2 d
  | none => false
 | none => false) = true → ∀ p ∈ ks, valV ls p.1 = some p.2 ∧ flatB p.2 = true
 | _, _, .nil, _, p, hp => by simp at hp
 | _, _, .cons (k := k) (v := v) (d := d) h t, q, p, hp => by
  rw [List.all_cons, Bool.and_eq_true] at q
  rcases List.mem_cons.mp hp with rfl | hp
  ·have q1 := q.1
   dsimp only at q1
   rw [key1_kD] at q1
   dsimp only at q1
   obtain ⟨l1, _⟩ := prs_look (k := k) (kd := kD) (kk := .inl k) (fun k' => sameK_l k k') hl
   cases e : lookD lds (.inl k) with
   | none => rw [e] at q1; exact absurd q1 Bool.false_ne_true
   | some d' =>
    rw [e] at q1
    obtain ⟨u, u1, u2⟩ := l1 d' e
    obtain ⟨f1, f2⟩ := flEq_v h u2 q1
    exact ⟨by rw [u1, f1], f2⟩
  ·exact same_ok hl t q.2 p hp
theorem sameD_ok {H M : Hp} {x y : V} {kds lds : List (D × D)} (h1 : R1 K H M x (.dict kds)) (h2 : R1 K H M y (.dict lds)) (q : sameD kds lds = true) : ∃ a b ks ls, x = .ref a ∧ y = .ref b ∧ Rd H a (.dK ks) ∧ Rd H b (.dK ls) ∧ ks.length = ls.length ∧ ∀ p ∈ ks, valV ls p.1 = some p.2 ∧ flatB p.2 = true := by
 unfold sameD at q
 simp only [Bool.and_eq_true] at q
 obtain ⟨⟨⟨q1, q2⟩, q3⟩, q4⟩ := q
 obtain ⟨a, ks, rfl, a1, a2⟩ := r1_dk h1 (of_decide_eq_true q1)
 obtain ⟨b, ls, rfl, b1, b2⟩ := r1_dk h2 (of_decide_eq_true q2)
 exact ⟨a, b, ks, ls, rfl, rfl, a1, b1, by rw [a2.len, b2.len]; exact of_decide_eq_true q3, same_ok b2 a2 q4⟩
def rEqDR (ne : Bool) : R2 := fun x y H Q => ∃ a b ks ls, x = .ref a ∧ y = .ref b ∧ Rd H a (.dK ks) ∧ Rd H b (.dK ls) ∧ ks.length = ls.length ∧ (∀ p ∈ ks, valV ls p.1 = some p.2 ∧ flatB p.2 = true) ∧ Q (.bl (!ne)) H
theorem op_neDR {X : Cx} (hu : X.A.units < cLine) : OpR X (compareOp .NotEq) (rEqDR true) := by
 rintro pins s σ H x y v u Q I rx ry ⟨a, b, ks, ls, rfl, rfl, ea, eb, hlen, hp, q⟩
 cases (show v = Value.ref a from rx)
 cases (show u = Value.ref b from ry)
 obtain ⟨_, y1, w1, r1, d1⟩ := (show ObjOk X.prog X.w H s.heap a (.dK ks) from ea.ok I.hok)
 obtain ⟨_, y2, w2, r2, d2⟩ := (show ObjOk X.prog X.w H s.heap b (.dK ls) from eb.ok I.hok)
 have hl : w1.length = w2.length := by rw [← r1.length, ← r2.length]; exact hlen
 exact PySem.W.keq_ne (knd := mixKind X.prog X.w) (r := true) y1 y2 d1 d2 hu (fun _ => hits_all r2 r1 hp) (fin_bl I q (by simp [hl]))
theorem op2_dne : Op2 K (rEqDR true) oDNe := fun x y d e H M Q z sm h1 h2 q k => by
 cases d <;> cases e <;> first | (cases q; done) | skip
 unfold oDNe at q
 dsimp only at q
 split at q
 ·rename_i hs
  cases q
  obtain ⟨a, b, ks, ls, e1, e2, e3, e4, e5, e6⟩ := sameD_ok h1 h2 hs
  exact ⟨a, b, ks, ls, e1, e2, e3, e4, e5, e6, k.1 _ (.bl _)⟩
 ·exact nomatch q
end
end Vm
namespace Vm
open PySem PySem.Spec PyProof.Rows L2 Fz
def rRaiseG (x f : Str) (r : RE) : RS := fun ρ => (r ρ).bind fun ρ1 tp => match rdT ρ1 tp with
 | some (.int n) => if n.natAbs.log2 < 1920 then .er ρ1 ⟨x, some (f, n)⟩ else .stk
 | _ => .stk
end Vm
namespace Vm
open PySem PySem.Spec PyProof.Rows L2 Fz
def wFuel : Nat := 1000000
def rFgt (vs : List Nat) (r : RS) : RS := fun ρ => match r ρ with
 | .ok ρ1 .nx => .ok (wipeE ρ1 vs) .nx
 | o => o
def rFgtL (vs : List Nat) (r : RS) : RS := fun ρ => match r ρ with
 | .ok ρ1 .nx => .ok (wipeE ρ1 vs) .nx
 | .ok ρ1 .ct => .ok (wipeE ρ1 vs) .ct
 | .ok ρ1 .bk => .ok (wipeE ρ1 vs) .bk
 | o => o
section
variable {K : PySem.W.Frag} {B : Bx} {w : WX} {M W H : Hp} {ρ : Env} {σ : L2.St}
theorem St.forgets (s : St K B M W H ρ σ) : ∀ vs : List Nat, St K B M W H (wipeE ρ vs) σ
 | [] => s
 | v :: vs => (St.forgets s vs).forget v
theorem ss_fgt {ts : TS} {rs : RS} {vs : List Nat} (h : SS K B w ts rs) : SS K B w ts (rFgt vs rs) := fun D σ H M W ρ s k => h D σ H M W ρ s (by
 unfold rFgt at k
 generalize rs ρ = o at k ⊢
 cases o with
 | stk => exact k
 | er ρ1 x => exact k
 | ok ρ1 fl =>
  cases fl with
  | nx => exact fun σ' M' W' H' gr s' => k σ' M' W' H' gr (s'.forgets vs)
  | bk => exact k
  | ct => exact k
  | rt t => exact k)
theorem ss_fgtL {ts : TS} {rs : RS} {vs : List Nat} (h : SS K B w ts rs) : SS K B w ts (rFgtL vs rs) := fun D σ H M W ρ s k => h D σ H M W ρ s (by
 unfold rFgtL at k
 generalize rs ρ = o at k ⊢
 cases o with
 | stk => exact k
 | er ρ1 x => exact k
 | ok ρ1 fl =>
  cases fl with
  | nx => exact fun σ' M' W' H' gr s' => k σ' M' W' H' gr (s'.forgets vs)
  | bk => exact fun σ' M' W' H' gr s' => k σ' M' W' H' gr (s'.forgets vs)
  | ct => exact fun σ' M' W' H' gr s' => k σ' M' W' H' gr (s'.forgets vs)
  | rt t => exact k)
end
end Vm
namespace Vm
open PySem PySem.Spec PyProof.Rows L2 Fz
def rg3D (i c : Int) (n : Nat) : List D := (List.range n).map fun k : Nat => .int (i + (k : Int) * c)
def rRng3 (a : RA) : Env → Out (List D) := fun ρ => (a ρ).bind fun ρ1 tps => match rdTs ρ1 tps with
 | some [.int i, .int j, .int c] => if c ≠ 0 ∧ c.natAbs < 1073741824 ∧ Builtin.Range.small i j c = true ∧ Builtin.Range.rangeSize i j c = ((Builtin.Range.rangeSize i j c).toNat : Int) then .ok ρ1 (rg3D i c (Builtin.Range.rangeSize i j c).toNat) else .stk
 | _ => .stk
section
variable {K : PySem.W.Frag} {B : Bx} {w : WX} {t ta tb : TE} {ra rb : RE} {tA : TA} {rA : RA}
def rMeth (ok : D → Bool) (f : List D → Option Rz) (o : RE) (a : RA) : RE := fun ρ => (o ρ).bind fun ρ1 t1 => match rdT ρ1 t1 with
 | some d => if ok d = true then (a ρ1).bind fun ρ2 tps => match rdTs ρ2 (t1 :: tps) with
   | some ds => match f ds with
    | some z => .ok ρ2 z.tp
    | none => .stk
   | none => .stk
  else .stk
 | none => .stk
def MtO (K : PySem.W.Frag) (T : String) (r : V → List V → Hp → VK → Prop) (ok : D → Bool) (f : List D → Option Rz) : Prop :=
 (∀ (x : V) (d : D) (H M : Hp), R1 K H M x d → ok d = true → tyV K T x H) ∧ OpN K (fun vs H Q => match vs with | x :: xs => r x xs H Q | [] => False) f
theorem se_meth {T : String} {r : V → List V → Hp → VK → Prop} {ok : D → Bool} {f : List D → Option Rz} (ho : MtO K T r ok f) (ha : SE K B w ta ra) (hA : SA K B w tA rA) : SE K B w (tBM K T r ta tA) (rMeth ok f ra rA) := fun σ H M W ρ Q s k =>
 ha σ H M W ρ _ s (KG.bind k fun ρ1 t1 v M1 W1 H1 _ g1 s1 h1 k1 => by
  cases e1 : rdT ρ1 t1 with
  | none => rw [e1] at k1; exact False.elim k1
  | some d =>
   rw [e1] at k1
   try dsimp only at k1
   split at k1
   ·rename_i hok
    refine ⟨ho.1 _ _ _ _ (h1.r1 s1 e1) hok, ?_⟩
    obtain ⟨W1', s1', pd⟩ := pend s1 h1
    refine hA σ H1 M1 W1' ρ1 _ s1' ?_
    cases e : rA ρ1 with
    | stk => rw [e] at k1; exact k1
    | er ρ2 x =>
     rw [e] at k1
     intro d M2 W2 H2 g2 s2 hx
     obtain ⟨W3, g3, s3, _, _⟩ := pd M2 W2 H2 ρ2 g2 s2
     exact k1 d M2 W3 H2 g3 s3 hx
    | ok ρ2 tps =>
     rw [e] at k1
     intro vs M2 W2 H2 g2 s2 hv
     obtain ⟨W3, g3, s3, f3, h3⟩ := pd M2 W2 H2 ρ2 g2 s2
     obtain ⟨q1, q2⟩ := TpsOk.pend f3 hv
     have k2 : KG K B M1 W1 σ w (RelV1 K B σ) (match rdTs ρ2 (t1 :: tps) with
      | some ds => match f ds with
       | some z => Out.ok ρ2 z.tp
       | none => .stk
      | none => .stk) Q := k1
     cases e3 : rdTs ρ2 (t1 :: tps) with
     | none => rw [e3] at k2; exact False.elim k2
     | some ds =>
      rw [e3] at k2
      dsimp only at k2
      cases e4 : f ds with
      | none => rw [e4] at k2; exact False.elim k2
      | some z =>
       rw [e4] at k2
       exact ho.2 (v :: vs) ds H2 M2 Q z s3.mh (rdTs_r1 s3 (tps := t1 :: tps) ⟨h3, q1, q2⟩ e3) e4 (ResK.mk s3 (KG.up g3 k2))
   ·exact False.elim k1)
def intsD : List D → Option (List Int)
 | [] => some []
 | .int i :: r => match intsD r with
  | some l => some (i :: l)
  | none => none
 | _ => none
theorem intsD_map (l : List Int) : intsD (l.map PyData.int) = some l := by
 induction l with
 | nil => rfl
 | cons a l ih => show (match intsD (l.map PyData.int) with | some l => some (a :: l) | none => none) = _; rw [ih]
def isLst : D → Bool
 | .list _ => true
 | _ => false
def isStr : D → Bool
 | .str _ => true
 | _ => false
theorem ty_lst {x : V} {d : D} {H M : Hp} (h : R1 K H M x d) (e : isLst d = true) : tyV K "list" x H := by
 cases d with
 | list ds => cases h with | lst t1 t2 => exact .inl ⟨rfl, _, .inl (.inl t1)⟩
 | _ => exact nomatch e
theorem ty_str {x : V} {d : D} {H M : Hp} (h : R1 K H M x d) (e : isStr d = true) : tyV K "str" x H := by
 cases d with
 | str ds => have := r1_str h; subst this; exact rfl
 | _ => exact nomatch e
def oCount : List D → Option Rz
 | [.list ds, .int k] => match intsD ds with
  | some ns => some (.fz (.int (ns.count k : Nat)))
  | none => none
 | _ => none
def oZfill : List D → Option Rz
 | [.str a, .int i] => if PadOk i = true then some (.fz (.str (Txt.zfill a i))) else none
 | _ => none
theorem mto_zfill : MtO K "str" (fun x xs H Q => ∃ (a : Str) (i : Int), x = .str a ∧ xs = [.int i] ∧ PadOk i = true ∧ Q (.str (Txt.zfill a i)) H) isStr oZfill := ⟨fun x d H M h e => ty_str h e, fun vs ds H M Q z sm h e k => by
 unfold oZfill at e
 split at e
 ·rename_i a i
  cases h with | cons r1 r => cases r with | cons r2 r => cases r with | nil =>
  split at e
  ·rename_i hc
   cases e
   have := r1_str r1; subst this
   have := r1_int r2; subst this
   exact ⟨a, i, rfl, rfl, hc, k.1 _ (.str _)⟩
  ·exact nomatch e
 ·exact nomatch e⟩
def strsD : List D → Option (List Str)
 | [] => some []
 | .str i :: r => match strsD r with
  | some l => some (i :: l)
  | none => none
 | _ => none
theorem strsD_ok {M : Hp} : ∀ {vs : List V} {ds : List D} {ns : List Str}, Rps K M vs ds → strsD ds = some ns → vs = ns.map V.str
 | _, _, ns, .nil, e => by cases e; rfl
 | _, _, ns, .cons (d := d) h t, e => by
  cases d with
  | str i =>
   unfold strsD at e
   try dsimp only at e
   split at e
   ·rename_i l hl
    cases e
    cases h
    rw [List.map_cons, strsD_ok t hl]
   ·exact nomatch e
  | _ => exact nomatch e
theorem strsD_map (l : List Str) : strsD (l.map PyData.str) = some l := by
 induction l with
 | nil => rfl
 | cons a l ih => show (match strsD (l.map PyData.str) with | some l => some (a :: l) | none => none) = _; rw [ih]
def joinOk (a : Str) (ys : List Str) : Bool := decide ((ys.map (·.length)).sum + ys.length * a.length ≤ 16777216)
def oJoin : List D → Option Rz
 | [.str a, .list ds] => match strsD ds with
  | some ys => if joinOk a ys = true then some (.fz (.str (Txt.join a ys))) else none
  | none => none
 | [.str a, .tuple ds] => match strsD ds with
  | some ys => if joinOk a ys = true then some (.fz (.str (Txt.join a ys))) else none
  | none => none
 | _ => none
theorem mto_join : MtO K "str" (fun x xs H Q => ∃ a p, ∃ ys : List Str, x = .str a ∧ xs = [.ref p] ∧ (SqL K H p (ys.map V.str) ∨ SqT K H p (ys.map V.str)) ∧ (ys.map (·.length)).sum + ys.length * a.length ≤ 16777216 ∧ Q (.str (Txt.join a ys)) H) isStr oJoin := ⟨fun x d H M h e => ty_str h e, fun vs ds H M Q z sm h e k => by
 unfold oJoin at e
 split at e
 ·rename_i a ds0
  cases h with | cons r1 r => cases r with | cons r2 r => cases r with | nil =>
  split at e
  ·rename_i ys hy
   split at e
   ·rename_i hc
    cases e
    have := r1_str r1; subst this
    cases r2 with
    | lst t1 t2 =>
     have := strsD_ok t2 hy
     subst this
     exact ⟨a, _, ys, rfl, rfl, .inl (.inl (.inl t1)), of_decide_eq_true hc, k.1 _ (.str _)⟩
   ·exact nomatch e
  ·exact nomatch e
 ·rename_i a ds0
  cases h with | cons r1 r => cases r with | cons r2 r => cases r with | nil =>
  split at e
  ·rename_i ys hy
   split at e
   ·rename_i hc
    cases e
    have := r1_str r1; subst this
    obtain ⟨p, rfl⟩ := r2.tupR
    obtain ⟨xs, t1, t2⟩ := r2.sqT sm
    have := strsD_ok t2 hy
    subst this
    exact ⟨a, _, ys, rfl, rfl, .inr t1, of_decide_eq_true hc, k.1 _ (.str _)⟩
   ·exact nomatch e
  ·exact nomatch e
 ·exact nomatch e⟩
def oStr : D → Option Rz
 | .int i => if i.natAbs.log2 < 1920 then some (.fz (.str (toString i))) else none
 | _ => none
theorem op1_str : Op1 K (fun x H Q => ∃ i, [x] = [.int i] ∧ i.natAbs.log2 < 1920 ∧ Q (.str (toString i)) H) oStr := fun x d H M Q z sm h q k => by
 cases d with
 | int i =>
  unfold oStr at q
  try dsimp only at q
  split at q
  ·rename_i hl
   cases q
   have := r1_int h; subst this
   exact ⟨i, rfl, hl, k.1 _ (.str _)⟩
  ·exact nomatch q
 | _ => exact nomatch q
def boolsD : List D → Option (List Bool)
 | [] => some []
 | .bool i :: r => match boolsD r with
  | some l => some (i :: l)
  | none => none
 | _ => none
theorem boolsD_ok {M : Hp} : ∀ {vs : List V} {ds : List D} {ns : List Bool}, Rps K M vs ds → boolsD ds = some ns → vs = ns.map V.bl
 | _, _, ns, .nil, e => by cases e; rfl
 | _, _, ns, .cons (d := d) h t, e => by
  cases d with
  | bool i =>
   unfold boolsD at e
   try dsimp only at e
   split at e
   ·rename_i l hl
    cases e
    cases h
    rw [List.map_cons, boolsD_ok t hl]
   ·exact nomatch e
  | _ => exact nomatch e
end
end Vm
namespace Vm
open PySem PySem.Spec PyProof.Rows L2 Fz
def rl (X : Hp) (a : Addr) (o : HO) : Hp := fun b => if b = a then (match X a with | some _ => some o | none => none) else X b
section
variable {X Y : Hp} {a b : Addr} {o o' f : HO}
theorem rl_ne (h : b ≠ a) : rl X a o b = X b := if_neg h
theorem rl_some {x : HO} (h : X a = some x) : rl X a o a = some o := by unfold rl; rw [if_pos rfl, h]
end
def Twin (o f : HO) : Prop := ∃ u, (u = o ∨ ∃ ob, o = .frz ob u) ∧ (u = f ∨ ∃ ob, f = .frz ob u) ∧ ((∃ kvs, u = .dK kvs) ∨ ∃ kvs, u = .dT kvs)
theorem Twin.symm {o f : HO} (h : Twin o f) : Twin f o := by obtain ⟨u, h1, h2, h3⟩ := h; exact ⟨u, h2, h1, h3⟩
theorem Twin.rd {X : Hp} {a : Addr} {o f : HO} {w : HO} (t : Twin o f) (hx : X a = some o) (h : Rd X a w) (hw : (∃ kvs, w = .dK kvs) ∨ ∃ kvs, w = .dT kvs) : Rd (rl X a f) a w := by
 obtain ⟨u, h1, h2, h3⟩ := t
 have e : w = u := by
  unfold Rd at h
  rw [hx] at h
  rcases h with h | ⟨ob, h⟩
  ·cases h
   rcases h1 with h1 | ⟨ob, h1⟩
   ·exact h1.symm
   ·subst h1; rcases hw with ⟨_, hw⟩ | ⟨_, hw⟩ <;> cases hw
  ·cases h
   rcases h1 with h1 | ⟨ob', h1⟩
   ·subst h1; rcases h3 with ⟨_, h3⟩ | ⟨_, h3⟩ <;> cases h3
   ·cases h1; rfl
 subst e
 rcases h2 with h2 | ⟨ob, h2⟩
 ·subst h2; exact .inl (rl_some hx)
 ·subst h2; exact .inr ⟨ob, rl_some hx⟩
theorem Twin.lq {K : PySem.W.Frag} {X : Hp} {a : Addr} {o f : HO} (t : Twin o f) (hx : ∀ x, X a = some x → x = o) : Lq K X (rl X a f) := by
 have hd : ∀ x, X a = some x → (∀ xs, x ≠ .lst xs) ∧ (∀ xs, x ≠ .tup xs) := fun x e => by
  have := hx x e; subst this
  obtain ⟨u, h1, _, h3⟩ := t
  rcases h1 with h1 | ⟨ob, h1⟩
  ·subst h1; rcases h3 with ⟨_, h3⟩ | ⟨_, h3⟩ <;> subst h3 <;> exact ⟨(fun _ z => nomatch z), (fun _ z => nomatch z)⟩
  ·subst h1; exact ⟨(fun _ z => nomatch z), (fun _ z => nomatch z)⟩
 refine ⟨fun b xs e => ?_, fun b xs e => ?_, fun b kvs e => ?_, fun b kvs e => ?_, fun b ob xs e => ?_⟩
 rotate_left 4
 ·have : b ≠ a := fun z => by
   subst z
   have := hx _ e; subst this
   obtain ⟨u, h1, _, h3⟩ := t
   rcases h1 with h1 | ⟨ob', h1⟩
   ·subst h1; rcases h3 with ⟨_, h3⟩ | ⟨_, h3⟩ <;> cases h3
   ·cases h1; rcases h3 with ⟨_, h3⟩ | ⟨_, h3⟩ <;> cases h3
  rw [rl_ne this]; exact e
 ·have : b ≠ a := fun z => by subst z; exact (hd _ e).1 xs rfl
  rw [rl_ne this]; exact e
 ·have : b ≠ a := fun z => by subst z; exact (hd _ e).2 xs rfl
  rw [rl_ne this]; exact e
 ·by_cases hb : b = a
  ·subst hb
   have ho : X b = some o := by
    rcases e with e | ⟨ob, e⟩
    ·rw [e, hx _ e]
    ·rw [e, hx _ e]
   exact t.rd ho e (.inl ⟨kvs, rfl⟩)
  ·unfold Rd at e ⊢; rw [rl_ne hb]; exact e
 ·by_cases hb : b = a
  ·subst hb
   have ho : X b = some o := by
    rcases e with e | ⟨ob, e⟩
    ·rw [e, hx _ e]
    ·rw [e, hx _ e]
   exact t.rd ho e (.inr ⟨kvs, rfl⟩)
  ·unfold Rd at e ⊢; rw [rl_ne hb]; exact e
theorem Twin.no {o f : HO} (t : Twin o f) : (∀ xs, o ≠ .lst xs) ∧ (∀ ob xs, o ≠ .frz ob (.lst xs)) ∧ (∀ xs, o ≠ .xd xs) := by
 obtain ⟨u, h1, _, h3⟩ := t
 rcases h3 with ⟨k, rfl⟩ | ⟨k, rfl⟩ <;> rcases h1 with rfl | ⟨ob, rfl⟩ <;> exact ⟨(fun _ z => nomatch z), (fun _ _ z => nomatch z), (fun _ z => nomatch z)⟩
def noE (ρ : Env) : Bool := ρ.all fun x => match x with | some (.e, _) => false | _ => true
def rLockG (i : Nat) (g : Fg) (kds : List (D × D)) (r : RS) (ρ : Env) : Out Fl := match r (ρ.set i (some (.l, .dict kds))) with
 | .ok _ (.rt (.sl _)) => .stk
 | .ok ρ2 fl => match ρ2[i]? with
  | some (some (.l, d)) => .ok (ρ2.set i (some (g, d))) fl
  | _ => .stk
 | _ => .stk
def rLock (i : Nat) (r : RS) : RS := fun ρ => match wk ρ (.sl i) with
 | some (ρ0, _) => if noE ρ0 = true then (match ρ0[i]? with
  | some (some (.f, .dict kds)) => if isN (.dict kds) = true then .stk else rLockG i .f kds r ρ0
  | some (some (.b, .dict kds)) => if isN (.dict kds) = true then .stk else rLockG i .b kds r ρ0
  | _ => .stk) else .stk
 | _ => .stk
section
variable {K : PySem.W.Frag} {B : Bx} {w : WX} {M W H : Hp} {ρ : Env} {σ : L2.St}
def rItD (i : Nat) : Env → Out (List D) := fun ρ => match ρ[i]? with
 | some (some (.l, .dict kds)) => .ok ρ (kds.map (·.1))
 | _ => .stk
end
end Vm
namespace Vm
open PySem PySem.Spec PyProof.Rows L2 Fz
section
variable {K : PySem.W.Frag} {B : Bx} {w : WX} {ta tb : TE} {ra rb : RE}
def oRev : D → Option Rz
 | .list ds => some (.ow false (.list ds.reverse))
 | _ => none
theorem op1_rev : Op1 K (fun x H Q => ∃ a xs, x = .ref a ∧ SqL K H a xs ∧ ∀ p, H p = none → Q (.ref p) (upd H p (.lst xs.reverse))) oRev := fun x d H M Q z sm h q k => by
 cases d with
 | list ds =>
  cases q
  cases h with
  | lst t1 t2 => exact ⟨_, _, rfl, .inl (.inl t1), fun l hl => k l (.lst _) hl t2.reverse⟩
 | _ => exact nomatch q
theorem se_revL (ha : SE K B w ta ra) : SE K B w (tRevL K ta) (rOp1 oRev ra) := se_un op1_rev ha
end
end Vm
namespace Vm
open PySem PySem.Spec PyProof.Rows L2 Fz
section
variable {K : PySem.W.Frag}
def oMulS : D → D → Option Rz
 | .str x, .int n => if 0 ≤ n ∧ n ≤ 1000 ∧ x.length ≤ 1000 then some (.fz (.str (Txt.mul x n))) else none
 | _, _ => none
theorem mulOk_of {x : Str} {n : Int} (h : 0 ≤ n ∧ n ≤ 1000 ∧ x.length ≤ 1000) : MulOk x n := by
 have h1 : x.length * n.toNat ≤ 1000 * 1000 := Nat.mul_le_mul h.2.2 (by omega)
 refine ⟨?_, fun hn _ hx => ?_, fun _ _ => ?_⟩
 ·rw [Bool.or_eq_false_iff]; exact ⟨decide_eq_false (by omega), decide_eq_false (by omega)⟩
 ·have h2 : (2 ^ 63 - 1) / 1000 ≤ ((2 ^ 63 - 1) / n : Int) := by
   have : (2 ^ 63 - 1) / n * n + (2 ^ 63 - 1) % n = (2 ^ 63 - 1 : Int) := Int.ediv_mul_add_emod _ _
   have h3 := Int.emod_lt_of_pos (2 ^ 63 - 1) (show 0 < n by omega)
   refine Int.le_ediv_of_mul_le (by omega) ?_
   have : (2 ^ 63 - 1) / 1000 * n ≤ ((2 ^ 63 - 1) / 1000 : Int) * 1000 := Int.mul_le_mul_of_nonneg_left h.2.1 (by decide)
   omega
  omega
 ·unfold Builtin.Str.tooLong
  exact decide_eq_false (by have : 1000 * 1000 ≤ sizeLine := (by decide); omega)
theorem op2_mulS : Op2 K rMulS oMulS := fun x y d e H M Q z sm h1 h2 q k => by
 cases h1 <;> cases h2 <;> first | (cases q; done) | skip
 unfold oMulS at q
 dsimp only at q
 split at q
 ·rename_i hl; cases q; exact ⟨_, _, rfl, rfl, mulOk_of hl, k.1 _ (.str _)⟩
 ·exact nomatch q
end
end Vm
namespace Vm
open PySem PySem.Spec PyProof.Rows L2 Fz
end Vm
namespace Vm
open PySem PySem.Spec PyProof.Rows L2 Fz
end Vm
namespace Vm
open PySem PySem.Spec PyProof.Rows L2 Fz
def kDPop (i : Nat) (ρ1 : Env) (tk : Tp) : Out Tp := match rdT ρ1 tk, ρ1[i]? with
 | some kd, some (some (.o false p, .dict kds)) => match key1 kd with
  | some kk => match lookD kds (.inl kk) with
   | some d => .ok (ρ1.set i (some (.o false p, .dict (dropD kds (.inl kk))))) (.fz d)
   | none => .stk
  | none => .stk
 | _, _ => .stk
def rDPop (i : Nat) (k : RE) : RE := fun ρ => match ρ[i]? with
 | some (some (.o false _, .dict _)) => (k ρ).bind fun ρ1 tk => kDPop i ρ1 tk
 | _ => .stk
def zipD : D → D → Option (List D)
 | .list xs, .list ys => some ((xs.zip ys).map fun p => .tuple [p.1, p.2])
 | .tuple xs, .tuple ys => some ((xs.zip ys).map fun p => .tuple [p.1, p.2])
 | .dict [(.list [], .list xs)], .dict [(.list [], .list ys)] => some ((xs.zip ys).map fun p => .tuple [p.1, p.2])
 | _, _ => none
def z0 (ρ : Env) : Tp → Option D
 | .sl i => match ρ[i]? with
  | some (some (.f, d)) => some d
  | some (some (.b, d)) => some d
  | _ => none
 | .fz d => some d
 | .ow _ _ => none
 | .tr _ => none
def kItZ (ρ1 : Env) : List Tp → Out (List D)
 | [t1, t2] => match z0 ρ1 t1, z0 ρ1 t2 with
  | some d1, some d2 => match zipD d1 d2 with
   | some l => .ok ρ1 l
   | none => .stk
  | _, _ => match stFs ρ1 [t1, t2] with
   | some (ρ2, [d1, d2]) => match zipD d1 d2 with
    | some l => .ok ρ2 l
    | none => .stk
   | _ => .stk
 | _ => .stk
def rItZ (a b : RE) : Env → Out (List D) := fun ρ => (rCons a (rCons b rNil) ρ).bind fun ρ1 tps => kItZ ρ1 tps
end Vm
namespace Vm
open PySem PySem.Spec PyProof.Rows L2 Fz
section
variable {K : PySem.W.Frag}
def oLenSetI : D → Option Rz
 | .list ds => match intsD ds with
  | some ns => if ns.length ≤ 4000 ∧ ns.Nodup then some (.fz (.int ns.length)) else none
  | none => none
 | _ => none
end
theorem hu65 {k : Nat} {A : Around} (r : Room k A) : A.units + 65 < cLine := by have := r.un; omega
def pl0 (ρ : Env) : Bool := ρ.all fun x => match x with | some (.e, _) => false | some (.l, _) => false | some (.b, .dict _) => false | _ => true
def rLockO (i : Nat) (r : RS) : RS := fun ρ => match ρ[i]? with
 | some (some (.o u p, .dict kds)) => if pl0 ρ = true then (match rLockG i (.o u p) kds r ρ with
  | .ok ρ2 fl => if pl0 ρ2 = true then .ok ρ2 fl else .stk
  | _ => .stk) else .stk
 | _ => .stk
section
variable {K : PySem.W.Frag} {B : Bx} {w : WX} {M W H : Hp} {ρ : Env} {σ : L2.St}
def dl (X : Hp) (a : Addr) : Hp := fun b => if b = a then none else X b
end
end Vm
namespace Vm
open PySem PySem.Spec PyProof.Rows L2 Fz
section
variable {K : PySem.W.Frag} {B : Bx} {w : WX} {ta : TE} {ra : RE}
def rItET (a : RE) : Env → Out (List D) := fun ρ => (a ρ).bind fun ρ1 tp => match wk ρ1 tp with
 | some (ρ2, .tuple ds) => .ok ρ2 (enD ds)
 | _ => .stk
end
end Vm
namespace Vm
open PySem PySem.Spec PyProof.Rows L2 Fz
open PySem.W (KatLex kat_nil kat_cons kat_yes kat_no kat_lt KatTups kat_kind)
abbrev nmLe (p q : List Nat) : Bool := !decide (q < p)
end Vm
namespace Vm
open PySem PySem.Spec PyProof.Rows L2 Fz
abbrev AO := Addr × PySem.Obj
def EndP (outer : List PySem.Env) (P : Program) (w : World) (H : Hp) (s : Shared) (Q : VK) : Result → Shared → Prop
 | .ok (.ret u), s' => CE outer P w H s Q u s'
 | _, _ => False
structure FnP (P : Program) (w : World) (K : PySem.W.Frag) (mg : Str → Option Value) (base : Heap) (k : Nat) (f : Addr) (fd : FuncData) (ps : List Str) (sp : Addr → Value → Option Addr → Sp) : Prop where
 len : ∀ a c d vs H Q E, sp a c d vs H Q E → vs.length = ps.length
 run : ∀ (A : Around) (outer : List PySem.Env) (s : Shared) (H : Hp) (args : Args) (us : List Value) (vs : List V) (Q : VK) (E : XK) (p : AO) (c : Value) (d : Option Addr),
  L2H.RoomH k A → A.handled = some (.ref p.1) → Zc c d p.2 → (∃ us, p.2.data = .fields us) → L2H.PinOk outer H s p → Env0 P w K mg base A outer s H → BindsTo s fd args (ps.zip us) → Vals vs us → sp p.1 c d vs H Q E → codeAny (model P w) A (.call (.ref f) args) (EndP outer P w H s Q) s
theorem mark_self {A : Around} {env : PySem.Env} {v : Value} (h : A.handled = some v) : (A.deeper env).mark (some v) = A.deeper env := by
 cases A
 simp only at h
 subst h
 rfl
theorem fnP_of {P : Program} {w : World} {K : PySem.W.Frag} {mg : Str → Option Value} {base : Heap} {x qual : Str} {st : Stmt} {f : Addr} {fd : FuncData} {N ps : List Str} {k : Nat} {sp : Addr → Value → Option Addr → Sp} (F : Fun K x qual st f fd) (S : FnScope N ps (defScope st))
  (len : ∀ a c d vs H Q E, sp a c d vs H Q E → vs.length = ps.length)
  (hbody : ∀ (cdv : Value) (A : Around) (outer : List PySem.Env) (s : Shared) (H : Hp) (vs : List V) (Q : VK) (E : XK) (p : AO) (c : Value) (d : Option Addr), L2H.RoomH k (A.deeper (envOfC qual (defScope st) s.heap.objs.size f cdv)) → Zc c d p.2 → (∃ us, p.2.data = .fields us) → sp p.1 c d vs H Q E →
   ∃ t, PSs ((cxOf CX0 P w K mg base N qual (defScope st) f cdv A outer s H E).suite p.1 [p]) (defBody st) t ∧ t { nx := fun _ H' => Q .non H', rt := Q } (L2.start N vs) H) : FnP P w K mg base (k + 1) f fd ps sp := by
 obtain ⟨oc, od, kV, doc, pm, an, cdv, ct, osl, rfl, lk, hcd⟩ := F.ex
 refine ⟨len, ?_⟩
 intro A outer s H args us vs Q E p c d hr hh hz hf hpin e0 hb r hsp
 have inK : K.In s.heap := e0.mod.kin.keeps fun b o q => (e0.bs b o q).1
 have noL : s.heap.NoLimit := e0.mod.nolimit.keeps fun b o q => (e0.bs b o q).1
 have kinds : ∀ y ∈ ps.zip us, (defScope st).names.lookup y.1 = some .local ∨ ((defScope st).names.lookup y.1 = some .cell ∧ ((cellsFrom (s.heap.objs.size + 1) (defScope st).names []).lookup y.1).isSome = true) := by
  rintro ⟨n, v⟩ hy
  exact (S.par n (List.of_mem_zip hy).1).imp id fun q => ⟨q, PySem.W.cellsFrom_some _ _ _ (.inl q)⟩
 refine codeAny_call_function hr.depth (inK _ _ lk) rfl S.co S.gen rfl (PySem.W.codeRec_of inK hcd) (hb _ _ _ _ (wpAny_newFunctionEnv_cells S.kind kinds ?_))
 rintro env rfl s1 hx
 refine ⟨noL.keeps hx.toInCall.keep, codeAny_func ?_⟩
 obtain ⟨t, ht, hq⟩ := hbody cdv A outer s H vs Q E p c d (hr.deeper _) hz hf hsp
 have I0 := L2H.inv_startH (CX := CX0) (E := E) S hpin e0 (len _ _ _ _ _ _ _ hsp) r hx
 have I1 : Inv ((cxOf CX0 P w K mg base N qual (defScope st) f cdv A outer s H E).suite p.1 [p]) [] (L2.start N vs) H s1 :=
  ⟨I0.ok.suite _ _, I0.os, I0.bare, I0.base, I0.loc, I0.cell, I0.free, I0.freeC, I0.pin, I0.hok, I0.len⟩
 have run := ht.run [] s1 (L2.start N vs) H _ I1 hq
 have eA : ((cxOf CX0 P w K mg base N qual (defScope st) f cdv A outer s H E).suite p.1 [p]).A = A.deeper (envOfC qual (defScope st) s.heap.objs.size f cdv) := mark_self hh
 rw [eA] at run
 refine wpAny_mono run (fun fl s' h => ?_) fun e s' h => False.elim h
 cases fl with
 | ret u =>
  obtain ⟨v, σ', H', J, rv, q⟩ := h
  exact ⟨v, H', J.os, J.bare, J.base, J.hok, rv, q⟩
 | next =>
  obtain ⟨σ', H', J, q⟩ := h
  exact ⟨V.non, H', J.os, J.bare, J.base, J.hok, rfl, q⟩
 | brk => exact False.elim h.choose_spec.choose_spec.2
 | cont => exact False.elim h.choose_spec.choose_spec.2
def E0X : XK := fun _ _ _ => False
def tCallP (sp : Sp) (t : TA) : TE := fun σ H Q => t σ H fun vs H1 => sp vs H1 Q E0X
theorem pe_callP {X : Cx} {k : Nat} {f a : Addr} {oe : PySem.Obj} {pn : List AO} {fd : FuncData} {ps : List Str} {sp : Addr → Value → Option Addr → Sp} {cls : Value} {d : Option Addr} {x : Str} {q pos : Pos} {e : Expr} {es : List Expr} {t : TA}
  (F : FnP X.prog X.w X.K X.mg X.base k f fd ps sp) (hz : Zc cls d oe) (hf : ∃ us, oe.data = .fields us) (hr : L2H.RoomH k X.A) (hg : Gl X x) (hm : X.mg x = some (.ref f)) (hk : PySem.W.keepIn X.K (.ref f) = true) (hb : Binds X.K fd ps []) (ha : PA (X.suite a ((a, oe) :: pn)) (e :: es) t)
  (hdb : (x == ("__debug__" : Str)) = false := by decide) (he : starEach (e :: es) X.env = (false, eval e X.env) :: starEach es X.env := by rfl) (hpl : (backTo pos (starEach es X.env)).any (·.1) = false := by rfl) :
  PE (X.suite a ((a, oe) :: pn)) (.Call (.Name x q) (e :: es) [] pos) (tCallP (sp a cls d) t) := by
 constructor
 intro pins s σ H Q I h
 refine wpAny_Call_Name_kw (ld_glob I hg hm ?_ hdb)
 refine PySem.W.callWith_K (h₀ := X.base) I.ok.mod.kin hk (thn (ha.run pos pins s σ H _ I h) fun us s1 hh => ?_) he hpl
 obtain ⟨vs, H1, I1, r, hs⟩ := hh
 refine ⟨I1.kIn, ?_⟩
 have hl : us.length = ps.length := by rw [← r.length]; exact F.len _ _ _ _ _ _ _ hs
 have bd := hb s1 us I1.kIn (by rw [List.append_nil]; exact hl)
 rw [List.append_nil] at bd
 obtain ⟨g1, g2, g3, g4, g5⟩ := I1.pin (a, oe) (List.mem_append_left _ List.mem_cons_self)
 have hp : L2H.PinOk X.stack H1 s1 (a, oe) := ⟨g1, g2, fun m => (List.mem_cons.mp (I1.stkSub a m)).elim g3 g4, g5⟩
 refine wpAny_call (codeAny_mono (F.run (X.suite a ((a, oe) :: pn)).A X.stack s1 H1 ⟨us, []⟩ us vs Q E0X (a, oe) cls d ⟨hr.dp, hr.un⟩ rfl hz hf hp I1.env0 bd r hs) fun rs s' hq => ?_)
 cases rs with
 | error e => exact False.elim hq
 | ok fl =>
  cases fl with
  | ret u => exact I1.after hq
  | next => exact False.elim hq
  | brk => exact False.elim hq
  | cont => exact False.elim hq
abbrev xB (B0 : Hp) (a : Addr) (cls : Value) (d : Option Addr) (T : List (Addr × Str)) : Bx := ⟨B0, ppOf [], fun j => if j = 0 then some (a, cls, d) else none, T⟩
def spE (K : PySem.W.Frag) (T : List (Addr × Str)) (m : List (Fg × D) → FOut) (a : Addr) (cls : Value) (d : Option Addr) : Sp := fun vs H Q _ => vs = [.ref a] ∧ ∃ (dE : D) (B0 M : Hp), St K (xB B0 a cls d T) M B0 H [some (.e, dE)] [some (.ref a)] ∧ match m [(.e, dE)] with
 | .ok z _ => ∀ v M' W' H', Gr M B0 M' W' → St K (xB B0 a cls d T) M' W' H' [] [] → TpOk K (xB B0 a cls d T) M' W' H' [] [] z.tp v → Q v H'
 | _ => False
section
variable {K : PySem.W.Frag} {B B' : Bx} {M W H : Hp} {ρ : Env} {σ : L2.St} {T : List (Addr × Str)} {w : WX}
theorem St.bare (s : St K B M W H ρ σ) (hb : B'.b = B.b) (ht : B'.t = B.t) : St K B' M W H [] [] :=
 ⟨by rw [hb]; exact s.bw, s.mw, s.wh, rfl, (fun i g d q => by simp at q), (fun i j g h d e a b F G hij q1 => by simp at q1), by rw [ht]; exact s.tb⟩
theorem TpOk.bare {z : Rz} {v : V} (h : TpOk K B M W H ρ σ z.tp v) : TpOk K B' M W H [] [] z.tp v := by
 cases z with
 | fz d => exact h
 | ow u d => obtain ⟨a, o, e1, e2, e3, e4, e5⟩ := h; exact ⟨a, o, e1, e2, e3, e4, fun i g d b F q => by simp at q⟩
 | tr d => obtain ⟨a, o, e1, e2, e3, e4, e5⟩ := h; exact ⟨a, o, e1, e2, e3, e4, fun x hx i g d b F q => by simp at q⟩
theorem body_okE {t : TS} {r : RS} {n : Nat} {a : Addr} {cls : Value} {d : Option Addr} {vs : List V} {Q : VK} {E : XK} (h : spE K T (runFn 1 n fun ρ => (r ρ).dry) a cls d vs H Q E) (hb : ∀ B : Bx, B.x 0 = some (a, cls, d) → SS K (B.at T) (fun _ _ _ _ => False) t r) :
  vs = [.ref a] ∧ t { nx := fun _ H' => Q .non H', rt := Q } (vs.map some ++ List.replicate (n - 1) none) H := by
 obtain ⟨rfl, dE, B0, M, s, k⟩ := h
 have s1 : St K (xB B0 a cls d T) M B0 H ([some (.e, dE)] ++ List.replicate (n - 1) none) ([some (.ref a)] ++ List.replicate (n - 1) none) := by
  have key : ∀ {i : Nat} {g : Fg} {e : D}, ([some (Fg.e, dE)] ++ List.replicate (n - 1) (none : Option (Fg × D)))[i]? = some (some (g, e)) → i = 0 ∧ g = .e ∧ e = dE := fun {i g e} q => by
   cases i with
   | zero => cases q; exact ⟨rfl, rfl, rfl⟩
   | succ i =>
    exfalso
    rw [List.getElem?_append_right (by simp), List.getElem?_replicate] at q
    split at q <;> exact nomatch q
  refine ⟨s.bw, s.mw, s.wh, by simp, fun i g e q => ?_, fun i j g h e e' b c F G hij q1 q2 _ _ _ _ => ?_, s.tb⟩
  ·obtain ⟨rfl, rfl, rfl⟩ := key q
   exact s.sl 0 _ _ rfl
  ·obtain ⟨rfl, _, _⟩ := key q1
   obtain ⟨rfl, _, _⟩ := key q2
   exact absurd rfl hij
 refine ⟨rfl, hb (xB B0 a cls d T) rfl _ _ H M B0 _ s1 ?_⟩
 unfold runFn at k
 rw [if_pos (show [((Fg.e, dE) : Fg × D)].length = 1 from rfl)] at k
 show KS K _ M B0 _ _ (r (List.map some [((Fg.e, dE) : Fg × D)] ++ List.replicate (n - 1) none))
 dsimp only at k
 cases e : r (List.map some [((Fg.e, dE) : Fg × D)] ++ List.replicate (n - 1) none) with
 | stk => rw [e] at k; exact False.elim k
 | er ρ x => rw [e] at k; exact False.elim k
 | ok ρ fl =>
  rw [e] at k
  intro σ' M' W' H' gr st
  have st2 : St K (xB B0 a cls d T) M' W' H' [] [] := st.bare rfl rfl
  cases fl with
  | nx => exact k .non M' W' H' gr st2 (Rp.non)
  | bk => exact False.elim k
  | ct => exact False.elim k
  | rt tp =>
   cases tp with
   | sl i => exact False.elim k
   | fz d' => exact fun v hv => k v M' W' H' gr st2 (TpOk.bare (z := .fz d') hv)
   | ow u d' => exact fun v hv => k v M' W' H' gr st2 (TpOk.bare (z := .ow u d') hv)
   | tr d' => exact fun v hv => k v M' W' H' gr st2 (TpOk.bare (z := .tr d') hv)
end
section
variable {P : Program} {w : World} {K : PySem.W.Frag} {mg : Str → Option Value} {base : Heap} {T : List (Addr × Str)}
theorem okE {x qual : Str} {st : Stmt} {f : Addr} {fd : FuncData} {N : List Str} {y : Str} {k : Nat} {r : RS} (F : Fun K x qual st f fd) (S : FnScope N [y] (defScope st))
  (body : ∀ (cdv : Value) (Ar : Around) (outer : List PySem.Env) (s : Shared) (H : Hp) (E : XK) (a : Addr) (oe : PySem.Obj) (cls : Value) (d : Option Addr), Zc cls d oe → (∃ us, oe.data = .fields us) → L2H.RoomH k (Ar.deeper (envOfC qual (defScope st) s.heap.objs.size f cdv)) →
   ∃ t, PSs ((cxOf CX0 P w K mg base N qual (defScope st) f cdv Ar outer s H E).suite a [(a, oe)]) (defBody st) t ∧ ∀ B : Bx, B.x 0 = some (a, cls, d) → SS K (B.at T) (fun _ _ _ _ => False) t r) :
  FnP P w K mg base (k + 1) f fd [y] (spE K T (runFn 1 N.length fun ρ => (r ρ).dry)) := by
 refine fnP_of F S (fun a c d vs H Q E h => ?_) (fun cdv Ar outer s H vs Q E p cls d hr hz hf h => ?_)
 ·obtain ⟨e, _⟩ := h
  rw [e]; rfl
 ·obtain ⟨t, dv, q⟩ := body cdv Ar outer s H E p.1 p.2 cls d hz hf hr
  obtain ⟨h1, h2⟩ := body_okE h q
  refine ⟨t, dv, ?_⟩
  unfold L2.start
  subst h1
  exact h2
theorem okP {x qual : Str} {st : Stmt} {f : Addr} {fd : FuncData} {N ps : List Str} {k : Nat} {r : RS} (F : Fun K x qual st f fd) (S : FnScope N ps (defScope st))
  (body : ∀ (cdv : Value) (Ar : Around) (outer : List PySem.Env) (s : Shared) (H : Hp) (E : XK) (a : Addr) (oe : PySem.Obj) (cls : Value) (d : Option Addr), Zc cls d oe → (∃ us, oe.data = .fields us) → L2H.RoomH k (Ar.deeper (envOfC qual (defScope st) s.heap.objs.size f cdv)) →
   ∃ t, PSs ((cxOf CX0 P w K mg base N qual (defScope st) f cdv Ar outer s H E).suite a [(a, oe)]) (defBody st) t ∧ ∀ B : Bx, SS K (B.at T) (fun _ _ _ _ => False) t r) :
  FnP P w K mg base (k + 1) f fd ps (fun _ _ _ => spM K T (runFn ps.length N.length fun ρ => (r ρ).dry)) := by
 have up : ∀ {t : TS} {B : Bx} {E : XK}, SS K B (fun _ _ _ _ => False) t r → SS K B (fun cls d _ H => E cls d H) t fun ρ => (r ρ).dry := fun {t B E} h D σ H M W ρ s k => h D σ H M W ρ s (by
  dsimp only at k
  cases e : r ρ with
  | stk => rw [e] at k; exact k
  | er ρ' x => rw [e] at k; exact False.elim k
  | ok ρ' fl => rw [e] at k; exact k)
 refine fnP_of F S (fun a c d vs H Q E h => ?_) (fun cdv Ar outer s H vs Q E p cls d hr hz hf h => ?_)
 ·obtain ⟨args, B0, M, s, k⟩ := h
  have := s.ln
  rw [List.length_map, List.length_map] at this
  unfold runFn at k
  by_cases hl : args.length = ps.length
  ·omega
  ·rw [if_neg hl] at k; exact False.elim k
 ·obtain ⟨t, dv, q⟩ := body cdv Ar outer s H E p.1 p.2 cls d hz hf hr
  obtain ⟨h1, h2⟩ := body_ok h (fun B => up (q B))
  refine ⟨t, dv, ?_⟩
  unfold L2.start
  rw [h1]
  exact h2
structure CalP (P : Program) (w : World) (K : PySem.W.Frag) (mg : Str → Option Value) (base : Heap) (x : Str) (k : Nat) (ps : List Str) (sp : Addr → Value → Option Addr → Sp) (f : Addr) (fd : FuncData) : Prop where
 G : FnP P w K mg base k f fd ps sp
 g : mg x = some (.ref f)
 kp : PySem.W.keepIn K (.ref f) = true
 b : Binds K fd ps []
end
def rCallE (m : List (Fg × D) → FOut) (i : Nat) : RE := fun ρ => match ρ[i]? with
 | some (some (.e, dE)) => match m [(.e, dE)] with
  | .ok z _ => .ok ρ z.tp
  | _ => .stk
 | _ => .stk
section
variable {K : PySem.W.Frag} {B : Bx} {w : WX}
theorem se_callH {m : List (Fg × D) → FOut} {tA : TA} {rA : RA} (ms : List Bool) (hA : SA K B w tA rA) : SE K B w (tCallP (spM K B.t m) tA) (rCall (mdry m) ms rA) := fun σ H M W ρ Q s k =>
 call_ok (m := m) (m' := mdry m) (X := E0X) hA s k fun args => by
  rcases mdry_or m args with q | ⟨q1, q2⟩
  ·exact .inl q
  ·exact .inr ⟨q1, fun x io e => absurd e (q2 x io)⟩
theorem se_callE {m : List (Fg × D) → FOut} {i : Nat} {a : Addr} {cls : Value} {d : Option Addr} (hx : B.x i = some (a, cls, d)) :
  SE K B w (tCallP (spE K B.t m a cls d) (tCons (tVar i) tNil)) (rCallE m i) := fun σ H M W ρ Q s k => by
 unfold rCallE at k
 split at k
 ·rename_i dE hr
  obtain ⟨v, h1, a', c', dd, rfl, h2, h3, h5⟩ := s.sl i _ _ hr
  rw [hx] at h2; cases h2
  have E0 : Ent K B M W H ρ σ [] [] [] [] := ⟨s, trivial, rfl, rfl, rfl⟩
  have s0 := E0.enter
  refine ⟨.ref a, h1, rfl, dE, bIO (IO K M H [] [] []) H, M, ⟨s0.bw, s0.mw, s0.wh, rfl, fun j g e q => ?_, fun j l g h e e' b c F G hij q1 q2 _ _ _ _ => ?_, s0.tb⟩, ?_⟩
  ·cases j with
   | zero => cases q; exact ⟨_, rfl, a, cls, d, rfl, rfl, h3, h5⟩
   | succ j => simp at q
  ·cases j with
   | zero => cases l with
    | zero => exact absurd rfl hij
    | succ l => simp at q2
   | succ j => simp at q1
  ·cases em : m [(.e, dE)] with
   | stk => rw [em] at k; exact False.elim k
   | er x io => rw [em] at k; exact False.elim k
   | ok z io =>
    rw [em] at k
    intro v M' W' H' gr st hv
    have st2 : St K ⟨bIO (IO K M H [] [] []) H, ppOf [], fun _ => none, B.t⟩ M' W' H' [] [] := st.bare rfl rfl
    obtain ⟨W'', g3, s3, f3⟩ := E0.leave (io := []) (ρ2 := ρ) gr st2 rfl
    exact k v M' W'' H' g3 s3 (f3 z v (TpOk.bare hv))
 ·exact False.elim k
end
end Vm
namespace Vm
open PySem PySem.Spec PyProof.Rows L2 Fz
def rCntB (K : PySem.W.Frag) : V → List V → Hp → VK → Prop := fun x xs H Q => ∃ (p : Addr) (bs : List Bool) (b : Bool), x = .ref p ∧ xs = [.bl b] ∧ SqL K H p (bs.map V.bl) ∧ Q (.int (bs.count b : Nat)) H
theorem flat_bl (bs : List Bool) : (bs.map V.bl).all flatV = true := by
 induction bs with
 | nil => rfl
 | cons b bs ih => rw [List.map_cons, List.all_cons, ih]; rfl
theorem cnt_bl {b : Bool} : ∀ {bs : List Bool} {us : List Value}, Vals (bs.map V.bl) us → us.countP (eqU (.bl b)) = bs.count b
 | [], us, h => by
  have h' : Vals [] us := h
  cases h'
  rfl
 | c :: bs, us, h => by
  have h' : Vals (V.bl c :: bs.map V.bl) us := h
  cases h' with
  | cons r t =>
   rename_i u us
   rw [List.countP_cons, List.count_cons, cnt_bl t, eqU_of r rfl]
   rfl
theorem mt_lcountB {X : Cx} : MtR X "list.count" (rCntB X.K) := by
 intro pins s σ H x xs v us Q I rx rxs h
 obtain ⟨p, bs, b, rfl, rfl, hs, q⟩ := h
 cases rx
 obtain ⟨u, rfl, ru⟩ := rxs.one
 obtain ⟨its, rv, ⟨⟨cls, dd, data, sl⟩, n, ho, hc, hdn, hd⟩, hlen⟩ := I.list hs
 dsimp only at hc hd
 subst hc hd
 refine call_meets PySem.F.slot_list_count ⟨_, ho, rfl⟩ PySem.F.entry_list_count (PySem.F.args_list_count_2 _ _) (SeqAt.list_countAt p its.toArray n dd sl u (eqU (.bl b))) ⟨ho, fun y hy => mem_eqAt ru rfl rv (flat_bl bs) y (by simpa using hy), ?_⟩
 refine ⟨.int (bs.count b : Nat), H, I.tok _, ⟨s.toks, ?_⟩, q⟩
 show Value.int ((its.toArray.toList.countP (eqU (.bl b)) : Nat) : Int) s.toks = _
 rw [← cnt_bl rv]
section
variable {K : PySem.W.Frag} {M : Hp}
def oCountB : List D → Option Rz
 | [.list ds, .bool b] => match boolsD ds with
  | some bs => some (.fz (.int (bs.count b : Nat)))
  | none => none
 | _ => none
theorem mto_countB : MtO K "list" (rCntB K) isLst oCountB := ⟨fun x d H M h e => ty_lst h e, fun vs ds H M Q z sm h e k => by
 unfold oCountB at e
 split at e
 ·rename_i ds0 b
  cases h with | cons r1 r => cases r with | cons r2 r => cases r with | nil =>
  split at e
  ·rename_i bs hn
   cases e
   cases r2
   cases r1 with
   | lst t1 t2 =>
    have := boolsD_ok t2 hn
    subst this
    exact ⟨_, bs, b, rfl, rfl, .inl (.inl t1), k.1 _ (.int _)⟩
  ·exact nomatch e
 ·exact nomatch e⟩
def oIndexB : List D → Option Rz
 | [.list ds, .bool b] => match boolsD ds with
  | some bs => if b ∈ bs then some (.fz (.int (bs.idxOf b : Nat))) else none
  | none => none
 | _ => none
theorem mto_indexB : MtO K "list" (rIndex K) isLst oIndexB := ⟨fun x d H M h e => ty_lst h e, fun vs ds H M Q z sm h e k => by
 unfold oIndexB at e
 split at e
 ·rename_i ds0 b
  cases h with | cons r1 r => cases r with | cons r2 r => cases r with | nil =>
  split at e
  ·rename_i bs hn
   split at e
   ·rename_i hm
    cases e
    cases r2
    cases r1 with
    | lst t1 t2 =>
     have := boolsD_ok t2 hn
     subst this
     have hl := List.idxOf_lt_length_of_mem hm
     refine ⟨_, bs.map V.bl, .bl b, bs.idxOf b, .bl b, rfl, rfl, .inl (.inl t1), rfl, flat_bl bs, ?_, ?_, fun m z' h1 h2 => ?_, k.1 _ (.int _)⟩
     ·rw [List.getElem?_map, List.getElem?_eq_getElem hl, List.getElem_idxOf hl]; rfl
     ·show (b == b) = true
      simp
     ·have hml : m < bs.length := by omega
      rw [List.getElem?_map, List.getElem?_eq_getElem hml] at h2
      cases h2
      show (bs[m] == b) = false
      have h3 := List.not_of_lt_findIdx (p := fun y => y == b) (xs := bs) (i := m) h1
      simpa using h3
   ·exact nomatch e
  ·exact nomatch e
 ·exact nomatch e⟩
end
end Vm
namespace Vm
open PySem PySem.Spec PyProof.Rows L2 Fz
end Vm
namespace Vm
open PySem PySem.Spec PyProof.Rows L2 Fz
end Vm
namespace Vm
open PySem PySem.Spec PyProof.Rows L2 Fz RZ
end Vm
namespace Vm
open PySem PySem.Spec PyProof.Rows L2 Fz
end Vm
namespace Vm
open PySem PySem.Spec PyProof.Rows L2 Fz
def srtS (xs : List Str) : List Str := xs.mergeSort fun p q => decide (p.cps.toList ≤ q.cps.toList)
def rSortS (K : PySem.W.Frag) : List V → Hp → VK → Prop := fun vs H Q => ∃ (a : Addr) (xs : List Str), vs = [.ref a] ∧ SqL K H a (xs.map V.str) ∧ ∀ l, H l = none → Q (.ref l) (upd H l (.lst ((srtS xs).map V.str)))
theorem each_strs : ∀ {its : List Value} {xs : List Str}, Vals (xs.map V.str) its → PySem.W.EachIs (fun v x => ∃ t, v = Value.str x t) its xs
 | _, [], h => by
  have h' : Vals [] _ := h
  cases h'
  exact .nil
 | _, x :: xs, h => by
  have h' : Vals (V.str x :: xs.map V.str) _ := h
  cases h' with
  | cons h1 h2 => exact .cons h1 (each_strs h2)
theorem strs_each : ∀ {its : List Value} {xs : List Str}, PySem.W.EachIs (fun v x => ∃ t, v = Value.str x t) its xs → Vals (xs.map V.str) its
 | _, _, .nil => .nil
 | _, _, .cons h t => .cons h (strs_each t)
theorem cr_sortedSA {X : Cx} (hu : X.A.units + 65 < cLine) : CallR X (.builtin "sorted") (rSortS X.K) := by
 intro pins s σ H vs us Q I r h
 obtain ⟨a, xs, rfl, hs, q⟩ := h
 obtain ⟨its, rv, hl, hz⟩ := I.list hs
 obtain rfl := Vals.ref1 r
 have hxl : xs.length ≤ sizeLine := by rw [List.length_map] at hz; exact hz
 have e := each_strs rv
 refine PySem.W.sorted_data (enc := PyData.str) hl.isList e (e.mono fun v x ⟨t, ht⟩ => ⟨[], by subst ht; exact .str _ _⟩) (PySem.W.AllAlike.of fun _ _ => by simp [PySem.W.alike]) (PySem.W.Sortable.others fun _ => ⟨(fun z => nomatch z), (fun _ z => nomatch z)⟩) hxl (fun b _ => by simp only [PyData.depth]; omega) fun out ho hO => ?_
 have hd := PySem.W.dataLe_str (fun b : Str => b)
 rw [hd] at hO
 obtain ⟨c, hc⟩ := PyProof.Rows.sortedAll_at s.heap its (List.toArray out)
 exact ⟨.ref _, upd H (s.heap.objs.size + 1) (.lst ((srtS xs).map V.str)), I.laid (t' := s.toks) (fun b o e => PyProof.Rows.sortedAll_old e) (Nat.le_succ _) ⟨by rw [List.length_map]; unfold srtS; rw [List.length_mergeSort]; exact hxl, _, c, strs_each hO, hc⟩, rfl, q _ (I.hok.fresh (Nat.le_succ _))⟩
def oSortS : D → Option Rz
 | .list ds => match strsD ds with
  | some xs => some (.ow false (.list ((srtS xs).map PyData.str)))
  | none => none
 | _ => none
theorem op1_sortS {K : PySem.W.Frag} : Op1 K (fun x H Q => rSortS K [x] H Q) oSortS := fun x d H M Q z sm h q k => by
 cases d with
 | list ds =>
  unfold oSortS at q
  dsimp only at q
  split at q
  ·rename_i xs hx
   cases q
   cases h with
   | lst t1 t2 =>
    have := strsD_ok t2 hx
    subst this
    exact ⟨_, xs, rfl, .inl (.inl t1), fun l hl => k l _ hl (Rps.strs _)⟩
  ·exact nomatch q
 | _ => exact nomatch q
def kDGet2 (i : Nat) (ρ1 : Env) : List Tp → Out Tp
 | [tk, .fz dz] => match rdT ρ1 tk, ρ1[i]? with
  | some kd, some (some (.o false _, .dict kds)) => match key1 kd with
   | some kk => match lookD kds (.inl kk) with
    | some d => .ok ρ1 (.fz d)
    | none => .ok ρ1 (.fz dz)
   | none => .stk
  | _, _ => .stk
 | _ => .stk
def rDGet2 (i : Nat) (k z : RE) : RE := fun ρ => match ρ[i]? with
 | some (some (.o false _, .dict _)) => (rCons k (rCons z rNil) ρ).bind fun ρ1 tps => kDGet2 i ρ1 tps
 | _ => .stk
section
variable {K : PySem.W.Frag} {B : Bx} {w : WX} {ty tx : TE} {ry rx : RE}
theorem se_dget2 {i : Nat} (hk : SE K B w ty ry) (hz : SE K B w tx rx) : SE K B w (tDGet2 (tVar i) ty tx) (rDGet2 i ry rx) := fun σ H M W ρ Q s k => by
 unfold rDGet2 at k
 split at k
 ·rename_i p0 kds0 hr
  obtain ⟨a, o, q1, q2, q3, q4⟩ := s.cell hr
  cases o <;> first | exact False.elim q3 | skip
  rename_i kvs0
  refine ⟨.ref a, q1, a, rfl, .inl ⟨kvs0, .inl q2⟩, ?_⟩
  have := sa_cons hk (sa_cons hz sa_nil) σ H M W ρ (fun vs H3 => ∃ o, DGet H3 a (vs.headD .non) o ∧ Q (o.getD (vs.getD 1 .non)) H3) s (KG.bind k fun ρ1 tps vs M1 W1 H1 _ g1 s1 h1 k1 => ?_)
  ·exact this
  ·unfold kDGet2 at k1
   split at k1
   ·rename_i tk dz
    cases vs with
    | nil => exact False.elim h1
    | cons y vs => cases vs with
     | nil => exact False.elim h1.2.1
     | cons z vs => cases vs with
      | cons _ _ => exact False.elim h1.2.1.2.1
      | nil =>
       obtain ⟨t1, ⟨t2, _, _⟩, _⟩ := h1
       show ∃ o, DGet H1 a y o ∧ Q (o.getD z) H1
       split at k1
       ·rename_i kd p kds hn hr2
        obtain ⟨a', o', t1', t2', t3', t4'⟩ := s1.cell hr2
        rw [q1] at t1'; cases t1'
        have rk := TpOkL.r1 s1 t1 hn
        cases o' <;> first | exact False.elim t3' | skip
        rename_i kvs
        have pr : Prs K M1 kD kvs kds := prs_of t3'.1 t3'.2
        cases ek : key1 kd with
        | none => rw [ek] at k1; exact False.elim k1
        | some kx =>
         rw [ek] at k1
         dsimp only at k1
         have := key1_of ek
         subst this
         have hy : y = kV kx := by cases kx <;> (cases rk; rfl)
         subst hy
         have look := prs_look (kd := kD) (fun k' => sameK_l kx k') pr
         cases el : lookD kds (.inl kx) with
         | none =>
          rw [el] at k1
          have l0 := look.2 el
          exact ⟨none, .inl ⟨kvs, kx, .inl t2', rfl, l0.symm⟩, k1 z M1 W1 _ (Gr.refl _ _) s1 t2⟩
         | some d =>
          rw [el] at k1
          obtain ⟨x, x1, x2⟩ := look.1 d el
          exact ⟨some x, .inl ⟨kvs, kx, .inl t2', rfl, x1.symm⟩, k1 x M1 W1 _ (Gr.refl _ _) s1 x2⟩
       ·exact False.elim k1
   ·exact False.elim k1
 ·exact False.elim k
end
end Vm
namespace Vm
open PySem PySem.Spec PyProof.Rows L2 Fz
def insD (c : Str) (kds : List (D × D)) : D := .dict ((.none, .str c) :: (.none, .none) :: kds)
def lookF : List (D × D) → Str → Option D
 | [], _ => none
 | (.str g, d) :: r, f => if g = f then some d else lookF r f
 | _ :: r, f => lookF r f
def putFD (f : Str) (d : D) : List (D × D) → List (D × D)
 | [] => [(.str f, d)]
 | (.str g, x) :: r => if g = f then (.str g, d) :: r else (.str g, x) :: putFD f d r
 | y :: r => y :: putFD f d r
def flatL (ds : List D) : Bool := ds.all fun d => !isMk d
section
variable {K : PySem.W.Frag} {M H : Hp}
theorem TrCs.append : ∀ {vs ws : List V} {ds es : List D} {F G : List Addr}, TrCs K M H vs ds F → TrCs K M H ws es G → TrCs K M H (vs ++ ws) (ds ++ es) (F ++ G)
 | _, _, _, _, _, _, .nil, h => h
 | _, _, _, _, _, G, .cons (F := F1) (G := F2) h t, k => by
  show TrCs K M H (_ :: _) (_ :: _) _
  rw [List.append_assoc]
  exact .cons h (t.append k)
theorem TrCs.flat : ∀ {vs : List V} {ds : List D} {F : List Addr}, TrCs K M H vs ds F → flatL ds = true → Rps K M vs ds ∧ F = []
 | _, _, _, .nil, _ => ⟨.nil, rfl⟩
 | _, _, _, .cons h t, e => by
  unfold flatL at e
  rw [List.all_cons, Bool.and_eq_true] at e
  obtain ⟨r, rfl⟩ := t.flat e.2
  cases h with
  | fz h _ => exact ⟨.cons h r, rfl⟩
  | ow h => exact absurd e.1 (by simp [isMk, mkC])
theorem TrCs.ofFlat : ∀ {vs : List V} {ds : List D}, Rps K M vs ds → flatL ds = true → TrCs K M H vs ds []
 | _, _, .nil, _ => .nil
 | _, _, .cons h t, e => by
  unfold flatL at e
  rw [List.all_cons, Bool.and_eq_true] at e
  exact .cons (F := []) (G := []) (.fz h (by simpa using e.1)) (TrCs.ofFlat t e.2)
theorem TrCs.split : ∀ {fs : List (Str × V)} {kds : List (D × D)} {F : List Addr} {f : Str} {d : D}, fs.map (fun p => PyData.str p.1) = kds.map (·.1) → TrCs K M H (fs.map (·.2)) (kds.map (·.2)) F → lookF kds f = some d →
  ∃ (fs1 fs2 : List (Str × V)) (k1 k2 : List (D × D)) (v : V) (F1 G F2 : List Addr), F = F1 ++ (G ++ F2) ∧ TrCs K M H (fs1.map (·.2)) (k1.map (·.2)) F1 ∧ TrC K M H v d G ∧ TrCs K M H (fs2.map (·.2)) (k2.map (·.2)) F2 ∧ fs.lookup f = some v ∧
   (∀ v', putF f v' fs = fs1 ++ (f, v') :: fs2) ∧ (∀ d', putFD f d' kds = k1 ++ (.str f, d') :: k2) ∧ (∀ v' d', (fs1 ++ (f, v') :: fs2).map (fun p => PyData.str p.1) = (k1 ++ (.str f, d') :: k2).map (·.1))
 | [], [], _, f, d, _, _, e => nomatch e
 | [], _ :: _, _, f, d, h, _, _ => nomatch h
 | _ :: _, [], _, f, d, h, _, _ => nomatch h
 | (g, v) :: fs, (kk, dd) :: kds, F, f, d, h, t, e => by
  obtain ⟨h1, h2⟩ := List.cons.inj h
  have h1 : PyData.str g = kk := h1
  subst h1
  cases t with
  | cons tv tr =>
   rename_i F1 F2
   unfold lookF at e
   by_cases hg : g = f
   ·subst hg
    rw [if_pos rfl] at e; cases e
    refine ⟨[], fs, [], kds, v, [], F1, F2, rfl, .nil, tv, tr, ?_, fun v' => ?_, fun d' => ?_, fun v' d' => ?_⟩
    ·show List.lookup g ((g, v) :: fs) = some v
     simp [List.lookup]
    ·exact if_pos rfl
    ·exact if_pos rfl
    ·exact congrArg _ h2
   ·rw [if_neg hg] at e
    obtain ⟨a1, a2, k1, k2, v0, G1, G, G2, e1, e2, e3, e4, e5, e6, e7, e8⟩ := TrCs.split h2 tr e
    subst e1
    refine ⟨(g, v) :: a1, a2, (.str g, dd) :: k1, k2, v0, F1 ++ G1, G, G2, by rw [List.append_assoc], .cons tv e2, e3, e4, ?_, fun v' => ?_, fun d' => ?_, fun v' d' => ?_⟩
    ·have hb : (f == g) = false := beq_eq_false_iff_ne.mpr (Ne.symm hg)
     simp only [List.lookup, hb]; exact e5
    ·show (if g = f then _ else (g, v) :: putF f v' fs) = _
     rw [if_neg hg, e6]; rfl
    ·show (if g = f then _ else (PyData.str g, dd) :: putFD f d' kds) = _
     rw [if_neg hg, e7]; rfl
    ·exact congrArg _ (e8 v' d')
theorem TrO.insInv {a : Addr} {c : Str} {kds : List (D × D)} {F : List Addr} (h : TrO K M H a (insD c kds) F) : ∃ (C dx : Addr) (fs : List (Str × V)) (F0 : List Addr), F = a :: dx :: F0 ∧ H a = some (.ins C dx fs) ∧ H dx = some (.own a) ∧ clsOf K c = .ref C ∧ fs.map (fun p => PyData.str p.1) = kds.map (·.1) ∧ TrCs K M H (fs.map (·.2)) (kds.map (·.2)) F0 := by
 generalize e : insD c kds = x at h
 cases h with
 | lst _ _ => exact nomatch e
 | tup _ _ => exact nomatch e
 | dic h1 h2 h3 =>
  rename_i kvs k2 F0
  exfalso
  have : k2 = (.none, .str c) :: (.none, .none) :: kds := by
   have e : PyData.dict ((.none, .str c) :: (.none, .none) :: kds) = .dict k2 := e
   injection e with e; exact e.symm
  subst this
  cases kvs with
  | nil => exact nomatch h2
  | cons p r => exact absurd (List.cons.inj h2).1 kD_no
 | ins h1 h2 h3 h4 h5 =>
  have e : PyData.dict ((.none, .str c) :: (.none, .none) :: kds) = _ := e
  injection e with e
  injection e with e1 e2
  injection e2 with _ e3
  injection e1 with _ e1
  injection e1 with e1
  subst e1; subst e3
  exact ⟨_, _, _, _, rfl, h1, h2, h3, h4, h5⟩
theorem TrC.mkInv {v : V} {d : D} {G : List Addr} (h : TrC K M H v (mkC d) G) : ∃ a, v = .ref a ∧ TrO K M H a d G := by
 generalize e : mkC d = x at h
 cases h with
 | fz _ q => subst e; exact nomatch q
 | ow h =>
  rename_i a d'
  unfold mkC at e
  injection e with e
  injection e with e _
  injection e with _ e
  subst e
  exact ⟨_, rfl, h⟩
end
section
variable {K : PySem.W.Frag} {B : Bx} {M W H : Hp} {ρ : Env} {σ : L2.St} {a y : Addr} {o o' : HO} {i : Nat} {p : Bool} {d d' : D} {F F' : List Addr}
theorem TbOk.turnK {T : List (Addr × Str)} (h : TbOk T W H) (ha : H a = some o) (hm : TrK o) : TbOk T W (upd H a o') := ⟨h.1, fun p hp => by
 obtain ⟨ps, h2, h3, h4⟩ := h.2 p hp
 have hn : p.1 ≠ a := fun e => by rw [e, ha] at h2; cases h2; exact hm
 refine ⟨ps, by rw [upd_ne hn]; exact h2, h3, fun pos cv hc => ?_⟩
 obtain ⟨c, e1, e2⟩ := h4 pos cv hc
 refine ⟨c, e1, ?_⟩
 have : c ≠ a := fun e => by rw [e, ha] at e2; cases e2; exact hm
 rw [upd_ne this]; exact e2⟩
theorem St.turnT (s : St K B M W H ρ σ) (h : H a = some o) (hm : TrK o) (hW : W a = none) (ap : Apart K M H ρ σ a) : St K B M W (upd H a o') ρ σ := by
 refine ⟨s.bw, s.mw, fun b u e => ?_, s.ln, fun i g d e => ?_, s.spUp (.of (Same.refl _)) (fun i g d b F e hσ f y hy o' ho => by rw [upd_ne (fun z : y = a => ap i g d b F e hσ f (by rw [← z]; exact hy))]; exact ho), s.tb.turnK h hm⟩
 ·rw [upd_ne (ne_of_none e hW)]; exact s.wh _ _ e
 ·obtain ⟨v, h1, h2⟩ := s.sl i g d e
  refine ⟨v, h1, ?_⟩
  cases g with
  | f => exact h2
  | b => exact h2
  | s => exact h2
  | e => exact h2
  | l => exact h2
  | o u p =>
   obtain ⟨a', o', rfl, q1, q2, q3, q4⟩ := h2
   have : a' ≠ a := fun z => ap.ow i _ _ rfl e (by rw [← z]; exact h1)
   exact ⟨a', o', rfl, by rw [upd_ne this]; exact q1, q2, q3, q4⟩
  | q p =>
   obtain ⟨a', F, rfl, q1, q2, q3, q4⟩ := h2
   exact ⟨a', F, rfl, q1.lq (.of (Same.refl _)) fun x hx o' e' => by rw [upd_ne (fun z : x = a => ap i _ _ a' F e h1 q1 (by rw [← z]; exact hx))]; exact e', q2, q3, q4⟩
theorem St.tree (s : St K B M W H ρ σ) (hr : ρ[i]? = some (some (.q p, d))) : ∃ a F, σ[i]? = some (some (.ref a)) ∧ TrO K M H a d F ∧ F.Nodup ∧ (∀ x ∈ F, W x = none) ∧ (p = true → B.p i = some a) ∧ ∀ x ∈ F, Apart K M H (ρ.set i none) σ x := by
 obtain ⟨v, q1, a, F, rfl, h1, h2, h3, h4⟩ := s.sl i _ _ hr
 exact ⟨a, F, q1, h1, h2, h3, h4, apart_forgetG s (g := .q p) hr q1 h1⟩
theorem St.turnQ (s : St K B M W H ρ σ) (hr : ρ[i]? = some (some (.q p, d))) (hσ : σ[i]? = some (some (.ref a))) (hF : TrO K M H a d F) (hy : y ∈ F) (ho : TrO K M (upd H y o') a d' F') (nd : F'.Nodup) (sub : ∀ x ∈ F', x ∈ F ∨ (W x = none ∧ Apart K M H (ρ.set i none) σ x)) : St K B M W (upd H y o') (ρ.set i (some (.q p, d'))) σ := by
 obtain ⟨a', G, q1, h1, h2, h3, h4, h5⟩ := s.tree hr
 rw [hσ] at q1; cases q1
 have := h1.uniq (.of (Same.refl _)) hF
 subst this
 obtain ⟨oy, e1, e2⟩ := h1.cell y hy
 have s1 := (s.forget i).turnT (o' := o') e1 e2 (h3 y hy) (h5 y hy)
 have up : ∀ {x : Addr}, Apart K M H (ρ.set i none) σ x → Apart K M (upd H y o') (ρ.set i none) σ x := fun {x} ap => ap.up (s.forget i) (.of (Same.refl _)) fun j g dd b F1 e hs f z hz o2 e3 => by
  rw [upd_ne (fun q : z = y => h5 y hy j g dd b F1 e hs f (by rw [← q]; exact hz))]; exact e3
 refine s1.putG hσ (g := .q p) ⟨a, F', rfl, ho, nd, fun x hx => (sub x hx).elim (h3 x) (·.1), h4⟩ fun b F1 e f x hx => ?_
 cases e
 have := ho.uniq (.of (Same.refl _)) f
 subst this
 exact up ((sub x hx).elim (h5 x) (·.2))
end
end Vm
namespace Vm
open PySem PySem.Spec PyProof.Rows L2 Fz
end Vm
namespace Vm
open PySem PySem.Spec PyProof.Rows L2 Fz
section
variable {K : PySem.W.Frag} {B : Bx} {w : WX} {M W H : Hp} {ρ ρ' : Env} {σ : L2.St} {i : Nat} {c f mn : Str} {C : Addr} {t : TE} {r : RE} {tA : TA} {rA : RA} {tp : Tp} {v : V} {d : D}
theorem putF_same : ∀ {fs : List (Str × V)} {f : Str} {v : V}, fs.lookup f = some v → putF f v fs = fs
 | [], _, _, h => nomatch h
 | (g, x) :: r, f, v, h => by
  show (if g = f then _ else (g, x) :: putF f v r) = _
  by_cases hg : g = f
  ·subst hg
   simp [List.lookup] at h
   rw [if_pos rfl, h]
  ·have hb : (f == g) = false := beq_eq_false_iff_ne.mpr (Ne.symm hg)
   simp only [List.lookup, hb] at h
   rw [if_neg hg, putF_same h]
end
end Vm
namespace Vm
open PySem PySem.Spec PyProof.Rows L2 Fz
end Vm
namespace Vm
open PySem PySem.Spec PyProof.Rows L2 Fz
end Vm
namespace Vm
open PySem PySem.Spec PyProof.Rows L2 Fz
inductive Stp where
 | fld (c f : Str)
 | ix (n : Nat)
def child : D → Stp → Option D
 | .dict ((.none, .str c') :: (.none, .none) :: kds), .fld c f => if c' = c then lookF kds f else none
 | .list ds, .ix n => ds[n]?
 | .tuple ds, .ix n => ds[n]?
 | _, _ => none
def setCh : D → Stp → D → D
 | .dict ((.none, .str c') :: (.none, .none) :: kds), .fld _ f, x => .dict ((.none, .str c') :: (.none, .none) :: putFD f x kds)
 | .list ds, .ix n, x => .list (ds.set n x)
 | .tuple ds, .ix n, x => .tuple (ds.set n x)
 | d, _, _ => d
def unMk : D → Option D
 | .dict [(.none, e)] => some e
 | _ => none
def nodeAt : D → List Stp → Option D
 | d, [] => some d
 | d, s :: π => match child d s with
  | some x => match unMk x with
   | some e => nodeAt e π
   | none => none
  | none => none
def putAt : D → List Stp → D → D
 | _, [], e => e
 | d, s :: π, e => match child d s with
  | some x => match unMk x with
   | some y => setCh d s (mkC (putAt y π e))
   | none => d
  | none => d
theorem unMk_some {x e : D} (h : unMk x = some e) : x = mkC e := by
 unfold unMk at h
 split at h
 ·cases h; rfl
 ·exact nomatch h
def Edge (K : PySem.W.Frag) (M H : Hp) (a : Addr) (v : V) : Stp → Prop
 | .fld c f => ∃ C dx fs, H a = some (.ins C dx fs) ∧ clsOf K c = .ref C ∧ fs.lookup f = some v
 | .ix n => ∃ xs, (H a = some (.lst xs) ∨ M a = some (.tup xs)) ∧ xs[n]? = some v
inductive Way (K : PySem.W.Frag) (M H : Hp) : Addr → List Stp → Addr → Prop
 | nil {a : Addr} : Way K M H a [] a
 | cons {a b c : Addr} {s : Stp} {π : List Stp} : Edge K M H a (.ref b) s → Way K M H b π c → Way K M H a (s :: π) c
section
variable {K : PySem.W.Frag} {M M2 H H2 : Hp} {a b : Addr} {d x e : D} {F : List Addr} {s : Stp}
theorem TrCs.splitAt : ∀ {vs : List V} {ds : List D} {F : List Addr} {n : Nat} {x : D}, TrCs K M H vs ds F → ds[n]? = some x →
  ∃ (v : V) (F1 G F2 : List Addr), F = F1 ++ (G ++ F2) ∧ vs[n]? = some v ∧ TrC K M H v x G ∧ ∀ (H' : Hp) (x' : D) (G' : List Addr), (∀ y ∈ F1 ++ F2, ∀ o, H y = some o → H' y = some o) → TrC K M H' v x' G' → TrCs K M H' vs (ds.set n x') (F1 ++ (G' ++ F2))
 | _, _, _, n, x, .nil, h => by simp at h
 | _, _, _, 0, x, .cons (v := v) (F := G) (G := F2) hv t, h => by
  cases h
  refine ⟨v, [], G, F2, rfl, rfl, hv, fun H' x' G' k hx => ?_⟩
  show TrCs K M H' (v :: _) (x' :: _) (G' ++ F2)
  exact .cons hx (t.lq (.of (Same.refl _)) k)
 | _, _, _, n + 1, x, .cons (v := v0) (F := G0) hv t, h => by
  obtain ⟨v, F1, G, F2, e1, e2, e3, e4⟩ := t.splitAt (n := n) (by simpa using h)
  subst e1
  refine ⟨v, G0 ++ F1, G, F2, by rw [List.append_assoc], by simpa using e2, e3, fun H' x' G' k hx => ?_⟩
  rw [List.append_assoc]
  exact .cons (hv.lq (.of (Same.refl _)) fun y hy => k y (by simp [hy])) (e4 H' x' G' (fun y hy => k y (by simp only [List.mem_append] at hy ⊢; rcases hy with hy | hy <;> simp [hy])) hx)
theorem TrO.child (h : TrO K M H a d F) (hc : child d s = some x) : ∃ (v : V) (F1 G F2 : List Addr), F = F1 ++ (G ++ F2) ∧ TrC K M H v x G ∧ Edge K M H a v s ∧ ∀ (H' : Hp) (x' : D) (G' : List Addr), (∀ y ∈ F1 ++ F2, ∀ o, H y = some o → H' y = some o) → TrC K M H' v x' G' → TrO K M H' a (setCh d s x') (F1 ++ (G' ++ F2)) := by
 cases s with
 | ix n =>
  cases h with
  | lst h t =>
   have hc : (_ : List D)[n]? = some x := hc
   obtain ⟨v, F1, G, F2, e1, e2, e3, e4⟩ := t.splitAt hc
   subst e1
   exact ⟨v, a :: F1, G, F2, rfl, e3, ⟨_, .inl h, e2⟩, fun H' x' G' k hx => .lst (k a (by simp) _ h) (e4 H' x' G' (fun y hy => k y (by simp only [List.mem_append, List.cons_append, List.mem_cons] at hy ⊢; exact .inr hy)) hx)⟩
  | tup h t =>
   have hc : (_ : List D)[n]? = some x := hc
   obtain ⟨v, F1, G, F2, e1, e2, e3, e4⟩ := t.splitAt hc
   exact ⟨v, F1, G, F2, e1, e3, ⟨_, .inr h, e2⟩, fun H' x' G' k hx => .tup h (e4 H' x' G' k hx)⟩
  | dic h e t => simp [Vm.child] at hc
  | ins h h2 h3 e t => simp [Vm.child] at hc
 | fld c f =>
  unfold Vm.child at hc
  split at hc
  ·rename_i c' kds c0 f0 hs
   cases hs
   split at hc
   ·rename_i hcc
    subst hcc
    obtain ⟨C, dx, fs, F0, rfl, e1, e2, e3, e4, e5⟩ := TrO.insInv h
    obtain ⟨fs1, fs2, k1, k2, v, F1, G, F2, p1, p2, p3, p4, p5, p6, p7, p8⟩ := e5.split e4 hc
    subst p1
    have efs : fs = fs1 ++ (f, v) :: fs2 := by rw [← p6 v]; exact (putF_same p5).symm
    refine ⟨v, a :: dx :: F1, G, F2, rfl, p3, ⟨C, dx, fs, e1, e3, p5⟩, fun H' x' G' k hx => ?_⟩
    show TrO K M H' a (.dict ((.none, .str c') :: (.none, .none) :: putFD f x' kds)) _
    rw [p7]
    refine .ins (fs := fs) (k a (by simp) _ e1) (k dx (by simp) _ e2) e3 ?_ ?_
    ·rw [efs]; exact p8 _ _
    ·rw [efs, List.map_append, List.map_append]
     exact (p2.lq (.of (Same.refl _)) fun y hy => k y (by simp [hy])).append (.cons hx (p4.lq (.of (Same.refl _)) fun y hy => k y (by simp [hy])))
   ·exact nomatch hc
  ·rename_i hs; exact nomatch hs
  ·rename_i hs; exact nomatch hs
  ·exact nomatch hc
theorem TrO.path : ∀ {π : List Stp} {a : Addr} {d e : D} {F : List Addr}, TrO K M H a d F → nodeAt d π = some e →
  ∃ (b : Addr) (F1 G F2 : List Addr), F = F1 ++ (G ++ F2) ∧ TrO K M H b e G ∧ Way K M H a π b ∧ ∀ (H' : Hp) (e' : D) (G' : List Addr), (∀ y ∈ F1 ++ F2, ∀ o, H y = some o → H' y = some o) → TrO K M H' b e' G' → TrO K M H' a (putAt d π e') (F1 ++ (G' ++ F2))
 | [], a, d, e, F, h, hn => by
  cases hn
  exact ⟨a, [], F, [], by simp, h, .nil, fun H' e' G' _ h' => by simpa [putAt] using h'⟩
 | s :: π, a, d, e, F, h, hn => by
  unfold nodeAt at hn
  cases hc : Vm.child d s with
  | none => rw [hc] at hn; exact nomatch hn
  | some x =>
   rw [hc] at hn
   dsimp only at hn
   cases hu : unMk x with
   | none => rw [hu] at hn; exact nomatch hn
   | some y =>
    rw [hu] at hn
    dsimp only at hn
    have ex := unMk_some hu
    subst ex
    obtain ⟨v, F1, G, F2, e1, e2, e3, e4⟩ := h.child hc
    obtain ⟨c, rfl, tc⟩ := e2.mkInv
    obtain ⟨b, G1, G2, G3, f1, f2, f3, f4⟩ := TrO.path tc hn
    subst f1; subst e1
    refine ⟨b, F1 ++ G1, G2, G3 ++ F2, by simp [List.append_assoc], f2, .cons e3 f3, fun H' e' G' k h' => ?_⟩
    have := e4 H' (mkC (putAt y π e')) (G1 ++ (G' ++ G3)) (fun z hz => k z (by simp only [List.mem_append] at hz ⊢; rcases hz with hz | hz <;> simp [hz])) (.ow (f4 H' e' G' (fun z hz => k z (by simp only [List.mem_append] at hz ⊢; rcases hz with hz | hz <;> simp [hz])) h'))
    unfold putAt
    rw [hc]
    dsimp only
    rw [hu]
    dsimp only
    simpa [List.append_assoc] using this
theorem Edge.det {v v2 : V} (sm : Same M H) (h : TrO K M H a d F) (hc : child d s = some x) (kp : ∀ y ∈ F, H2 y = H y) (m2 : Same M M2) (sm2 : Same M2 H2) (e1 : Edge K M H a v s) (e2 : Edge K M2 H2 a v2 s) : v = v2 := by
 cases s with
 | ix n =>
  obtain ⟨xs, p1, p2⟩ := e1
  obtain ⟨ys, q1, q2⟩ := e2
  have : xs = ys := by
   cases h with
   | lst h t =>
    have e := kp a List.mem_cons_self
    rcases p1 with p1 | p1
    ·rw [h] at p1; cases p1
     rcases q1 with q1 | q1
     ·rw [e, h] at q1; cases q1; rfl
     ·have q1 := sm2 _ _ q1
      rw [e, h] at q1; cases q1
    ·have p1 := sm _ _ p1
     rw [h] at p1; cases p1
   | tup h t =>
    have hh := sm _ _ h
    have hh2 := sm2 _ _ (m2 _ _ h)
    rcases p1 with p1 | p1
    ·rw [hh] at p1; cases p1
    ·rw [h] at p1; cases p1
     rcases q1 with q1 | q1
     ·rw [hh2] at q1; cases q1
     ·rw [m2 _ _ h] at q1; cases q1; rfl
   | dic h e t => simp [Vm.child] at hc
   | ins h h2 h3 e t => simp [Vm.child] at hc
  subst this
  rw [p2] at q2; cases q2; rfl
 | fld c f =>
  obtain ⟨C, dx, fs, p1, p2, p3⟩ := e1
  obtain ⟨C2, dx2, fs2, q1, q2, q3⟩ := e2
  cases h with
  | lst h t => rw [h] at p1; cases p1
  | tup h t => rw [sm _ _ h] at p1; cases p1
  | dic h e t => rw [h] at p1; cases p1
  | ins h h2' h3 e t =>
   rw [kp a List.mem_cons_self, h] at q1; cases q1
   rw [h] at p1; cases p1
   rw [p3] at q3; cases q3; rfl
theorem Way.det : ∀ {π : List Stp} {a b b2 : Addr} {d e : D} {F : List Addr}, Same M H → TrO K M H a d F → nodeAt d π = some e → (∀ y ∈ F, H2 y = H y) → Same M M2 → Same M2 H2 → Way K M H a π b → Way K M2 H2 a π b2 → b = b2
 | [], _, _, _, _, _, _, _, _, _, _, _, _, .nil, .nil => rfl
 | s :: π, a, b, b2, d, e, F, sm, h, hn, kp, m2, sm2, .cons e1 p1, .cons e2 p2 => by
  unfold nodeAt at hn
  cases hc : Vm.child d s with
  | none => rw [hc] at hn; exact nomatch hn
  | some x =>
   rw [hc] at hn
   dsimp only at hn
   cases hu : unMk x with
   | none => rw [hu] at hn; exact nomatch hn
   | some y =>
    rw [hu] at hn
    dsimp only at hn
    have ex := unMk_some hu
    subst ex
    have := Edge.det sm h hc kp m2 sm2 e1 e2
    cases this
    obtain ⟨v, F1, G, F2, g1, g2, g3, _⟩ := h.child hc
    have := Edge.det sm h hc (fun _ _ => rfl) (Same.refl _) sm e1 g3
    subst this
    obtain ⟨c, ec, tc⟩ := g2.mkInv
    cases ec
    subst g1
    exact Way.det sm tc hn (fun z hz => kp z (by simp [hz])) m2 sm2 p1 p2
end
end Vm
namespace Vm
open PySem PySem.Spec PyProof.Rows L2 Fz
abbrev Pl := Nat × List Stp
abbrev RPl := Env → Out Pl
def PlOk (K : PySem.W.Frag) (M H : Hp) (ρ : Env) (σ : L2.St) (x : Pl) (v : V) : Prop := ∃ p d a e b, ρ[x.1]? = some (some (.q p, d)) ∧ σ[x.1]? = some (some (.ref a)) ∧ nodeAt d x.2 = some e ∧ Way K M H a x.2 b ∧ v = .ref b
section
variable {K : PySem.W.Frag} {B : Bx} {w : WX} {M W H : Hp} {ρ ρ' : Env} {σ : L2.St} {i : Nat} {c f : Str} {C : Addr} {t tn : TE} {r : RPl} {rn : RE} {tA : TA} {rA : RA} {v : V} {x : Pl} {d e : D}
theorem PlOk.open (s : St K B M W H ρ σ) (h : PlOk K M H ρ σ x v) : ∃ p d a e b F1 G F2, ρ[x.1]? = some (some (.q p, d)) ∧ σ[x.1]? = some (some (.ref a)) ∧ nodeAt d x.2 = some e ∧ v = .ref b ∧ Way K M H a x.2 b ∧ TrO K M H a d (F1 ++ (G ++ F2)) ∧ (F1 ++ (G ++ F2)).Nodup ∧ TrO K M H b e G ∧ (∀ y ∈ F1 ++ (G ++ F2), W y = none ∧ Apart K M H (ρ.set x.1 none) σ y) ∧
  ∀ (H' : Hp) (e' : D) (G' : List Addr), (∀ y ∈ F1 ++ F2, ∀ o, H y = some o → H' y = some o) → TrO K M H' b e' G' → TrO K M H' a (putAt d x.2 e') (F1 ++ (G' ++ F2)) := by
 obtain ⟨p, d, a, e, b, h1, h2, h3, h4, rfl⟩ := h
 obtain ⟨a', F, q1, t1, t2, t3, _, t5⟩ := s.tree h1
 rw [h2] at q1; cases q1
 obtain ⟨b', F1, G, F2, rfl, g1, g2, g3⟩ := t1.path h3
 have := Way.det s.mh t1 h3 (fun _ _ => rfl) (Same.refl _) s.mh h4 g2
 subst this
 exact ⟨p, d, a, e, b, F1, G, F2, h1, h2, h3, rfl, h4, t1, t2, g1, fun y hy => ⟨t3 y hy, t5 y hy⟩, g3⟩
theorem TrCs.len : ∀ {vs : List V} {ds : List D} {F : List Addr}, TrCs K M H vs ds F → vs.length = ds.length
 | _, _, _, .nil => rfl
 | _, _, _, .cons _ t => by rw [List.length_cons, List.length_cons, t.len]
end
end Vm
namespace Vm
open PySem PySem.Spec PyProof.Rows L2 Fz
section
variable {K : PySem.W.Frag} {B : Bx} {w : WX} {M W H M2 W2 H2 : Hp} {ρ ρ2 : Env} {σ : L2.St} {i : Nat} {p : Bool} {t tn tv : TE} {r : RPl} {rn rv : RE} {tA : TA} {rA : RA} {v : V} {x : Pl} {d e : D} {ds : List D}
theorem PlOk.after (s1 : St K B M W H ρ σ) (h1 : PlOk K M H ρ σ x v) (hr : ρ[x.1]? = some (some (.q p, d))) (sm : Same M M2) (s2 : St K B M2 W2 H2 ρ2 σ) (hr2 : ρ2[x.1]? = some (some (.q p, d))) (kp : ∀ a F, σ[x.1]? = some (some (.ref a)) → TrO K M H a d F → ∀ y ∈ F, H2 y = H y) : PlOk K M2 H2 ρ2 σ x v := by
 obtain ⟨p', d', a, e', b, F1, G, F2, q1, q2, q3, rfl, q4, q5, q6, q7, q8, q9⟩ := h1.open s1
 rw [hr] at q1; cases q1
 obtain ⟨a3, F3, z1, z2, _⟩ := s2.tree hr2
 rw [q2] at z1; cases z1
 obtain ⟨b3, G1, G2, G3, _, _, z3, _⟩ := z2.path q3
 have := Way.det s1.mh q5 q3 (kp a _ q2 q5) sm s2.mh q4 z3
 subst this
 exact ⟨p, d, a, e', b, hr2, q2, q3, z3, rfl⟩
theorem PlOk.list (s : St K B M W H ρ σ) (h : PlOk K M H ρ σ x v) (hr : ρ[x.1]? = some (some (.q p, d))) (hn : nodeAt d x.2 = some (.list ds)) (hf : flatL ds = true) : ∃ b xs, v = .ref b ∧ H b = some (.lst xs) ∧ Rps K M xs ds ∧
  ∀ (xs' : List V) (ds' : List D), Rps K M xs' ds' → flatL ds' = true → St K B M W (upd H b (.lst xs')) (ρ.set x.1 (some (.q p, putAt d x.2 (.list ds')))) σ := by
 obtain ⟨p', d', a, e', b, F1, G, F2, q1, q2, q3, rfl, q4, q5, q6, q7, q8, q9⟩ := h.open s
 rw [hr] at q1; cases q1
 rw [hn] at q3; cases q3
 cases q7 with
 | lst h t =>
  obtain ⟨rp, rfl⟩ := t.flat hf
  refine ⟨b, _, rfl, h, rp, fun xs' ds' hx hf' => ?_⟩
  have hb : ∀ y ∈ F1 ++ F2, y ≠ b := fun y hy z => by
   subst z
   rw [List.nodup_append] at q6
   obtain ⟨n1, n2, n3⟩ := q6
   rcases List.mem_append.mp hy with hy | hy
   ·exact n3 y hy y (by simp) rfl
   ·have n2 : (y :: ([] ++ F2)).Nodup := n2
    rw [List.nodup_cons] at n2
    exact n2.1 hy
  have tr := q9 (upd H b (.lst xs')) (.list ds') [b] (fun y hy o e => by rw [upd_ne (hb y hy)]; exact e) (.lst upd_same (TrCs.ofFlat hx hf'))
  exact s.turnQ hr q2 q5 (by simp) tr q6 fun y hy => .inl hy
end
end Vm
namespace Vm
open PySem PySem.Spec PyProof.Rows L2 Fz
end Vm
namespace Vm
open PySem PySem.Spec PyProof.Rows L2 Fz
end Vm
namespace Vm
open PySem PySem.Spec PyProof.Rows L2 Fz
end Vm
namespace Vm
open PySem PySem.Spec PyProof.Rows L2 Fz
def isIns : List (D × D) → Bool
 | (.none, _) :: _ => true
 | _ => false
section
variable {K : PySem.W.Frag} {B : Bx} {w : WX} {M W H M2 W2 H2 : Hp} {ρ ρ2 : Env} {σ : L2.St} {i : Nat} {p : Bool} {t tn tv : TE} {r : RE} {rp : RPl} {rn rv : RE} {tA : TA} {rA : RA} {v : V} {x : Pl} {d e : D} {ds : List D} {kds : List (D × D)}
theorem PlOk.dict (s : St K B M W H ρ σ) (h : PlOk K M H ρ σ x v) (hr : ρ[x.1]? = some (some (.q p, d))) (hn : nodeAt d x.2 = some (.dict kds)) (hi : isIns kds = false) (hf : flatL (kds.map (·.2)) = true) : ∃ b kvs, v = .ref b ∧ H b = some (.dK kvs) ∧
  St K B M W (upd H b (.dK [])) (ρ.set x.1 (some (.q p, putAt d x.2 (.dict [])))) σ := by
 obtain ⟨p', d', a, e', b, F1, G, F2, q1, q2, q3, rfl, q4, q5, q6, q7, q8, q9⟩ := h.open s
 rw [hr] at q1; cases q1
 rw [hn] at q3; cases q3
 cases q7 with
 | dic h ek t =>
  obtain ⟨rp, rfl⟩ := t.flat hf
  refine ⟨b, _, rfl, h, ?_⟩
  have hb : ∀ y ∈ F1 ++ F2, y ≠ b := fun y hy z => by
   subst z
   rw [List.nodup_append] at q6
   obtain ⟨n1, n2, n3⟩ := q6
   rcases List.mem_append.mp hy with hy | hy
   ·exact n3 y hy y (by simp) rfl
   ·have n2 : (y :: ([] ++ F2)).Nodup := n2
    rw [List.nodup_cons] at n2
    exact n2.1 hy
  have tr := q9 (upd H b (.dK [])) (.dict []) [b] (fun y hy o e => by rw [upd_ne (hb y hy)]; exact e) (.dic upd_same rfl .nil)
  exact s.turnQ hr q2 q5 (by simp) tr q6 fun y hy => .inl hy
 | ins h h2 h3 e t => exact nomatch hi
end
end Vm
namespace Vm
open PySem PySem.Spec PyProof.Rows L2 Fz
inductive AlV (K : PySem.W.Frag) (H : Hp) : V → V → Prop
 | fl {u : V} : flatB u = true → AlV K H u u
 | dc {a b : Addr} {ks ls : List (Key × V)} : Rd H a (.dK ks) → Rd H b (.dK ls) → ks.length = ls.length → (∀ p ∈ ks, valV ls p.1 = some p.2 ∧ flatB p.2 = true) → AlV K H (.ref a) (.ref b)
 | ls {a b : Addr} {xs : List V} : SqL K H a xs → SqL K H b xs → (∀ x ∈ xs, flatB x = true) → AlV K H (.ref a) (.ref b)
theorem keq_in {κ : Type} [DecidableEq κ] {P : Program} {w : World} {A : Around} {s : Shared} {kb : List (κ × Value)} : ∀ {ka : List (κ × Value)} {b : Bool}, PySem.W.KeqHits A s kb ka b → PySem.W.KeqHitsIn P w A s kb ka b
 | _, _, .nil => .nil
 | _, _, .miss h => .miss h
 | _, _, .hit h e t => .hit h (e.inModel P w) (keq_in t)
theorem vals_zip {P : Value → Value → Prop} : ∀ {vs : List V} {xs ys : List Value}, Vals vs xs → Vals vs ys → (∀ v ∈ vs, ∀ x y, RelV v x → RelV v y → P x y) → ∀ z ∈ xs.zip ys, P z.1 z.2
 | _, _, _, .nil, .nil, _, z, hz => nomatch hz
 | _, _, _, .cons h t, .cons g u, k, z, hz => by
  rcases List.mem_cons.mp hz with rfl | hz
  ·exact k _ List.mem_cons_self _ _ h g
  ·exact vals_zip t u (fun v hv => k v (List.mem_cons_of_mem _ hv)) z hz
theorem AlV.eq {X : Cx} {pins : List (Addr × Obj)} {σ : L2.St} {H : Hp} {s : Shared} {u v : V} {y x : Value} {A : Around} (h : AlV X.K H u v) (I : Inv X pins σ H s) (hu : A.units + 1 < cLine) (ry : RelV u y) (rx : RelV v x) : SeqAt.EqIn X.prog X.w A s y x true := by
 cases h with
 | fl h => exact (eqAt_same ry rx h).inModel _ _
 | dc ea eb hl hp =>
  rename_i a b ks ls
  cases (show y = Value.ref a from ry)
  cases (show x = Value.ref b from rx)
  by_cases hab : a = b
  ·subst hab; exact (SeqAt.EqAt.same _).inModel _ _
  ·obtain ⟨_, y1, w1, r1, d1⟩ := (show ObjOk X.prog X.w H s.heap a (.dK ks) from ea.ok I.hok)
   obtain ⟨_, y2, w2, r2, d2⟩ := (show ObjOk X.prog X.w H s.heap b (.dK ls) from eb.ok I.hok)
   have hl : w1.length = w2.length := by rw [← r1.length, ← r2.length]; exact hl
   exact SeqAt.EqIn.of_refs hab fun E Q q => PySem.W.keq_eqIn (knd := mixKind X.prog X.w) (r := true) y1 y2 d1 d2 (by omega) (fun _ => keq_in (hits_all r2 r1 hp)) (by simpa [hl] using q)
 | ls ea eb hf =>
  rename_i a b xs
  cases (show y = Value.ref a from ry)
  cases (show x = Value.ref b from rx)
  by_cases hab : a = b
  ·subst hab; exact (SeqAt.EqAt.same _).inModel _ _
  ·obtain ⟨i1, r1, p1, _⟩ := I.list ea
   obtain ⟨i2, r2, p2, _⟩ := I.list eb
   have hl : i1.toArray.size = i2.toArray.size := by simp [← r1.length, ← r2.length]
   refine SeqAt.EqIn.of_refs hab fun E Q q => SeqAt.rcIn_lists (e := fun _ => true) p1.isList p2.isList hl (by omega) (fun j h1 h2 => ?_) (by rw [show (List.range i1.toArray.size).all (fun _ => true) = true from List.all_eq_true.mpr fun _ _ => rfl]; exact q)
   have z := vals_zip (P := fun x y => SeqAt.EqIn X.prog X.w A.in1 s x y true) r1 r2 (fun v hv x y a1 a2 => (eqAt_same a1 a2 (hf v hv)).inModel _ _) (i1.toArray[j], i2.toArray[j]) (by
    have g1 : j < i1.length := by simpa using h1
    have g2 : j < i2.length := by simpa using h2
    have : (i1.zip i2)[j]'(by simp; omega) = (i1.toArray[j], i2.toArray[j]) := by simp
    rw [← this]
    exact List.getElem_mem _)
   exact z
end Vm
namespace Vm
open PySem PySem.Spec PyProof.Rows L2 Fz
end Vm
namespace Vm
open PySem PySem.Spec PyProof.Rows L2 Fz
end Vm
namespace Vm
open PySem PySem.Spec PyProof.Rows L2 Fz
section
variable {K : PySem.W.Frag} {B : Bx} {w : WX} {ta : TE} {ra : RE}
theorem R1.lstR {H M : Hp} {x : V} {ds : List D} (h : R1 K H M x (.list ds)) : ∃ (c : Addr) (ys : List V), x = .ref c ∧ H c = some (.lst ys) ∧ Rps K M ys ds := by
 cases h with
 | lst h1 h2 => exact ⟨_, _, rfl, h1, h2⟩
end
def dkOf (ρ : Env) : Tp → Option (List (D × D))
 | .ow false (.dict kds) => some kds
 | .sl i => match ρ[i]? with
  | some (some (.o false _, .dict kds)) => some kds
  | _ => none
 | _ => none
def kDInO (neg : Bool) (ρ1 : Env) : List Tp → Out Tp
 | [tk, td] => match rdT ρ1 tk, dkOf ρ1 td with
  | some kd, some kds => match key1 kd with
   | some kk => .ok ρ1 (.fz (.bool (if neg then !(lookD kds (.inl kk)).isSome else (lookD kds (.inl kk)).isSome)))
   | none => .stk
  | _, _ => .stk
 | _ => .stk
def rDInO (neg : Bool) (ry rd : RE) : RE := fun ρ => (rCons ry (rCons rd rNil) ρ).bind fun ρ1 tps => kDInO neg ρ1 tps
section
variable {K : PySem.W.Frag} {B : Bx} {w : WX} {ty td : TE} {ry rd : RE}
theorem dkOf_ok {M W H : Hp} {ρ : Env} {σ : L2.St} {tp : Tp} {v : V} {kds : List (D × D)} (s : St K B M W H ρ σ) (h : TpOkL K B M W H ρ σ tp v) (e : dkOf ρ tp = some kds) : ∃ a kvs, v = .ref a ∧ H a = some (.dK kvs) ∧ Prs K M kD kvs kds := by
 unfold dkOf at e
 split at e
 ·cases e
  obtain ⟨a, o, rfl, q2, q3, _⟩ := h
  cases o <;> first | exact False.elim q3 | skip
  exact ⟨a, _, rfl, q2, prs_of q3.1 q3.2⟩
 ·rename_i i
  split at e
  ·rename_i p kds' hr
   cases e
   have h : σ[i]? = some (some v) := h
   obtain ⟨a, o, q1, q2, q3, q4⟩ := s.cell hr
   rw [h] at q1; cases q1
   cases o <;> first | exact False.elim q3 | skip
   exact ⟨a, _, rfl, q2, prs_of q3.1 q3.2⟩
  ·exact nomatch e
 ·exact nomatch e
theorem dinO_ok {neg : Bool} {M1 W1 H1 : Hp} {ρ1 : Env} {σ : L2.St} {tps : List Tp} {vs : List V} {Q : VK} (s1 : St K B M1 W1 H1 ρ1 σ) (h1 : TpsOk K B M1 W1 H1 ρ1 σ tps vs) (k1 : KG K B M1 W1 σ w (RelV1 K B σ) (kDInO neg ρ1 tps) Q) :
  ∃ y x, vs = [y, x] ∧ ∃ a o, x = .ref a ∧ DGet H1 a y o ∧ Q (.bl (if neg then !o.isSome else o.isSome)) H1 := by
 unfold kDInO at k1
 split at k1
 ·rename_i tk td
  match vs, h1 with
  | [y, x], ⟨t1, ⟨t2, _, _⟩, _⟩ =>
   refine ⟨y, x, rfl, ?_⟩
   split at k1
   ·rename_i kd kds hn hd
    obtain ⟨a, kvs, rfl, q2, pr⟩ := dkOf_ok s1 t2 hd
    have rk := TpOkL.r1 s1 t1 hn
    cases ek : key1 kd with
    | none => rw [ek] at k1; exact False.elim k1
    | some kx =>
     rw [ek] at k1
     dsimp only at k1
     have := key1_of ek
     subst this
     have hy : y = kV kx := by cases kx <;> (cases rk; rfl)
     subst hy
     have look := prs_look (kd := kD) (fun k' => sameK_l kx k') pr
     refine ⟨a, valV kvs kx, rfl, .inl ⟨kvs, kx, .inl q2, rfl, rfl⟩, ?_⟩
     have e : (valV kvs kx).isSome = (lookD kds (.inl kx)).isSome := by
      cases el : lookD kds (.inl kx) with
      | none => rw [look.2 el]; rfl
      | some d => obtain ⟨z, z1, _⟩ := look.1 d el; rw [z1]; rfl
     rw [e]
     exact k1 _ M1 W1 _ (Gr.refl _ _) s1 (.bl _)
   ·exact False.elim k1
 ·exact False.elim k1
theorem se_dnotinO (h2 : SE K B w ty ry) (h1 : SE K B w td rd) : SE K B w (tDNotIn ty td) (rDInO true ry rd) := fun σ H M W ρ Q s k => by
 have := sa_cons h2 (sa_cons h1 sa_nil) σ H M W ρ (fun vs H2 => ∃ y x, vs = [y, x] ∧ ∃ a o, x = .ref a ∧ DGet H2 a y o ∧ Q (.bl (!o.isSome)) H2) s (KG.bind k fun ρ1 tps vs M1 W1 H1 _ g1 s1 z1 k1 => dinO_ok s1 z1 k1)
 refine cast ?_ this
 unfold tDNotIn tCons tNil
 congr; funext y H1; congr; funext x H2
 exact propext ⟨fun ⟨_, _, e, r⟩ => by cases e; exact r, fun r => ⟨_, _, rfl, r⟩⟩
end
end Vm
namespace Vm
open PySem PySem.Spec PyProof.Rows L2 Fz
def inTk (ks : List Key) (i : Nat) : Key → Bool := fun j => (ks.take i).any fun k => decide (k = j)
theorem inTk_no {ks : List Key} {i : Nat} {k : Key} (nd : ks.Nodup) (e : ks[i]? = some k) : inTk ks i k = false := by
 unfold inTk
 rw [List.any_eq_false]
 intro j hj hd
 have hd := of_decide_eq_true hd
 subst hd
 obtain ⟨m, hm⟩ := List.mem_iff_getElem?.mp hj
 rw [List.getElem?_take] at hm
 split at hm
 ·rename_i hl
  obtain ⟨h1, e1⟩ := List.getElem?_eq_some_iff.mp hm
  obtain ⟨h2, e2⟩ := List.getElem?_eq_some_iff.mp e
  exact absurd (e1.trans e2.symm) (List.pairwise_iff_getElem.mp nd m i h1 h2 hl)
 ·cases hm
theorem inTk_next {ks : List Key} {i : Nat} {k : Key} (e : ks[i]? = some k) (j : Key) : (inTk ks i j || decide (j = k)) = inTk ks (i + 1) j := by
 unfold inTk
 rw [List.take_succ, e, List.any_append]
 congr 1
 show decide (j = k) = ([k].any fun z => decide (z = j))
 rw [List.any_cons, List.any_nil, Bool.or_false]
 exact decide_eq_decide.mpr ⟨Eq.symm, Eq.symm⟩
section
variable {prog : Program} {w : World} {A : Around} {R : Result → Shared → Prop} {it : Addr} {fp wr : List Addr} {G : Array GenState → Array GenState → Prop} {n : Nat} {P : Nat → Value → Prop} {Sx : Nat → Shared → Prop}
theorem setLoopK (W : WalksS prog w A.in1 it fp wr G n P Sx) (c : Addr) (off : c ∉ fp) {ks : List Key} (hv : ∀ i v, P i v → ∃ k, ks[i]? = some k ∧ RelV (kV k) v) (nd : ks.Nodup) (room : n + 1 < scanBound) : ∀ (m i : Nat) (s : Shared), n - i = m → i ≤ n → Sx i s → s.heap.SetOf (mixKind prog w) c (inTk ks i) i →
  (∀ s', Moved (c :: wr) G s s' → s'.heap.SetOf (mixKind prog w) c (inTk ks n) n → R (.ok (.ret .none)) s') → codeAny (model prog w) A (.builtin "set.update.loop" ⟨[.ref c, .ref it], []⟩) R s := by
 have nw : c ∉ wr := fun z => off (W.sub _ z)
 have up : ∀ b ∈ wr, b ∈ c :: wr := fun b z => List.mem_cons_of_mem _ z
 have stay : ∀ {s s' : Shared} {S : Key → Bool} {j : Nat}, Moved wr G s s' → s.heap.SetOf (mixKind prog w) c S j → s'.heap.SetOf (mixKind prog w) c S j := fun mv ⟨o, es, ep, t, z, r⟩ => ⟨o, es, ep, t, mv.heap c _ nw z, r⟩
 intro m
 induction m with
 | zero =>
  intro i s e1 e2 st hS fin
  obtain rfl : i = n := by omega
  refine codeAny_builtin PyProof.Rows.F.entry_set_update_loop ?_
  rw [Around.under_plainId PyProof.Rows.F.plain_set_update_loop _]
  show wpAny _ A.in1 (pyNext (.ref it) >>= _) _ _ s
  refine wpAny_bind (W.done s _ _ st fun s' mv => ?_)
  show wpAny _ A.in1 (ret Value.none) _ _ s'
  exact wpAny_pure (fin s' (mv.mono up) (stay mv hS))
 | succ m ih =>
  intro i s e1 e2 st hS fin
  have lt : i < n := by omega
  refine codeAny_builtin PyProof.Rows.F.entry_set_update_loop ?_
  rw [Around.under_plainId PyProof.Rows.F.plain_set_update_loop _]
  show wpAny _ A.in1 (pyNext (.ref it) >>= _) _ _ s
  refine wpAny_bind (W.item i s _ _ lt st fun v s' hP st' mv => ?_)
  obtain ⟨k, ek, rk⟩ := hv i v hP
  have hS1 := stay mv hS
  show wpAny _ A.in1 (holding [v] (setAdd c v) >>= _) _ _ s'
  refine wpAny_bind (wpAny_holding ?_)
  unfold setAdd
  refine wpAny_holding (wpAny_bind ((mixKind prog w).pyHash (k := k) (kV_is rk) ?_))
  refine wpAny_setAddHashed_of (knd := mixKind prog w) (s := { s' with toks := s'.toks + 1 }) (kV_is rk) (key_scan rk) hS1 (by omega) fun h1 sb new => ?_
  rw [inTk_no nd ek, if_neg Bool.false_ne_true, show (fun j => inTk ks i j || decide (j = k)) = inTk ks (i + 1) from funext (inTk_next ek)] at new
  refine wpAny_pure ⟨plainId_quiet PyProof.Rows.F.plain_set_update_loop _, ih (i + 1) _ (by omega) lt (W.frame _ s' _ _ st' (Nat.le_succ _) fun b hb o e => ?_) new fun s2 mv2 hS2 => ?_⟩
  ·exact (sb.2 b fun z => off (z ▸ hb)).trans e
  ·exact fin s2 (Moved.trans W.gtrans ((mv.mono up).then_heap (Nat.le_succ _) fun b o hb e => (sb.2 b fun z => hb (z ▸ List.mem_cons_self)).trans e) mv2) hS2
end
section
variable {prog : Program} {w : World} {A : Around} {E : Value → Shared → Prop} {s : Shared}
theorem vals_ix : ∀ {xs : List V} {us : List Value} {i : Nat} {u : Value}, Vals xs us → us[i]? = some u → ∃ x, xs[i]? = some x ∧ RelV x u
 | _, _, i, _, .nil, e => by simp at e
 | _, _, 0, _, .cons r _, e => by simp at e; subst e; exact ⟨_, rfl, r⟩
 | _, _, i + 1, _, .cons _ t, e => vals_ix (i := i) t (by simpa using e)
abbrev bareSet (led : Bool) : Obj := { cls := .type "set", dict := none, data := .set #[] 0 (.fresh 0 0 led) }
theorem call_setK {l : Addr} {its : List Value} {ks : List Key} {Q : Value → Shared → Prop} (hh : A.handled = none) (hl : s.heap.IsList l its.toArray) (rv : Vals (ks.map kV) its) (nd : ks.Nodup) (room : ks.length + 1 < scanBound)
  (fin : ∀ (h' : Heap) (tk : Nat), h'.SetOf (mixKind prog w) s.heap.objs.size (inTk ks ks.length) ks.length → (∀ b o, b < s.heap.objs.size → s.heap.get? b = some o → h'.get? b = some o) → Q (.ref s.heap.objs.size) { s with heap := h', toks := tk }) :
  wpAny (model prog w) A (call (.type "set") [.ref l]) Q E s := by
 have len : its.length = ks.length := by rw [← rv.length, List.length_map]
 obtain ⟨c0, t0, m0⟩ := PySem.F.called_set.mro
 have made0 := PySem.F.called_set.made
 have sub0 := PySem.F.called_set.sub
 have f1 := PySem.F.called_set.notType
 have f2 := PySem.F.called_set.canCreate
 have f3 := PySem.F.typeCall_set_1 (.ref l)
 refine wpAny_call (codeAny_of_tree (show wpAny _ _ (callAny (.type "set") _) _ _ _ from ?_))
 refine wpAny_pure ⟨Code.quiet_builtin _ (by decide +kernel), codeAny_builtin PySem.F.entry_type_call ?_⟩
 rw [Around.under_plain (weight_type_call_type "set" [.ref l] []) rfl]
 repeat any_goals first | assumption | wp_step
 refine codeAny_mono (code_set_new_1 (.ref l) (E := E) (Q₁ := fun ob s1 => ∃ led, ob = .ref s.heap.objs.size ∧ s1 = { s with heap := s.heap.push (bareSet led) }) fun led => ⟨led, rfl, rfl⟩) fun r s1 hr => ?_
 cases r with
 | error e => exact hr
 | ok fl =>
 cases fl with
 | ret ob =>
  obtain ⟨led, rfl, rfl⟩ := hr
  have g0 : (s.heap.push (bareSet led)).get? s.heap.objs.size = some (bareSet led) := Heap.get?_push_size _ rfl
  have ty : Shared.TypeIs { s with heap := s.heap.push (bareSet led) } (.ref s.heap.objs.size) "set" := ⟨_, g0, rfl⟩
  have i1 := PySem.F.called_set.init.lookup
  have i2 := PySem.F.called_set.init.bind (.ref s.heap.objs.size)
  repeat any_goals first | assumption | wp_step
  refine codeAny_mono (codeAny_call_builtin (R := wants (fun r s2 => r = .none ∧ ∃ h' tk, s2 = { s with heap := h', toks := tk } ∧ h'.SetOf (mixKind prog w) s.heap.objs.size (inTk ks ks.length) ks.length ∧
    (∀ b o, b < s.heap.objs.size → s.heap.get? b = some o → h'.get? b = some o)) E) PySem.F.called_set.init.plain PySem.F.entry_set_init (check_set_init_1 ty ?_)) fun r2 s2 hr2 => ?_
  ·have ll : (s.heap.push (bareSet led)).IsList l its.toArray := hl.push _
   obtain ⟨ol, gl, cl, nl, dl⟩ := hl
   obtain ⟨oc, od, oda, os⟩ := ol
   simp only at cl dl
   subst cl
   subst dl
   have gl2 : (s.heap.push (bareSet led)).get? l = some { cls := .type "list", dict := od, data := .seq its.toArray nl, slots := os } := Heap.get?_push_of_some _ gl
   have b1 := PySem.F.sub_list_set
   have b2 := PySem.F.sub_list_frozenset
   have b3 : (Value.type "list" == Value.type "dict") = false := by decide
   unfold Builtin.«set.__init__» noKeywords Builtin.Frozenset.updateFrom
   generalize hPI : pyIter = PI
   wp_walk
   subst hPI
   refine wpAny_pyIter_list ll (wpAny_bind (wpAny_runValue ?_))
   have lt : l < s.heap.objs.size := Heap.lt_size gl
   have ni : l ≠ (s.heap.push (bareSet led)).objs.size := by rw [Heap.size_push]; exact Nat.ne_of_lt (Nat.lt_succ_of_lt lt)
   have no : s.heap.objs.size ∉ [(s.heap.push (bareSet led)).objs.size, l] := fun z => by
    rw [Heap.size_push] at z
    rcases List.mem_cons.mp z with z | z
    ·exact Nat.ne_of_lt (Nat.lt_succ_self _) z
    ·exact Nat.ne_of_gt lt (List.mem_singleton.mp z)
   refine setLoopK ((Walks.list (by simp [hh]) _ l ni its.toArray).toS) s.heap.objs.size no (ks := ks) (fun i v hv => ?_) nd (by simpa [len] using room) (its.toArray.size - 0) 0 _ (by omega) (Nat.zero_le _) ⟨⟨_, Heap.get?_push_size _ rfl, rfl, rfl⟩, ll.push _⟩ ?_ ?_
   ·obtain ⟨x, e1, e2⟩ := vals_ix rv (by simpa using hv)
    rw [List.getElem?_map, Option.map_eq_some_iff] at e1
    obtain ⟨k, e1, rfl⟩ := e1
    exact ⟨k, e1, e2⟩
   ·have g1 : ((s.heap.push (bareSet led)).push { cls := .type "list_iterator", data := .fields #[.ref l, .int 0 0] }).get? s.heap.objs.size = some (bareSet led) := Heap.get?_push_of_some _ g0
    exact ⟨_, #[], 0, _, g1, ⟨rfl, rfl, rfl⟩, rfl, fun e he => absurd he (by simp), fun k => by simp [inTk], by decide, by rfl, rfl⟩
   ·intro s2 mv hS
    obtain ⟨h', ge, dr, tk, os2⟩ := s2
    have e1 : ge = s.gens := mv.gens
    have e2 : dr = s.drawn := mv.drawn
    have e3 : os2 = s.os := mv.os
    subst e1
    subst e2
    subst e3
    show wpAny _ _ _ _ _ _
    refine wpAny_pure ?_
    show wpAny _ _ (ret Value.none) _ _ _
    have es : its.toArray.size = ks.length := by simp [len]
    rw [es] at hS
    refine wpAny_pure ⟨rfl, h', tk, rfl, hS, fun b o hb eb => ?_⟩
    refine mv.heap b o (fun z => ?_) (Heap.get?_push_of_some _ (Heap.get?_push_of_some _ eb))
    rw [Heap.size_push] at z
    rcases List.mem_cons.mp z with z | z
    ·exact Nat.ne_of_lt hb z
    ·exact Nat.ne_of_lt (Nat.lt_succ_of_lt hb) (List.mem_singleton.mp z)
  ·cases r2 with
   | error e => exact hr2
   | ok fl2 =>
   cases fl2 with
   | ret r =>
    obtain ⟨rfl, h', tk, rfl, hS, kp⟩ := hr2
    repeat any_goals first | assumption | wp_step
    exact fin _ _ hS kp
   | _ => exact hr2.elim
 | _ => exact hr.elim
end
def tLenSetK (K : PySem.W.Frag) (ta : TE) : TE := fun σ H Q => ta σ H fun x H1 => ∃ (l : Addr) (ks : List Key), x = .ref l ∧ SqL K H1 l (ks.map kV) ∧ ks.Nodup ∧ ks.length ≤ 4000 ∧ Q (.int (ks.length : Nat)) H1
theorem pe_lenSetK {X : Cx} {a : Expr} {ta : TE} {p p2 q pos : Pos} (hg : Gl X "len") (hm : X.mg "len" = none) (hg2 : Gl X "set") (hm2 : X.mg "set" = none) (ha : PE X a ta) (hc : X.calm = true := by rfl)
  (na : starEach [a] X.env = (false, eval a X.env) :: starEach [] X.env := by rfl) : PE X (.Call (.Name "len" p) [.Call (.Name "set" p2) [a] [] q] [] pos) (tLenSetK X.K ta) := ⟨fun pins s σ H Q I h => by
 refine wpAny_Call_Name_kw (ld_blt I hg hm boot_len ?_)
 refine PyProof.Rows.callWith_builtin1 (PyProof.Rows.args_cons ?_ rfl) rfl rfl
 refine wpAny_Call_Name_kw (ld_blt I hg2 hm2 boot_set ?_)
 refine PyProof.Rows.callWith_type1 (PyProof.Rows.args_cons (thn (ha.run pins s σ H _ I h) fun v s1 ⟨x, H1, I1, r1, q1⟩ => PyProof.Rows.args_nil ?_) na) na rfl
 obtain ⟨l, ks, rfl, hq, nd, hl, q1⟩ := q1
 cases r1
 obtain ⟨its, rv, pl, hz⟩ := I1.list hq
 refine call_setK (I1.ok.hd hc) pl.isList rv nd (by unfold scanBound; omega) fun h' tk hS kp => PyProof.Rows.args_nil ?_
 obtain ⟨o, es, ep, t, go, ex, dt, _, _, _, lf, ln⟩ := hS
 have J : Inv X pins σ H1 { s1 with heap := h', toks := tk } := I1.kept fun b ob eb => kp b ob (Heap.lt_size eb) eb
 exact call_len_set go ex dt lf (by rw [ln]; omega) ⟨.int ks.length, H1, J.tok _, ⟨_, by rw [ln]⟩, q1⟩⟩
def keysD : List D → Option (List Key)
 | [] => some []
 | d :: r => match key1 d, keysD r with
  | some k, some l => some (k :: l)
  | _, _ => none
def oLenSetK : D → Option Rz
 | .list ds => match keysD ds with
  | some ks => if ks.length ≤ 4000 ∧ ks.Nodup then some (.fz (.int ks.length)) else none
  | none => none
 | _ => none
theorem keysD_ok {K : PySem.W.Frag} {M : Hp} : ∀ {xs : List V} {ds : List D} {ks : List Key}, Rps K M xs ds → keysD ds = some ks → xs = ks.map kV
 | _, _, ks, .nil, e => by cases e; rfl
 | _, _, ks, .cons h t, e => by
  unfold keysD at e
  split at e
  ·rename_i k l h1 h2
   cases e
   have := key1_of h1
   subst this
   rw [rp_key h, keysD_ok t h2]
   rfl
  ·exact nomatch e
theorem se_lenSetK {K : PySem.W.Frag} {B : Bx} {w : WX} {ta : TE} {ra : RE} (ha : SE K B w ta ra) : SE K B w (tLenSetK K ta) (rOp1 oLenSetK ra) :=
 se_cb1 (rr := fun xs H Q => ∃ (l : Addr) (ks : List Key), xs.headD .non = V.ref l ∧ SqL K H l (ks.map kV) ∧ ks.Nodup ∧ ks.length ≤ 4000 ∧ Q (.int (ks.length : Nat)) H) (fun x d H M Q z sm h q k => by
  cases d with
  | list ds =>
   unfold oLenSetK at q
   dsimp only at q
   split at q
   ·rename_i ks hn
    split at q
    ·rename_i hc
     cases q
     obtain ⟨c, ys, rfl, z1, z2⟩ := h.lstR
     have := keysD_ok z2 hn
     subst this
     exact ⟨_, ks, rfl, .inl (.inl z1), hc.2, hc.1, k.1 _ (.int _)⟩
    ·exact nomatch q
   ·exact nomatch q
  | _ => exact nomatch q) ha
end Vm
namespace Vm
open PySem PySem.Spec PyProof.Rows L2 Fz
abbrev XP := Env → Xn → Prop
@[irreducible] def Wx {α : Type} (o : Out α) (Q : Env → α → Prop) (E : XP) : Prop := match o with
 | .stk => False
 | .ok ρ a => Q ρ a
 | .er ρ x => E ρ x
def flP (N B C : Env → Prop) (R : Env → Tp → Prop) (ρ : Env) : Fl → Prop
 | .nx => N ρ
 | .bk => B ρ
 | .ct => C ρ
 | .rt t => R ρ t
def Ws (r : RS) (ρ : Env) (N B C : Env → Prop) (R : Env → Tp → Prop) (E : XP) : Prop := Wx (r ρ) (flP N B C R) E
def We (r : RE) (ρ : Env) (Q : Env → Tp → Prop) (E : XP) : Prop := Wx (r ρ) Q E
def Wt (r : RT) (ρ : Env) (Q : Env → Bool → Prop) (E : XP) : Prop := Wx (r ρ) Q E
def Wa (r : RA) (ρ : Env) (Q : Env → List Tp → Prop) (E : XP) : Prop := Wx (r ρ) Q E
def Wi (r : Env → Out (List D)) (ρ : Env) (Q : Env → List D → Prop) (E : XP) : Prop := Wx (r ρ) Q E
def Wp (r : Env → Out (Option Int)) (ρ : Env) (Q : Env → Option Int → Prop) (E : XP) : Prop := Wx (r ρ) Q E
@[irreducible] def Wf (o : FOut) (Q : Rz → Env → Prop) (E : Xn → Env → Prop) : Prop := match o with
 | .stk => False
 | .ok z io => Q z io
 | .er x io => E x io
section
variable {α β : Type} {Q : Env → α → Prop} {E E' : XP} {ρ : Env}
theorem wxo {a : α} (h : Q ρ a) : Wx (.ok ρ a) Q E := by unfold Wx; exact h
theorem wxe {x : Xn} (h : E ρ x) : Wx (.er ρ x : Out α) Q E := by unfold Wx; exact h
theorem wxo' {a : α} (h : Wx (.ok ρ a) Q E) : Q ρ a := by unfold Wx at h; exact h
theorem wxe' {x : Xn} (h : Wx (.er ρ x : Out α) Q E) : E ρ x := by unfold Wx at h; exact h
theorem wxs {P : Prop} (h : Wx (.stk : Out α) Q E) : P := by unfold Wx at h; exact False.elim h
theorem wx_bind {o : Out β} {k : Env → β → Out α} (h : Wx o (fun ρ a => Wx (k ρ a) Q E) E) : Wx (o.bind k) Q E := by
 cases o with
 | stk => exact wxs h
 | ok ρ a => exact wxo' h
 | er ρ x => exact wxe (wxe' h)
theorem wx_dry {o : Out α} (h : Wx o Q (fun _ _ => False)) : Wx o.dry Q E := by
 cases o with
 | stk => exact wxs h
 | ok ρ a => exact wxo (wxo' h)
 | er ρ x => exact False.elim (wxe' h)
theorem wx_mono {o : Out α} {Q' : Env → α → Prop} (h : Wx o Q E) (hq : ∀ ρ a, Q ρ a → Q' ρ a) (he : ∀ ρ x, E ρ x → E' ρ x) : Wx o Q' E' := by
 cases o with
 | stk => exact wxs h
 | ok ρ a => exact wxo (hq _ _ (wxo' h))
 | er ρ x => exact wxe (he _ _ (wxe' h))
end
section
variable {Q Q' : Rz → Env → Prop} {E E' : Xn → Env → Prop} {z : Rz} {x : Xn} {io : Env} {o : FOut}
theorem wfo (q : Q z io) : Wf (.ok z io) Q E := by unfold Wf; exact q
theorem wfe (q : E x io) : Wf (.er x io) Q E := by unfold Wf; exact q
theorem wfo' (q : Wf (.ok z io) Q E) : Q z io := by unfold Wf at q; exact q
theorem wfe' (q : Wf (.er x io) Q E) : E x io := by unfold Wf at q; exact q
theorem wfs {P : Prop} (q : Wf .stk Q E) : P := by unfold Wf at q; exact False.elim q
theorem wf_of (h : o = .ok z io) (q : Q z io) : Wf o Q E := by rw [h]; exact wfo q
theorem wf_er (h : o = .er x io) (q : E x io) : Wf o Q E := by rw [h]; exact wfe q
theorem wf_eq (h : Wf o (fun z' io' => z' = z ∧ io' = io) (fun _ _ => False)) : o = .ok z io := by
 cases o with
 | stk => exact wfs h
 | ok z io => obtain ⟨rfl, rfl⟩ := wfo' h; rfl
 | er x io => exact False.elim (wfe' h)
theorem wf_eqE (h : Wf o (fun _ _ => False) (fun x' io' => x' = x ∧ io' = io)) : o = .er x io := by
 cases o with
 | stk => exact wfs h
 | ok z io => exact False.elim (wfo' h)
 | er x io => obtain ⟨rfl, rfl⟩ := wfe' h; rfl
theorem wf_ex (h : Wf o Q (fun _ _ => False)) : ∃ z io, o = .ok z io ∧ Q z io := by
 cases o with
 | stk => exact wfs h
 | ok z io => exact ⟨z, io, rfl, wfo' h⟩
 | er x io => exact False.elim (wfe' h)
end
class SetTo (l : Env) (i : Nat) (x : Option (Fg × D)) (l' : outParam Env) : Prop where
 eq : l.set i x = l'
instance {a x : Option (Fg × D)} {l : Env} : SetTo (a :: l) 0 x (x :: l) := ⟨rfl⟩
instance {a x : Option (Fg × D)} {l l' : Env} {n : Nat} [h : SetTo l n x l'] : SetTo (a :: l) (n + 1) x (a :: l') := ⟨by rw [List.set_cons_succ, h.eq]⟩
section
variable {ρ ρ' ρ1 ρ2 : Env} {N B C : Env → Prop} {R : Env → Tp → Prop} {E : XP} {Q : Env → Tp → Prop} {QT : Env → Bool → Prop}
theorem ws_seq {a b : RS} (h : Ws a ρ (fun ρ1 => Ws b ρ1 N B C R E) B C R E) : Ws (rSeq a b) ρ N B C R E := by
 unfold Ws rSeq at *
 generalize a ρ = o at h
 cases o with
 | stk => (unfold Wx at *; exact h)
 | ok ρ1 fl => cases fl <;> (unfold Wx at *; exact h)
 | er ρ1 x => (unfold Wx at *; exact h)
theorem ws_cut {a b : RS} (I : Env → Prop) (h : Ws a ρ I B C R E) (g : ∀ ρ1, I ρ1 → Ws b ρ1 N B C R E) : Ws (rSeq a b) ρ N B C R E :=
 ws_seq (wx_mono h (fun ρ fl q => by cases fl with | nx => exact g _ q | bk => exact q | ct => exact q | rt t => exact q) (fun _ _ q => q))
theorem ws_mono {a : RS} {N' B' C' : Env → Prop} {R' : Env → Tp → Prop} {E' : XP} (h : Ws a ρ N B C R E) (hN : ∀ ρ, N ρ → N' ρ) (hB : ∀ ρ, B ρ → B' ρ) (hC : ∀ ρ, C ρ → C' ρ) (hR : ∀ ρ t, R ρ t → R' ρ t) (hE : ∀ ρ x, E ρ x → E' ρ x) : Ws a ρ N' B' C' R' E' :=
 wx_mono h (fun ρ fl q => by cases fl with | nx => exact hN _ q | bk => exact hB _ q | ct => exact hC _ q | rt t => exact hR _ _ q) hE
theorem ws_next (h : N ρ) : Ws rNext ρ N B C R E := wxo h
theorem ws_bk (h : B ρ) : Ws (fun ρ => .ok ρ .bk) ρ N B C R E := wxo h
theorem ws_ct (h : C ρ) : Ws (fun ρ => .ok ρ .ct) ρ N B C R E := wxo h
theorem ws_retN (h : R ρ (.fz .none)) : Ws (fun ρ => .ok ρ (.rt (.fz .none))) ρ N B C R E := wxo h
theorem ws_if {c : RT} {a b : RS} (h : Wt c ρ (fun ρ1 x => if x = true then Ws a ρ1 N B C R E else Ws b ρ1 N B C R E) E) : Ws (rIf c a b) ρ N B C R E :=
 wx_bind (wx_mono h (fun ρ x q => by cases x <;> first | exact q | exact wxo q) (fun _ _ q => q))
theorem ws_drop {e : RE} (h : We e ρ (fun ρ1 _ => N ρ1) E) : Ws (rDrop e) ρ N B C R E := wx_bind (wx_mono h (fun _ _ q => wxo q) (fun _ _ q => q))
def WAsg (ρ : Env) (i : Nat) (tp : Tp) (N : Env → Prop) : Prop := ∃ ρ2, asg ρ i tp = some ρ2 ∧ N ρ2
theorem ws_asg {e : RE} {i : Nat} (h : We e ρ (fun ρ1 tp => WAsg ρ1 i tp N) E) : Ws (rAsg e i) ρ N B C R E :=
 wx_bind (wx_mono h (fun ρ1 tp ⟨ρ2, e, q⟩ => by rw [e]; exact wxo q) (fun _ _ q => q))
theorem asg_fz {i : Nat} {d : D} (s : SetTo ρ i (some (.f, d)) ρ') (hp : pinned ρ i = false) (h : N ρ') : WAsg ρ i (.fz d) N := by
 refine ⟨ρ', ?_, h⟩
 unfold asg
 rw [hp, if_neg Bool.false_ne_true]
 show some (ρ.set i (some (.f, d))) = _
 rw [s.eq]
theorem asg_ow {i : Nat} {u : Bool} {d : D} (s : SetTo ρ i (some (.o u false, d)) ρ') (hp : pinned ρ i = false) (h : N ρ') : WAsg ρ i (.ow u d) N := by
 refine ⟨ρ', ?_, h⟩
 unfold asg
 rw [hp, if_neg Bool.false_ne_true]
 show some (ρ.set i (some (.o u false, d))) = _
 rw [s.eq]
theorem asg_slf {i j : Nat} {d : D} (hj : ρ[j]? = some (some (.f, d))) (s : SetTo ρ i (some (.f, d)) ρ') (hp : pinned ρ i = false) (h : N ρ') : WAsg ρ i (.sl j) N := by
 refine ⟨ρ', ?_, h⟩
 unfold asg stF
 rw [hp, if_neg Bool.false_ne_true]
 simp only [hj]
 rw [s.eq]
theorem asg_slo {i j : Nat} {u : Bool} {d : D} (hj : ρ[j]? = some (some (.o u false, d))) (s1 : SetTo ρ j (some (.f, d)) ρ1) (s : SetTo ρ1 i (some (.f, d)) ρ') (hp : pinned ρ i = false) (h : N ρ') : WAsg ρ i (.sl j) N := by
 refine ⟨ρ', ?_, h⟩
 unfold asg stF
 rw [hp, if_neg Bool.false_ne_true]
 simp only [hj]
 rw [s1.eq, s.eq]
def WRt (ρ : Env) (tp : Tp) (R : Env → Tp → Prop) : Prop := ∃ ρ2 tp2, rtT ρ tp = some (ρ2, tp2) ∧ R ρ2 tp2
theorem ws_ret {e : RE} (h : We e ρ (fun ρ1 tp => WRt ρ1 tp R) E) : Ws (rRet e) ρ N B C R E :=
 wx_bind (wx_mono h (fun ρ1 tp ⟨ρ2, tp2, e, q⟩ => by rw [e]; exact wxo q) (fun _ _ q => q))
theorem rt_fz {d : D} (h : R ρ (.fz d)) : WRt ρ (.fz d) R := ⟨_, _, rfl, h⟩
theorem rt_ow {u : Bool} {d : D} (h : R ρ (.ow u d)) : WRt ρ (.ow u d) R := ⟨_, _, rfl, h⟩
theorem rt_slf {j : Nat} {d : D} (hj : ρ[j]? = some (some (.f, d))) (h : R ρ (.fz d)) : WRt ρ (.sl j) R := ⟨ρ, .fz d, by unfold rtT; simp only [hj], h⟩
theorem rt_slo {j : Nat} {u : Bool} {d : D} (hj : ρ[j]? = some (some (.o u false, d))) (s : SetTo ρ j none ρ') (h : R ρ' (.ow u d)) : WRt ρ (.sl j) R := ⟨ρ', .ow u d, by unfold rtT; simp only [hj]; rw [s.eq], h⟩
def WW (ρ : Env) (vs : List Nat) (N : Env → Prop) : Prop := N (wipeE ρ vs)
theorem ws_fgt {a : RS} {vs : List Nat} (h : Ws a ρ (fun ρ1 => WW ρ1 vs N) B C R E) : Ws (rFgt vs a) ρ N B C R E := by
 unfold Ws rFgt at *
 generalize a ρ = o at h
 cases o with
 | stk => (unfold Wx at *; exact h)
 | er ρ1 x => (unfold Wx at *; exact h)
 | ok ρ1 fl => cases fl <;> (unfold Wx at *; exact h)
theorem ws_fgtL {a : RS} {vs : List Nat} (h : Ws a ρ (fun ρ1 => WW ρ1 vs N) (fun ρ1 => WW ρ1 vs B) (fun ρ1 => WW ρ1 vs C) R E) : Ws (rFgtL vs a) ρ N B C R E := by
 unfold Ws rFgtL at *
 generalize a ρ = o at h
 cases o with
 | stk => (unfold Wx at *; exact h)
 | er ρ1 x => (unfold Wx at *; exact h)
 | ok ρ1 fl => cases fl <;> (unfold Wx at *; exact h)
class WipeTo (l : Env) (vs : List Nat) (l' : outParam Env) : Prop where
 eq : wipeE l vs = l'
instance {l : Env} : WipeTo l [] l := ⟨rfl⟩
instance {l l' l2 : Env} {v : Nat} {vs : List Nat} [h : WipeTo l vs l'] [s : SetTo l' v none l2] : WipeTo l (v :: vs) l2 := ⟨by show (wipeE l vs).set v none = _; rw [h.eq, s.eq]⟩
theorem ww_ {vs : List Nat} (s : WipeTo ρ vs ρ') (h : N ρ') : WW ρ vs N := by unfold WW; rw [s.eq]; exact h
def WG (f : Env → D → Option Env) (ρ : Env) (d : D) (N : Env → Prop) : Prop := ∃ ρ2, f ρ d = some ρ2 ∧ N ρ2
def WGs (f : Env → List D → Option Env) (ρ : Env) (d : List D) (N : Env → Prop) : Prop := ∃ ρ2, f ρ d = some ρ2 ∧ N ρ2
theorem wg_name {i : Nat} {d : D} (s : SetTo ρ i (some (.f, d)) ρ') (hp : pinned ρ i = false) (h : N ρ') : WG (fName i) ρ d N := ⟨ρ', by unfold fName; rw [hp, if_neg Bool.false_ne_true, s.eq], h⟩
theorem wgs_nil (h : N ρ) : WGs fNil ρ [] N := ⟨ρ, rfl, h⟩
theorem wgs_cons {f : Env → D → Option Env} {fs : Env → List D → Option Env} {d : D} {ds : List D} (h : WG f ρ d fun ρ1 => WGs fs ρ1 ds N) : WGs (fCons f fs) ρ (d :: ds) N := by
 obtain ⟨ρ1, e, ρ2, e2, q⟩ := h
 exact ⟨ρ2, by unfold fCons; simp only [e]; exact e2, q⟩
theorem wg_tup {n : Nat} {fs : Env → List D → Option Env} {ds : List D} (hn : ds.length = n) (h : WGs fs ρ ds N) : WG (fTup n fs) ρ (.tuple ds) N := by
 obtain ⟨ρ2, e, q⟩ := h
 exact ⟨ρ2, by unfold fTup; simp only [hn]; exact (if_pos trivial).trans e, q⟩
def WSt (ρ : Env) (tp : Tp) (Q : Env → D → Prop) : Prop := ∃ ρ2 d, stF ρ tp = some (ρ2, d) ∧ Q ρ2 d
section
variable {QD : Env → D → Prop} {QL : Env → List D → Prop}
theorem st_fz {d : D} (h : QD ρ d) : WSt ρ (.fz d) QD := ⟨_, _, rfl, h⟩
theorem st_ow {u : Bool} {d : D} (h : QD ρ d) : WSt ρ (.ow u d) QD := ⟨_, _, rfl, h⟩
theorem st_slf {j : Nat} {d : D} (hj : ρ[j]? = some (some (.f, d))) (h : QD ρ d) : WSt ρ (.sl j) QD := ⟨ρ, d, by unfold stF; simp only [hj], h⟩
theorem st_slo {j : Nat} {u : Bool} {d : D} (hj : ρ[j]? = some (some (.o u false, d))) (s : SetTo ρ j (some (.f, d)) ρ') (h : QD ρ' d) : WSt ρ (.sl j) QD := ⟨ρ', d, by unfold stF; simp only [hj]; rw [s.eq], h⟩
def WSts (ρ : Env) (tps : List Tp) (Q : Env → List D → Prop) : Prop := ∃ ρ2 ds, stFs ρ tps = some (ρ2, ds) ∧ Q ρ2 ds
theorem sts_nil (h : QL ρ []) : WSts ρ [] QL := ⟨_, _, rfl, h⟩
theorem sts_cons {tp : Tp} {tps : List Tp} (h : WSt ρ tp fun ρ1 d => WSts ρ1 tps fun ρ2 ds => QL ρ2 (d :: ds)) : WSts ρ (tp :: tps) QL := by
 obtain ⟨ρ1, d, e1, ρ2, ds, e2, q⟩ := h
 exact ⟨ρ2, d :: ds, by unfold stFs; simp only [e1, e2], q⟩
end
theorem ws_asgG {e : RE} {f : Env → D → Option Env} (h : We e ρ (fun ρ1 tp => WSt ρ1 tp fun ρ2 d => WG f ρ2 d N) E) : Ws (rAsgG e f) ρ N B C R E :=
 wx_bind (wx_mono h (fun ρ1 tp ⟨ρ2, d, e, ρ3, e3, q⟩ => by simp only [e, e3]; exact wxo q) (fun _ _ q => q))
theorem we_var {i : Nat} {x : Fg × D} (hi : ρ[i]? = some (some x)) (h : Q ρ (.sl i)) : We (rVar i) ρ Q E := by
 unfold We rVar
 rw [hi]
 exact wxo h
theorem we_K {d : D} (h : Q ρ (.fz d)) : We (rK d) ρ Q E := wxo h
theorem we_dnew {u : Bool} (h : Q ρ (.ow u (.dict []))) : We (fun ρ => .ok ρ (.ow u (.dict []))) ρ Q E := wxo h
def WO2 (f : D → D → Option Rz) (ρ : Env) (t1 t2 : Tp) (Q : Env → Tp → Prop) : Prop := ∃ d e z, rdT ρ t1 = some d ∧ rdT ρ t2 = some e ∧ f d e = some z ∧ Q ρ z.tp
theorem we_op2 {f : D → D → Option Rz} {a b : RE} (h : We a ρ (fun ρ1 t1 => We b ρ1 (fun ρ2 t2 => WO2 f ρ2 t1 t2 Q) E) E) : We (rOp2 f a b) ρ Q E := by
 have h0 : Wx (rCons a (rCons b rNil) ρ) (fun ρ2 ts => ∃ t1 t2, ts = [t1, t2] ∧ WO2 f ρ2 t1 t2 Q) E :=
  wx_bind (wx_mono h (fun ρ1 t1 h1 => wx_bind (wx_bind (wx_mono h1 (fun ρ2 t2 h2 => wx_bind (wxo (wxo (wxo ⟨t1, t2, rfl, h2⟩)))) (fun _ _ q => q)))) (fun _ _ q => q))
 refine wx_bind (wx_mono h0 (fun ρ2 ts ⟨t1, t2, et, d, e, z, e1, e2, e3, q⟩ => ?_) (fun _ _ q => q))
 subst et
 simp only [rdTs, e1, e2, f2, e3]
 exact wxo q
def WO1 (f : D → Option Rz) (ρ : Env) (t1 : Tp) (Q : Env → Tp → Prop) : Prop := ∃ d z, rdT ρ t1 = some d ∧ f d = some z ∧ Q ρ z.tp
theorem we_op1 {f : D → Option Rz} {a : RE} (h : We a ρ (fun ρ1 t1 => WO1 f ρ1 t1 Q) E) : We (rOp1 f a) ρ Q E := by
 have h0 : Wx (rCons a rNil ρ) (fun ρ2 ts => ∃ t1, ts = [t1] ∧ WO1 f ρ2 t1 Q) E :=
  wx_bind (wx_mono h (fun ρ1 t1 h1 => wx_bind (wxo (wxo ⟨t1, rfl, h1⟩))) (fun _ _ q => q))
 refine wx_bind (wx_mono h0 (fun ρ2 ts ⟨t1, et, d, z, e1, e3, q⟩ => ?_) (fun _ _ q => q))
 subst et
 simp only [rdTs, e1, f1, e3]
 exact wxo q
theorem we_isi {n : String} {a : RE} (h : We (rOp1 (oIsi n) a) ρ Q E) : We (rIsi1 n a) ρ Q E := h
section
variable {QL : Env → List Tp → Prop}
theorem wa_nil (h : QL ρ []) : Wa rNil ρ QL E := wxo h
theorem wa_cons {a : RE} {r : RA} (h : We a ρ (fun ρ1 t => Wa r ρ1 (fun ρ2 ts => QL ρ2 (t :: ts)) E) E) : Wa (rCons a r) ρ QL E :=
 wx_bind (wx_mono h (fun _ _ h1 => wx_bind (wx_mono h1 (fun _ _ q => wxo q) (fun _ _ q => q))) (fun _ _ q => q))
end
theorem we_tup {a : RA} (h : Wa a ρ (fun ρ1 tps => WSts ρ1 tps fun ρ2 ds => ds.length ≤ sizeLine ∧ Q ρ2 (.fz (.tuple ds))) E) : We (rTup a) ρ Q E :=
 wx_bind (wx_mono h (fun ρ1 tps ⟨ρ2, ds, e, hl, q⟩ => by simp only [e]; rw [if_pos hl]; exact wxo q) (fun _ _ q => q))
theorem we_lst {a : RA} (h : Wa a ρ (fun ρ1 tps => WSts ρ1 tps fun ρ2 ds => ds.length ≤ sizeLine ∧ Q ρ2 (.ow false (.list ds))) E) : We (rLst a) ρ Q E :=
 wx_bind (wx_mono h (fun ρ1 tps ⟨ρ2, ds, e, hl, q⟩ => by simp only [e]; rw [if_pos hl]; exact wxo q) (fun _ _ q => q))
def WC (m : List (Fg × D) → FOut) (ms : List Bool) (ρ : Env) (tps : List Tp) (Q : Env → Tp → Prop) (E : XP) : Prop := ∃ as, (ms.length = tps.length ∧ once ms tps = true) ∧ pass ρ ms (melt ms tps) = some as ∧ Wf (m as) (fun z io => ∃ ρ2, back ρ ms tps io = some ρ2 ∧ Q ρ2 z.tp) (fun x io => ∃ ρ2, back ρ ms tps io = some ρ2 ∧ E ρ2 x)
theorem we_call {m : List (Fg × D) → FOut} {ms : List Bool} {a : RA} (h : Wa a ρ (fun ρ1 tps => WC m ms ρ1 tps Q E) E) : We (rCall m ms a) ρ Q E :=
 wx_bind (wx_mono h (fun ρ1 tps ⟨as, h1, h2, h3⟩ => by
  rw [if_pos h1, h2]
  show Wx (match m as with
  | .stk => .stk
  | .ok z io => match back ρ1 ms tps io with
   | some ρ2 => Out.ok ρ2 z.tp
   | none => .stk
  | .er x io => match back ρ1 ms tps io with
   | some ρ2 => .er ρ2 x
   | none => .stk) Q E
  generalize m as = o at h3
  cases o with
  | stk => exact wfs h3
  | ok z io => obtain ⟨ρ2, e, q⟩ := wfo' h3; simp only [e]; exact wxo q
  | er x io => obtain ⟨ρ2, e, q⟩ := wfe' h3; simp only [e]; exact wxe q) (fun _ _ q => q))
theorem wf_dry {m : List (Fg × D) → FOut} {as : List (Fg × D)} {Q : Rz → Env → Prop} {E : Xn → Env → Prop} (h : Wf (m as) Q (fun _ _ => False)) : Wf (mdry m as) Q E := by
 unfold mdry
 generalize m as = o at h
 cases o with
 | stk => exact wfs h
 | ok z io => exact wfo (wfo' h)
 | er x io => exact False.elim (wfe' h)
theorem wc_ok {m : List (Fg × D) → FOut} {ms : List Bool} {tps : List Tp} {as : List (Fg × D)} {z : Rz} {io : Env} {tp : Tp} (h1 : (ms.length = tps.length ∧ once ms tps = true)) (h2 : pass ρ ms (melt ms tps) = some as) (h3 : m as = .ok z io) (h4 : back ρ ms tps io = some ρ2) (h5 : z.tp = tp) (q : Q ρ2 tp) : WC m ms ρ tps Q E :=
 ⟨as, h1, h2, wf_of h3 ⟨ρ2, h4, h5 ▸ q⟩⟩
theorem wc_dok {m : List (Fg × D) → FOut} {ms : List Bool} {tps : List Tp} {as : List (Fg × D)} {z : Rz} {io : Env} {tp : Tp} (h1 : (ms.length = tps.length ∧ once ms tps = true)) (h2 : pass ρ ms (melt ms tps) = some as) (h3 : m as = .ok z io) (h4 : back ρ ms tps io = some ρ2) (h5 : z.tp = tp) (q : Q ρ2 tp) : WC (mdry m) ms ρ tps Q E :=
 ⟨as, h1, h2, wf_dry (wf_of h3 ⟨ρ2, h4, h5 ▸ q⟩)⟩
theorem wc_er {m : List (Fg × D) → FOut} {ms : List Bool} {tps : List Tp} {as : List (Fg × D)} {x : Xn} {io : Env} (h1 : (ms.length = tps.length ∧ once ms tps = true)) (h2 : pass ρ ms (melt ms tps) = some as) (h3 : m as = .er x io) (h4 : back ρ ms tps io = some ρ2) (q : E ρ2 x) : WC m ms ρ tps Q E :=
 ⟨as, h1, h2, wf_er h3 ⟨ρ2, h4, q⟩⟩
theorem we_ifE {c : RT} {a b : RE} (h : Wt c ρ (fun ρ1 x => if x = true then We a ρ1 Q E else We b ρ1 Q E) E) : We (rIfE c a b) ρ Q E :=
 wx_bind (wx_mono h (fun ρ x q => by cases x <;> first | exact q | exact wxo q) (fun _ _ q => q))
theorem we_fzv {r : RE} (h : We r ρ (fun ρ1 tp => WSt ρ1 tp fun ρ2 d => Q ρ2 (.fz d)) E) : We (rFz r) ρ Q E :=
 wx_bind (wx_mono h (fun ρ1 tp ⟨ρ2, d, e, q⟩ => by simp only [e]; exact wxo q) (fun _ _ q => q))
def WB (ρ : Env) (tp : Tp) (Q : Env → Bool → Prop) : Prop := ∃ b, rdT ρ tp = some (.bool b) ∧ Q ρ b
theorem wb_of {tp : Tp} {b : Bool} (h : rdT ρ tp = some (.bool b)) (q : QT ρ b) : WB ρ tp QT := ⟨b, h, q⟩
theorem wt_test {e : RE} (h : We e ρ (fun ρ1 tp => WB ρ1 tp QT) E) : Wt (rTest e) ρ QT E :=
 wx_bind (wx_mono h (fun ρ1 tp ⟨b, e, q⟩ => by unfold asB; simp only [e]; exact wxo q) (fun _ _ q => q))
theorem wt_and {a b : RT} (h : Wt a ρ (fun ρ1 x => if x = true then Wt b ρ1 QT E else QT ρ1 false) E) : Wt (rAnd a b) ρ QT E :=
 wx_bind (wx_mono h (fun ρ x q => by cases x <;> first | exact q | exact wxo q) (fun _ _ q => q))
theorem wt_or {a b : RT} (h : Wt a ρ (fun ρ1 x => if x = true then QT ρ1 true else Wt b ρ1 QT E) E) : Wt (rOr a b) ρ QT E :=
 wx_bind (wx_mono h (fun ρ x q => by cases x <;> first | exact q | exact wxo q) (fun _ _ q => q))
theorem wt_not {a : RT} (h : Wt a ρ (fun ρ1 x => QT ρ1 (!x)) E) : Wt (rNot a) ρ QT E := wx_bind (wx_mono h (fun _ _ q => wxo q) (fun _ _ q => q))
theorem wt_yes (h : QT ρ true) : Wt (fun ρ => .ok ρ true) ρ QT E := wxo h
theorem we_andV {a b : RE} (h : Wt (rTest a) ρ (fun ρ1 x => if x = true then We b ρ1 Q E else Q ρ1 (.fz (.bool false))) E) : We (rAndV a b) ρ Q E :=
 wx_bind (wx_mono h (fun ρ x q => by cases x <;> first | exact q | exact wxo q) (fun _ _ q => q))
theorem we_orV {a b : RE} (h : Wt (rTest a) ρ (fun ρ1 x => if x = true then Q ρ1 (.fz (.bool true)) else We b ρ1 Q E) E) : We (rOrV a b) ρ Q E :=
 wx_bind (wx_mono h (fun ρ x q => by cases x <;> first | exact q | exact wxo q) (fun _ _ q => q))
theorem we_notV {a : RE} (h : Wt (rTest a) ρ (fun ρ1 x => Q ρ1 (.fz (.bool !x))) E) : We (rNotV a) ρ Q E := wx_bind (wx_mono h (fun _ _ q => wxo q) (fun _ _ q => q))
theorem ite_T {c : Prop} [Decidable c] {A B : Prop} (h : c) (q : A) : if c then A else B := by rw [if_pos h]; exact q
theorem ite_F {c : Bool} {A B : Prop} (h : c = false) (q : B) : if c = true then A else B := by rw [h, if_neg Bool.false_ne_true]; exact q
theorem ite_b {c : Bool} {A B : Prop} (h : c = true → A) (g : c = false → B) : if c = true then A else B := by
 cases c with
 | true => exact h rfl
 | false => exact g rfl
theorem we_chain {f g : D → D → Option Rz} {a b c : RE} (h : We a ρ (fun ρ1 t1 => We (rFz b) ρ1 (fun ρ2 t2 => ∃ e d x, t2 = .fz e ∧ rdT ρ2 t1 = some d ∧ f d e = some (.fz (.bool x)) ∧ if x = true then We c ρ2 (fun ρ3 t3 => WO2 g ρ3 (.fz e) t3 Q) E else Q ρ2 (.fz (.bool false))) E) E) : We (rChain f g a b c) ρ Q E := by
 unfold We rChain Vm.r2
 refine wx_bind (wx_mono h (fun ρ1 t1 h1 => ?_) (fun _ _ q => q))
 refine wx_bind (wx_mono h1 (fun ρ2 t2 h2 => ?_) (fun _ _ q => q))
 obtain ⟨e, d, x, rfl, e1, e2, q⟩ := h2
 unfold kChain
 simp only [e1, e2]
 cases x with
 | false => exact wxo q
 | true =>
  rw [if_pos rfl] at q ⊢
  refine wx_bind (wx_mono q (fun ρ3 t3 h3 => ?_) (fun _ _ q => q))
  obtain ⟨d', e', z, f1, f2, f3, q⟩ := h3
  cases f1
  simp only [f2, f3]
  exact wxo q
section
variable {QP : Env → Option Int → Prop}
theorem wp_no (h : QP ρ none) : Wp rNoPart ρ QP E := wxo h
def WPt (ρ : Env) (tp : Tp) (QP : Env → Option Int → Prop) : Prop := ∃ i, rdT ρ tp = some (.int i) ∧ QP ρ (some i)
theorem wpt_of {tp : Tp} {i : Int} (h : rdT ρ tp = some (.int i)) (q : QP ρ (some i)) : WPt ρ tp QP := ⟨i, h, q⟩
theorem wp_part {r : RE} (h : We r ρ (fun ρ1 tp => WPt ρ1 tp QP) E) : Wp (rPart r) ρ QP E :=
 wx_bind (wx_mono h (fun ρ1 tp ⟨b, e, q⟩ => by simp only [e]; exact wxo q) (fun _ _ q => q))
end
def WSl (f : D → Option Int → Option Int → Option Rz) (ρ : Env) (tp : Tp) (l h : Option Int) (Q : Env → Tp → Prop) : Prop := ∃ d z, rdT ρ tp = some d ∧ f d l h = some z ∧ Q ρ z.tp
theorem we_sl {f : D → Option Int → Option Int → Option Rz} {a : RE} {lo hi : Env → Out (Option Int)} (h : We a ρ (fun ρ1 tp => Wp lo ρ1 (fun ρ2 l => Wp hi ρ2 (fun ρ3 u => WSl f ρ3 tp l u Q) E) E) E) : We (rSl f a lo hi) ρ Q E := by
 unfold We rSl
 refine wx_bind (wx_mono h (fun ρ1 t1 h1 => ?_) (fun _ _ q => q))
 refine wx_bind (wx_mono h1 (fun ρ2 t2 h2 => ?_) (fun _ _ q => q))
 refine wx_bind (wx_mono h2 (fun ρ3 t3 h3 => ?_) (fun _ _ q => q))
 obtain ⟨d, z, e1, e2, q⟩ := h3
 simp only [e1, e2]
 exact wxo q
theorem we_lenSc {i : Nat} {ds : List D} (hi : ρ[i]? = some (some (.s, .list ds))) (h : Q ρ (.fz (.int ds.length))) : We (rLenSc i) ρ Q E := by
 unfold We rLenSc; rw [hi]; exact wxo h
def WM (i : Nat) (f : List D → List D → Option (List D × D)) (ρ : Env) (es : List D) (Q : Env → Tp → Prop) : Prop := ∃ p ds ds' res, ρ[i]? = some (some (.o false p, .list ds)) ∧ f ds es = some (ds', res) ∧ Q (ρ.set i (some (.o false p, .list ds'))) (.fz res)
theorem wm_of {i : Nat} {f : List D → List D → Option (List D × D)} {es ds ds' : List D} {p : Bool} {res : D} (h1 : ρ[i]? = some (some (.o false p, .list ds))) (h2 : f ds es = some (ds', res)) (s : SetTo ρ i (some (.o false p, .list ds')) ρ') (q : Q ρ' (.fz res)) : WM i f ρ es Q := ⟨p, ds, ds', res, h1, h2, by rw [s.eq]; exact q⟩
theorem we_methL {i : Nat} {f : List D → List D → Option (List D × D)} {a : RA} {p : Bool} {ds : List D} (hi : ρ[i]? = some (some (.o false p, .list ds))) (h : Wa a ρ (fun ρ1 tps => WSts ρ1 tps fun ρ2 es => WM i f ρ2 es Q) E) : We (rMethL i f a) ρ Q E := by
 unfold We rMethL
 rw [hi]
 refine wx_bind (wx_mono h (fun ρ1 tps h1 => ?_) (fun _ _ q => q))
 obtain ⟨ρ2, es, e1, p', ds0, ds', res, e2, e3, q⟩ := h1
 simp only [e1, e2, e3]
 exact wxo q
def WSI (i : Nat) (ρ : Env) (ti : Tp) (e : D) (N : Env → Prop) : Prop := ∃ n p ds j, rdT ρ ti = some (.int n) ∧ ρ[i]? = some (some (.o false p, .list ds)) ∧ ixN ds.length n = some j ∧ N (ρ.set i (some (.o false p, .list (ds.set j e))))
theorem wsi_of {i : Nat} {ti : Tp} {e : D} {n : Int} {p : Bool} {ds ds' : List D} {j : Nat} (h1 : rdT ρ ti = some (.int n)) (h2 : ρ[i]? = some (some (.o false p, .list ds))) (h3 : ixN ds.length n = some j) (h4 : ds.set j e = ds') (s : SetTo ρ i (some (.o false p, .list ds')) ρ') (q : N ρ') : WSI i ρ ti e N := ⟨n, p, ds, j, h1, h2, h3, by rw [h4, s.eq]; exact q⟩
theorem ws_setI {i : Nat} {a b : RE} {p : Bool} {ds : List D} (hi : ρ[i]? = some (some (.o false p, .list ds))) (h : We a ρ (fun ρ1 t1 => We b ρ1 (fun ρ2 t2 => WSt ρ2 t1 fun ρ3 e => WSI i ρ3 t2 e N) E) E) : Ws (rSetI i a b) ρ N B C R E := by
 unfold Ws rSetI
 rw [hi]
 unfold Vm.r2
 refine wx_bind (wx_mono h (fun ρ1 t1 h1 => ?_) (fun _ _ q => q))
 refine wx_bind (wx_mono h1 (fun ρ2 t2 h2 => ?_) (fun _ _ q => q))
 obtain ⟨ρ3, e, e1, n, p', ds', j, e2, e3, e4, q⟩ := h2
 unfold kSetI
 simp only [e1, e2, e3, e4]
 exact wxo q
def WDP (i : Nat) (ρ : Env) (tk : Tp) (e : D) (N : Env → Prop) : Prop := ∃ k u p kds kk, rdT ρ tk = some k ∧ ρ[i]? = some (some (.o u p, .dict kds)) ∧ keyOf u k = some kk ∧ kds.length < sizeLine ∧ N (ρ.set i (some (.o u p, .dict (putD kds kk k e))))
theorem wdp_of {i : Nat} {tk : Tp} {e k : D} {u p : Bool} {kds kds' : List (D × D)} {kk : Key ⊕ List Key} (h1 : rdT ρ tk = some k) (h2 : ρ[i]? = some (some (.o u p, .dict kds))) (h3 : keyOf u k = some kk) (h4 : kds.length < sizeLine) (h5 : putD kds kk k e = kds') (s : SetTo ρ i (some (.o u p, .dict kds')) ρ') (q : N ρ') : WDP i ρ tk e N := ⟨k, u, p, kds, kk, h1, h2, h3, h4, by rw [h5, s.eq]; exact q⟩
theorem ws_dput {i : Nat} {a b : RE} {u p : Bool} {kds : List (D × D)} (hi : ρ[i]? = some (some (.o u p, .dict kds))) (h : We a ρ (fun ρ1 t1 => We b ρ1 (fun ρ2 t2 => WSt ρ2 t1 fun ρ3 e => WDP i ρ3 t2 e N) E) E) : Ws (rDPut i a b) ρ N B C R E := by
 unfold Ws rDPut
 rw [hi]
 unfold Vm.r2
 refine wx_bind (wx_mono h (fun ρ1 t1 h1 => ?_) (fun _ _ q => q))
 refine wx_bind (wx_mono h1 (fun ρ2 t2 h2 => ?_) (fun _ _ q => q))
 obtain ⟨ρ3, e, e1, k, u', p', kds', kk, e2, e3, e4, e5, q⟩ := h2
 unfold kDPut
 simp only [e1, e2, e3, e4]
 rw [if_pos e5]
 exact wxo q
def WAu (i : Nat) (f : D → D → Option Rz) (ρ : Env) (tp : Tp) (N : Env → Prop) : Prop := ∃ d e z, rdT ρ (.sl i) = some d ∧ rdT ρ tp = some e ∧ f d e = some z ∧ WAsg ρ i z.tp N
theorem ws_aug {i : Nat} {f : D → D → Option Rz} {r : RE} {x : Fg × D} (hi : ρ[i]? = some (some x)) (h : We r ρ (fun ρ1 tp => WAu i f ρ1 tp N) E) : Ws (rAug i f r) ρ N B C R E := by
 unfold Ws rAug rVar
 rw [hi]
 refine wx_bind (wx_mono h (fun ρ1 t1 h1 => ?_) (fun _ _ q => q))
 obtain ⟨d, e, z, e1, e2, e3, ρ2, e4, q⟩ := h1
 simp only [e1, e2, e3, e4]
 exact wxo q
theorem ws_raise {x : Str} (h : E ρ ⟨x, none⟩) : Ws (rRaise x) ρ N B C R E := wxe h
def WRG (x f : Str) (ρ : Env) (tp : Tp) (E : XP) : Prop := ∃ n, rdT ρ tp = some (.int n) ∧ n.natAbs.log2 < 1920 ∧ E ρ ⟨x, some (f, n)⟩
theorem ws_raiseG {x f : Str} {r : RE} (h : We r ρ (fun ρ1 tp => WRG x f ρ1 tp E) E) : Ws (rRaiseG x f r) ρ N B C R E :=
 wx_bind (wx_mono h (fun ρ1 tp ⟨n, e, hl, q⟩ => by simp only [e]; rw [if_pos hl]; exact wxe q) (fun _ _ q => q))
def WTry (su : RS) (sub : Str → Option Bool) (i : Nat) (N B C : Env → Prop) (R : Env → Tp → Prop) (E : XP) (ρ : Env) (x : Xn) : Prop := (sub x.cls = some true ∧ pinned ρ i = false ∧ Ws su (ρ.set i (some (.e, encX x))) (fun ρ2 => N (ρ2.set i none)) (fun ρ2 => B (ρ2.set i none)) (fun ρ2 => C (ρ2.set i none)) (fun ρ2 t => (∀ j, t ≠ .sl j) ∧ R (ρ2.set i none) t) (fun _ _ => False)) ∨ (sub x.cls = some false ∧ E ρ x)
theorem ws_try {b su : RS} {sub : Str → Option Bool} {i : Nat} (h : Ws b ρ N B C R (WTry su sub i N B C R E)) : Ws (rTry b sub i su) ρ N B C R E := by
 unfold Ws rTry at *
 generalize b ρ = o at h
 cases o with
 | stk => (unfold Wx at *; exact h)
 | ok ρ1 fl => (unfold Wx at *; exact h)
 | er ρ1 x =>
  rcases wxe' h with ⟨h1, h2, h3⟩ | ⟨h1, h2⟩
  ·simp only [h1, h2]
   rw [if_neg Bool.false_ne_true]
   unfold Ws at h3
   generalize su (ρ1.set i (some (.e, encX x))) = o2 at h3
   cases o2 with
   | stk => (unfold Wx at *; exact h3)
   | er ρ2 y => (unfold Wx at *; exact h3)
   | ok ρ2 fl =>
    cases fl with
    | nx => (unfold Wx at *; exact h3)
    | bk => (unfold Wx at *; exact h3)
    | ct => (unfold Wx at *; exact h3)
    | rt t =>
     obtain ⟨q1, q2⟩ := wxo' h3
     cases t with
     | sl j => exact absurd rfl (q1 j)
     | fz d => exact wxo q2
     | ow u d => exact wxo q2
     | tr d => exact wxo q2
  ·simp only [h1]
   exact wxe h2
theorem wtry_t {su : RS} {sub : Str → Option Bool} {i : Nat} {x : Xn} {d : D} (h1 : sub x.cls = some true) (h2 : pinned ρ i = false) (hx : encX x = d) (s : SetTo ρ i (some (.e, d)) ρ') (h : Ws su ρ' (fun ρ2 => WW ρ2 [i] N) (fun ρ2 => WW ρ2 [i] B) (fun ρ2 => WW ρ2 [i] C) (fun ρ2 t => (∀ j, t ≠ .sl j) ∧ WW ρ2 [i] fun ρ3 => R ρ3 t) (fun _ _ => False)) : WTry su sub i N B C R E ρ x := .inl ⟨h1, h2, by rw [hx, s.eq]; exact h⟩
theorem encX_n {c : Str} : encX ⟨c, none⟩ = .tuple [.str c] := rfl
theorem encX_s {c f : Str} {n : Int} : encX ⟨c, some (f, n)⟩ = .tuple [.str c, .str f, .int n] := rfl
theorem we_isE {i : Nat} {tab : Str → Option Bool} {c : Str} {r : List D} {b : Bool} (h1 : ρ[i]? = some (some (.e, .tuple (.str c :: r)))) (h2 : tab c = some b) (q : Q ρ (.fz (.bool b))) : We (Vm.rIsE i tab) ρ Q E := by
 unfold We Vm.rIsE
 simp only [h1, h2]
 exact wxo q
theorem we_fldE {i : Nat} {x f : Str} {n : Int} (h1 : ρ[i]? = some (some (.e, .tuple [.str x, .str f, .int n]))) (q : Q ρ (.fz (.int n))) : We (rFldE i x f) ρ Q E := by
 unfold We rFldE
 simp only [h1]
 rw [if_pos (by simp)]
 exact wxo q
section
variable {QI : Env → List D → Prop}
def WR1 (ρ : Env) (t1 : Tp) (QI : Env → List D → Prop) : Prop := ∃ j : Int, rdT ρ t1 = some (.int j) ∧ -1000000 ≤ j ∧ j ≤ 1000000 ∧ QI ρ (rgD 0 j.toNat)
theorem wr1_of {t1 : Tp} {j : Int} (h1 : rdT ρ t1 = some (.int j)) (h2 : -1000000 ≤ j ∧ j ≤ 1000000) (q : QI ρ (rgD 0 j.toNat)) : WR1 ρ t1 QI := ⟨j, h1, h2.1, h2.2, q⟩
theorem wr1_n {t1 : Tp} {n : Nat} (h1 : rdT ρ t1 = some (.int (n : Int))) (h2 : n ≤ 1000000) (q : QI ρ (rgD 0 n)) : WR1 ρ t1 QI := ⟨n, h1, by omega, by omega, q⟩
theorem wi_rng1 {a : RE} (h : We a ρ (fun ρ1 t1 => WR1 ρ1 t1 QI) E) : Wi (rRng1 a) ρ QI E :=
 wx_bind (wx_mono h (fun ρ1 tp ⟨j, e, h1, h2, q⟩ => by simp only [e]; rw [if_pos (by omega)]; exact wxo q) (fun _ _ q => q))
def WR2 (ρ : Env) (t1 t2 : Tp) (QI : Env → List D → Prop) : Prop := ∃ i j : Int, rdT ρ t1 = some (.int i) ∧ rdT ρ t2 = some (.int j) ∧ -1000000 ≤ i ∧ i ≤ 1000000 ∧ -1000000 ≤ j ∧ j ≤ 1000000 ∧ QI ρ (rgD i (j - i).toNat)
theorem wr2_of {t1 t2 : Tp} {i j : Int} {n : Nat} (h1 : rdT ρ t1 = some (.int i)) (h2 : rdT ρ t2 = some (.int j)) (h3 : -1000000 ≤ i ∧ i ≤ 1000000 ∧ -1000000 ≤ j ∧ j ≤ 1000000) (hn : (j - i).toNat = n) (q : QI ρ (rgD i n)) : WR2 ρ t1 t2 QI := ⟨i, j, h1, h2, h3.1, h3.2.1, h3.2.2.1, h3.2.2.2, by rw [hn]; exact q⟩
theorem wi_rng2 {a b : RE} (h : We a ρ (fun ρ1 t1 => We b ρ1 (fun ρ2 t2 => WR2 ρ2 t1 t2 QI) E) E) : Wi (rRng2 a b) ρ QI E := by
 unfold Wi rRng2 Vm.r2
 refine wx_bind (wx_mono h (fun ρ1 t1 h1 => ?_) (fun _ _ q => q))
 refine wx_bind (wx_mono h1 (fun ρ2 t2 h2 => ?_) (fun _ _ q => q))
 obtain ⟨i, j, e1, e2, h1, h2, h3, h4, q⟩ := h2
 simp only [e1, e2]
 rw [if_pos (by omega)]
 exact wxo q
theorem we_lrg1 {a : RE} (h : We a ρ (fun ρ1 t1 => WR1 ρ1 t1 fun ρ l => Q ρ (.ow false (.list l))) E) : We (rListRg1 a) ρ Q E :=
 wx_bind (wx_mono h (fun ρ1 tp ⟨j, e, h1, h2, q⟩ => by simp only [e]; rw [if_pos (by omega)]; exact wxo q) (fun _ _ q => q))
theorem we_lrg2 {a b : RE} (h : We a ρ (fun ρ1 t1 => We b ρ1 (fun ρ2 t2 => WR2 ρ2 t1 t2 fun ρ l => Q ρ (.ow false (.list l))) E) E) : We (rListRg2 a b) ρ Q E := by
 unfold We rListRg2 Vm.r2
 refine wx_bind (wx_mono h (fun ρ1 t1 h1 => ?_) (fun _ _ q => q))
 refine wx_bind (wx_mono h1 (fun ρ2 t2 h2 => ?_) (fun _ _ q => q))
 obtain ⟨i, j, e1, e2, h1, h2, h3, h4, q⟩ := h2
 simp only [e1, e2]
 rw [if_pos (by omega)]
 exact wxo q
def WK (ρ : Env) (tp : Tp) (Q : Env → D → Prop) : Prop := ∃ ρ2 d, wk ρ tp = some (ρ2, d) ∧ Q ρ2 d
theorem wk_b {j : Nat} {d : D} {Q : Env → D → Prop} (hj : ρ[j]? = some (some (.b, d))) (h : Q ρ d) : WK ρ (.sl j) Q := ⟨ρ, d, by unfold wk; simp only [hj], h⟩
theorem wk_st {tp : Tp} {Q : Env → D → Prop} (h : WSt ρ tp Q) : WK ρ tp Q := by
 obtain ⟨ρ2, d, e, q⟩ := h
 refine ⟨ρ2, d, ?_, q⟩
 unfold wk
 split
 ·rename_i i
  split
  ·rename_i d' h'
   unfold stF at e
   simp only [h'] at e
   exact nomatch e
  ·exact e
 ·exact e
theorem wi_itL {a : RE} (h : We a ρ (fun ρ1 tp => WK ρ1 tp fun ρ2 d => ∃ ds, d = .list ds ∧ QI ρ2 ds) E) : Wi (rItL a) ρ QI E :=
 wx_bind (wx_mono h (fun ρ1 tp ⟨ρ2, d, e, ds, hd, q⟩ => by subst hd; simp only [e]; exact wxo q) (fun _ _ q => q))
theorem wi_itT {a : RE} (h : We a ρ (fun ρ1 tp => WK ρ1 tp fun ρ2 d => ∃ ds, d = .tuple ds ∧ QI ρ2 ds) E) : Wi (rItT a) ρ QI E :=
 wx_bind (wx_mono h (fun ρ1 tp ⟨ρ2, d, e, ds, hd, q⟩ => by subst hd; simp only [e]; exact wxo q) (fun _ _ q => q))
theorem wi_itE {a : RE} (h : We a ρ (fun ρ1 tp => WK ρ1 tp fun ρ2 d => ∃ ds, d = .list ds ∧ QI ρ2 (enD ds)) E) : Wi (rItE a) ρ QI E :=
 wx_bind (wx_mono h (fun ρ1 tp ⟨ρ2, d, e, ds, hd, q⟩ => by subst hd; simp only [e]; exact wxo q) (fun _ _ q => q))
theorem wi_itET {a : RE} (h : We a ρ (fun ρ1 tp => WK ρ1 tp fun ρ2 d => ∃ ds, d = .tuple ds ∧ QI ρ2 (enD ds)) E) : Wi (rItET a) ρ QI E :=
 wx_bind (wx_mono h (fun ρ1 tp ⟨ρ2, d, e, ds, hd, q⟩ => by subst hd; simp only [e]; exact wxo q) (fun _ _ q => q))
theorem wi_itS {a : RE} (h : We a ρ (fun ρ1 tp => ∃ x, rdT ρ1 tp = some (.str x) ∧ QI ρ1 (x.cps.toList.map fun c => .str (sgn c))) E) : Wi (rItS a) ρ QI E :=
 wx_bind (wx_mono h (fun ρ1 tp ⟨x, e, q⟩ => by simp only [e]; exact wxo q) (fun _ _ q => q))
end
theorem ws_for {ri : Env → Out (List D)} {f : Env → D → Option Env} {b : RS} (h : Wi ri ρ (fun ρ1 ds => Ws (rLoop f b ds) ρ1 N B C R E) E) : Ws (rFor ri f b) ρ N B C R E := wx_bind h
theorem wl_map {α : Type} {f : Env → D → Option Env} {b : RS} {xs : List α} (enc : α → D) (I : List α → Env → Prop) (h0 : I [] ρ)
  (st : ∀ (pre : List α) (x : α) (post : List α) (ρ : Env), xs = pre ++ x :: post → I pre ρ → WG f ρ (enc x) fun ρ1 => Ws b ρ1 (I (pre ++ [x])) N (I (pre ++ [x])) R E) (en : ∀ ρ, I xs ρ → N ρ) : Ws (rLoop f b (xs.map enc)) ρ N B C R E := by
 have h : ∀ (ys pre : List α) (ρ : Env), xs = pre ++ ys → I pre ρ → Ws (rLoop f b (ys.map enc)) ρ N B C R E := by
  intro ys
  induction ys with
  | nil => intro pre ρ ha h; exact wxo (en ρ (by rw [ha, List.append_nil]; exact h))
  | cons d ys ih =>
   intro pre ρ ha h
   obtain ⟨ρ1, e1, h1⟩ := st pre d ys ρ ha h
   have ih : ∀ ρ2, I (pre ++ [d]) ρ2 → Ws (rLoop f b (ys.map enc)) ρ2 N B C R E := fun ρ2 h2 => ih (pre ++ [d]) ρ2 (by rw [ha, List.append_assoc]; rfl) h2
   rw [List.map_cons]
   unfold Ws rLoop
   simp only [e1]
   unfold Ws at h1
   generalize b ρ1 = o at h1
   cases o with
   | stk => (unfold Wx at *; exact h1)
   | er ρ2 x => (unfold Wx at *; exact h1)
   | ok ρ2 fl =>
    cases fl with
    | nx => exact ih ρ2 (wxo' h1)
    | ct => exact ih ρ2 (wxo' h1)
    | bk => (unfold Wx at *; exact h1)
    | rt t => (unfold Wx at *; exact h1)
 exact h xs [] ρ rfl h0
theorem wl_rng {f : Env → D → Option Env} {b : RS} {lo : Int} {n : Nat} (I : Nat → Env → Prop) (h0 : I 0 ρ)
  (st : ∀ (k : Nat) (ρ : Env), k < n → I k ρ → WG f ρ (.int (lo + (k : Int))) fun ρ1 => Ws b ρ1 (I (k + 1)) N (I (k + 1)) R E) (en : ∀ ρ, I n ρ → N ρ) : Ws (rLoop f b (rgD lo n)) ρ N B C R E := by
 unfold rgD
 refine wl_map (xs := List.range n) (fun i : Nat => PyData.int (lo + (i : Int))) (fun pre ρ => I pre.length ρ) h0 (fun pre x post ρ e h => ?_) (fun ρ h => en ρ (by rw [List.length_range] at h; exact h))
 have hx : x = pre.length := by
  have := congrArg (fun l => l[pre.length]?) e
  simp at this
  have hl := congrArg List.length e
  simp at hl
  rw [List.getElem?_range (by omega)] at this
  simpa using this.symm
 subst hx
 have hl := congrArg List.length e
 simp at hl
 rw [List.length_append, List.length_singleton]
 exact st _ ρ (by omega) h
theorem ws_while1 {c : RT} {b : RS} {n : Nat} (h : Wt c ρ (fun ρ1 x => if x = true then Ws b ρ1 (fun ρ2 => Ws (rWhile c b n) ρ2 N B C R E) N (fun ρ2 => Ws (rWhile c b n) ρ2 N B C R E) R E else N ρ1) E) : Ws (rWhile c b (n + 1)) ρ N B C R E := by
 unfold Ws rWhile
 refine wx_bind (wx_mono h (fun ρ1 x q => ?_) (fun _ _ q => q))
 cases x with
 | false => exact wxo q
 | true =>
  rw [if_pos rfl] at q ⊢
  unfold Ws at q
  generalize b ρ1 = o at q
  cases o with
  | stk => exact wxs q
  | er ρ2 x => exact wxe (wxe' q)
  | ok ρ2 fl => cases fl <;> first | exact wxo' q | (unfold Wx at q ⊢; exact q)
theorem we_lc {ri : Env → Out (List D)} {f : Env → D → Option Env} {rt : RT} {re : RE} {vs : List Nat} (h : Wi ri ρ (fun ρ1 ds => Wx (rComp f rt re vs ds [] ρ1) (fun ρ2 es => Q ρ2 (.ow false (.list es))) E) E) : We (rLc ri f rt re vs) ρ Q E := wx_bind (wx_mono h (fun _ _ q => wx_bind (wx_mono q (fun _ _ q => wxo q) (fun _ _ q => q))) (fun _ _ q => q))
theorem wx_comp {α : Type} {f : Env → D → Option Env} {rt : RT} {re : RE} {vs : List Nat} {xs : List α} {QC : Env → List D → Prop} (enc : α → D) (I : List α → List D → Env → Prop) (h0 : I [] [] ρ)
  (st : ∀ (pre : List α) (x : α) (post : List α) (acc : List D) (ρ : Env), xs = pre ++ x :: post → I pre acc ρ → WG f (wipeE ρ vs) (enc x) fun ρ1 => Wt rt ρ1 (fun ρ2 t => if t = true then We re ρ2 (fun ρ3 tp => WSt ρ3 tp fun ρ4 e => acc.length < sizeLine ∧ I (pre ++ [x]) (acc ++ [e]) (wipeE ρ4 vs)) (fun _ _ => False) else I (pre ++ [x]) acc (wipeE ρ2 vs)) (fun _ _ => False))
  (en : ∀ acc ρ, I xs acc ρ → QC ρ acc) : Wx (rComp f rt re vs (xs.map enc) [] ρ) QC E := by
 have h : ∀ (ys pre : List α) (acc : List D) (ρ : Env), xs = pre ++ ys → I pre acc ρ → Wx (rComp f rt re vs (ys.map enc) acc ρ) QC E := by
  intro ys
  induction ys with
  | nil => intro pre acc ρ ha h; unfold rComp; exact wxo (en acc ρ (by rw [ha, List.append_nil]; exact h))
  | cons d ys ih =>
   intro pre acc ρ ha h
   obtain ⟨ρ1, e1, h1⟩ := st pre d ys acc ρ ha h
   rw [List.map_cons]
   unfold rComp
   simp only [e1]
   refine wx_bind (wx_dry (wx_mono h1 (fun ρ2 t q => ?_) (fun _ _ q => q)))
   cases t with
   | false => rw [if_neg Bool.false_ne_true] at q ⊢; exact ih (pre ++ [d]) acc _ (by rw [ha, List.append_assoc]; rfl) q
   | true =>
    rw [if_pos rfl] at q ⊢
    refine wx_bind (wx_dry (wx_mono q (fun ρ3 tp q => ?_) (fun _ _ q => q)))
    obtain ⟨ρ4, e, e4, hl, q⟩ := q
    simp only [e4]
    rw [if_pos hl]
    exact ih (pre ++ [d]) (acc ++ [e]) _ (by rw [ha, List.append_assoc]; rfl) q
 exact h xs [] [] ρ rfl h0
end
def RtQ (np : Nat) (Q : Rz → Env → Prop) (ρ : Env) : Tp → Prop
 | .fz d => Q (.fz d) (ioOf np ρ)
 | .ow u d => Q (.ow u d) (ioOf np ρ)
 | .tr d => Q (.tr d) (ioOf np ρ)
 | .sl _ => False
theorem wf_run {np n : Nat} {r : RS} {args : List (Fg × D)} {ρ0 : Env} {Q : Rz → Env → Prop} {E : Xn → Env → Prop} (hl : args.length = np) (h0 : args.map some ++ List.replicate (n - np) none = ρ0)
  (h : Ws r ρ0 (fun ρ => Q (.fz .none) (ioOf np ρ)) (fun _ => False) (fun _ => False) (RtQ np Q) (fun ρ x => E x (ioOf np ρ))) : Wf (runFn np n r args) Q E := by
 unfold runFn
 rw [if_pos hl, h0]
 unfold Ws at h
 generalize r ρ0 = o at h
 cases o with
 | stk => exact wxs h
 | er ρ x => exact wfe (wxe' h)
 | ok ρ fl =>
  have h := wxo' h
  cases fl with
  | nx => exact wfo h
  | bk => exact False.elim h
  | ct => exact False.elim h
  | rt t => cases t with
   | sl i => exact False.elim h
   | fz d => exact wfo h
   | ow u d => exact wfo h
   | tr d => exact wfo h
theorem we_ixSc {ρ : Env} {Q : Env → Tp → Prop} {E : XP} {i : Nat} {r : RE} {ds : List D} (hi : ρ[i]? = some (some (.s, .list ds))) (h : We r ρ (fun ρ1 tp => ∃ j n, rdT ρ1 tp = some (.int j) ∧ atI ds j = some (.int n) ∧ Q ρ1 (.fz (.int n))) E) : We (rIxSc i r) ρ Q E := by
 unfold We rIxSc
 rw [hi]
 refine wx_bind (wx_mono h (fun ρ1 t1 h1 => ?_) (fun _ _ q => q))
 obtain ⟨j, n, e1, e2, q⟩ := h1
 simp only [e1, e2]
 exact wxo q
theorem ws_dry {r : RS} {ρ : Env} {N B C : Env → Prop} {R : Env → Tp → Prop} {E : XP} (h : Ws r ρ N B C R (fun _ _ => False)) : Ws (fun ρ => (r ρ).dry) ρ N B C R E := wx_dry h
def WU (ρ : Env) (i : Nat) (g : Fg) (N : Env → Prop) : Prop := ∃ d, ρ[i]? = some (some (.l, d)) ∧ N (ρ.set i (some (g, d)))
theorem wu_ {ρ ρ' : Env} {i : Nat} {g : Fg} {d : D} {N : Env → Prop} (h1 : ρ[i]? = some (some (.l, d))) (s : SetTo ρ i (some (g, d)) ρ') (h : N ρ') : WU ρ i g N := ⟨d, h1, by rw [s.eq]; exact h⟩
section
variable {ρ ρ' ρ1 : Env} {N B C : Env → Prop} {R : Env → Tp → Prop} {E : XP} {i : Nat} {kds : List (D × D)} {r : RS} {g : Fg}
theorem ws_lockG (h : Ws r (ρ.set i (some (.l, .dict kds))) (fun ρ2 => WU ρ2 i g N) (fun ρ2 => WU ρ2 i g B) (fun ρ2 => WU ρ2 i g C) (fun ρ2 t => (∀ j, t ≠ .sl j) ∧ WU ρ2 i g fun ρ3 => R ρ3 t) (fun _ _ => False)) : Wx (rLockG i g kds r ρ) (flP N B C R) E := by
 unfold rLockG
 unfold Ws at h
 generalize r (ρ.set i (some (.l, .dict kds))) = o at h
 cases o with
 | stk => exact wxs h
 | er ρ2 x => exact False.elim (wxe' h)
 | ok ρ2 fl =>
  have h := wxo' h
  cases fl with
  | nx => obtain ⟨d, e, q⟩ := h; simp only [e]; exact wxo q
  | bk => obtain ⟨d, e, q⟩ := h; simp only [e]; exact wxo q
  | ct => obtain ⟨d, e, q⟩ := h; simp only [e]; exact wxo q
  | rt t =>
   obtain ⟨ht, d, e, q⟩ := h
   cases t with
   | sl j => exact absurd rfl (ht j)
   | fz d' => simp only [e]; exact wxo q
   | ow u d' => simp only [e]; exact wxo q
   | tr d' => simp only [e]; exact wxo q
class NotN (kds : List (D × D)) : Prop where
 h : isN (.dict kds) = false
instance : NotN [] := ⟨rfl⟩
instance {i : Int} {v : D} {l : List (D × D)} : NotN ((.int i, v) :: l) := ⟨rfl⟩
instance {i : Str} {v : D} {l : List (D × D)} : NotN ((.str i, v) :: l) := ⟨rfl⟩
instance {i : List D} {v : D} {l : List (D × D)} : NotN ((.tuple i, v) :: l) := ⟨rfl⟩
theorem notN_map {α : Type} {f : α → D × D} (h : ∀ x d, (f x).1 ≠ .list d) (l : List α) : NotN (l.map f) := ⟨by
 cases l with
 | nil => rfl
 | cons x t =>
  rw [List.map_cons]
  unfold isN
  split
  ·rename_i e
   injection e with e1
   injection e1 with e2
   exact absurd (congrArg Prod.fst e2) (h x _)
  ·rfl⟩
theorem ws_lockF (hi : ρ[i]? = some (some (.f, .dict kds))) (hE : noE ρ = true) (nn : NotN kds) (s : SetTo ρ i (some (.l, .dict kds)) ρ1) (h : Ws r ρ1 (fun ρ2 => WU ρ2 i .f N) (fun ρ2 => WU ρ2 i .f B) (fun ρ2 => WU ρ2 i .f C) (fun ρ2 t => (∀ j, t ≠ .sl j) ∧ WU ρ2 i .f fun ρ3 => R ρ3 t) (fun _ _ => False)) : Ws (rLock i r) ρ N B C R E := by
 have e : wk ρ (.sl i) = some (ρ, .dict kds) := by unfold wk stF; simp only [hi]
 unfold Ws rLock
 simp only [e, hi]
 rw [if_pos hE]
 simp only [nn.h, Bool.false_eq_true, if_false]
 exact ws_lockG (by rw [s.eq]; exact h)
theorem ws_lockB (hi : ρ[i]? = some (some (.b, .dict kds))) (hE : noE ρ = true) (nn : NotN kds) (s : SetTo ρ i (some (.l, .dict kds)) ρ1) (h : Ws r ρ1 (fun ρ2 => WU ρ2 i .b N) (fun ρ2 => WU ρ2 i .b B) (fun ρ2 => WU ρ2 i .b C) (fun ρ2 t => (∀ j, t ≠ .sl j) ∧ WU ρ2 i .b fun ρ3 => R ρ3 t) (fun _ _ => False)) : Ws (rLock i r) ρ N B C R E := by
 have e : wk ρ (.sl i) = some (ρ, .dict kds) := by unfold wk; simp only [hi]
 unfold Ws rLock
 simp only [e, hi]
 rw [if_pos hE]
 simp only [nn.h, Bool.false_eq_true, if_false]
 exact ws_lockG (by rw [s.eq]; exact h)
theorem ws_lockO {u : Bool} (hi : ρ[i]? = some (some (.o u false, .dict kds))) (s0 : SetTo ρ i (some (.f, .dict kds)) ρ') (hi2 : ρ'[i]? = some (some (.f, .dict kds))) (hE : noE ρ' = true) (nn : NotN kds) (s : SetTo ρ' i (some (.l, .dict kds)) ρ1) (h : Ws r ρ1 (fun ρ2 => WU ρ2 i .f N) (fun ρ2 => WU ρ2 i .f B) (fun ρ2 => WU ρ2 i .f C) (fun ρ2 t => (∀ j, t ≠ .sl j) ∧ WU ρ2 i .f fun ρ3 => R ρ3 t) (fun _ _ => False)) : Ws (rLock i r) ρ N B C R E := by
 have e : wk ρ (.sl i) = some (ρ', .dict kds) := by unfold wk stF; simp only [hi]; rw [s0.eq]
 unfold Ws rLock
 simp only [e, hi2]
 rw [if_pos hE]
 simp only [nn.h, Bool.false_eq_true, if_false]
 exact ws_lockG (by rw [s.eq]; exact h)
theorem ws_lockOO {u p : Bool} (hi : ρ[i]? = some (some (.o u p, .dict kds))) (hE : pl0 ρ = true) (s : SetTo ρ i (some (.l, .dict kds)) ρ1) (h : Ws r ρ1 (fun ρ2 => WU ρ2 i (.o u p) fun ρ3 => pl0 ρ3 = true ∧ N ρ3) (fun ρ2 => WU ρ2 i (.o u p) fun ρ3 => pl0 ρ3 = true ∧ B ρ3) (fun ρ2 => WU ρ2 i (.o u p) fun ρ3 => pl0 ρ3 = true ∧ C ρ3) (fun ρ2 t => (∀ j, t ≠ .sl j) ∧ WU ρ2 i (.o u p) fun ρ3 => pl0 ρ3 = true ∧ R ρ3 t) (fun _ _ => False)) : Ws (rLockO i r) ρ N B C R E := by
 unfold Ws rLockO
 simp only [hi]
 rw [if_pos hE]
 have q : Wx (rLockG i (.o u p) kds r ρ) (flP (fun ρ3 => pl0 ρ3 = true ∧ N ρ3) (fun ρ3 => pl0 ρ3 = true ∧ B ρ3) (fun ρ3 => pl0 ρ3 = true ∧ C ρ3) (fun ρ3 t => pl0 ρ3 = true ∧ R ρ3 t)) (fun _ _ => False) := ws_lockG (by rw [s.eq]; exact h)
 generalize rLockG i (.o u p) kds r ρ = o at q
 cases o with
 | stk => exact wxs q
 | er ρ2 x => exact False.elim (wxe' q)
 | ok ρ2 fl =>
  have q := wxo' q
  cases fl with
  | nx => simp only []; rw [if_pos q.1]; exact wxo q.2
  | bk => simp only []; rw [if_pos q.1]; exact wxo q.2
  | ct => simp only []; rw [if_pos q.1]; exact wxo q.2
  | rt t => simp only []; rw [if_pos q.1]; exact wxo q.2
theorem wi_itD {QI : Env → List D → Prop} (hi : ρ[i]? = some (some (.l, .dict kds))) (q : QI ρ (kds.map (·.1))) : Wi (rItD i) ρ QI E := by
 unfold Wi rItD; simp only [hi]; exact wxo q
end
end Vm
namespace Vm
open PySem PySem.Spec PyProof.Rows L2 Fz
class TpOf (z : Rz) (tp : outParam Tp) : Prop where
 eq : z.tp = tp
instance {d : D} : TpOf (.fz d) (.fz d) := ⟨rfl⟩
instance {u : Bool} {d : D} : TpOf (.ow u d) (.ow u d) := ⟨rfl⟩
section
variable {ρ ρ' ρ2 : Env} {Q : Env → Tp → Prop} {E : XP} {N : Env → Prop}
theorem o2_ {f : D → D → Option Rz} {t1 t2 : Tp} {d e : D} {z : Rz} {tp : Tp} (h1 : rdT ρ t1 = some d) (h2 : rdT ρ t2 = some e) (h3 : f d e = some z) (ht : TpOf z tp) (q : Q ρ tp) : WO2 f ρ t1 t2 Q := ⟨d, e, z, h1, h2, h3, by rw [ht.eq]; exact q⟩
theorem o1_ {f : D → Option Rz} {t1 : Tp} {d : D} {z : Rz} {tp : Tp} (h1 : rdT ρ t1 = some d) (h3 : f d = some z) (ht : TpOf z tp) (q : Q ρ tp) : WO1 f ρ t1 Q := ⟨d, z, h1, h3, by rw [ht.eq]; exact q⟩
theorem sl_ {f : D → Option Int → Option Int → Option Rz} {tp tp2 : Tp} {l h : Option Int} {d : D} {z : Rz} (h1 : rdT ρ tp = some d) (h2 : f d l h = some z) (ht : TpOf z tp2) (q : Q ρ tp2) : WSl f ρ tp l h Q := ⟨d, z, h1, h2, by rw [ht.eq]; exact q⟩
theorem au_ {i : Nat} {f : D → D → Option Rz} {tp tp2 : Tp} {d e : D} {z : Rz} (h1 : rdT ρ (.sl i) = some d) (h2 : rdT ρ tp = some e) (h3 : f d e = some z) (ht : TpOf z tp2) (q : WAsg ρ i tp2 N) : WAu i f ρ tp N := ⟨d, e, z, h1, h2, h3, by rw [ht.eq]; exact q⟩
theorem ch_ {f g : D → D → Option Rz} {c : RE} {e d : D} {t1 : Tp} {x : Bool} (h1 : rdT ρ t1 = some d) (h2 : f d e = some (.fz (.bool x))) (q : if x = true then We c ρ (fun ρ3 t3 => WO2 g ρ3 (.fz e) t3 Q) E else Q ρ (.fz (.bool false))) :
  ∃ e' d x, (Tp.fz e) = .fz e' ∧ rdT ρ t1 = some d ∧ f d e' = some (.fz (.bool x)) ∧ if x = true then We c ρ (fun ρ3 t3 => WO2 g ρ3 (.fz e') t3 Q) E else Q ρ (.fz (.bool false)) := ⟨e, d, x, rfl, h1, h2, q⟩
class BackTo (ρ : Env) (ms : List Bool) (tps : List Tp) (io : Env) (ρ2 : outParam Env) : Prop where
 eq : back ρ ms tps io = some ρ2
instance {io : Env} : BackTo ρ [] [] io ρ := ⟨by cases io <;> rfl⟩
instance {ms : List Bool} {tp : Tp} {tps : List Tp} {x : Option (Fg × D)} {io : Env} [h : BackTo ρ ms tps io ρ2] : BackTo ρ (false :: ms) (tp :: tps) (x :: io) ρ2 := ⟨by
 rw [← h.eq]
 cases tp <;> rfl⟩
class OwnAt (ρ : Env) (i : Nat) (p : outParam Bool) : Prop where
 eq : ∃ u d, ρ[i]? = some (some (.o u p, d))
instance {u p : Bool} {d : D} {l : Env} : OwnAt (some (.o u p, d) :: l) 0 p := ⟨u, d, rfl⟩
instance {a : Option (Fg × D)} {l : Env} {n : Nat} {p : Bool} [h : OwnAt l n p] : OwnAt (a :: l) (n + 1) p := ⟨by
 obtain ⟨u, d, e⟩ := h.eq
 exact ⟨u, d, by rw [List.getElem?_cons_succ]; exact e⟩⟩
instance {ms : List Bool} {i : Nat} {tps : List Tp} {u p : Bool} {d : D} {io : Env} [o : OwnAt ρ i p] [s : SetTo ρ i (some (.o u p, d)) ρ'] [h : BackTo ρ' ms tps io ρ2] : BackTo ρ (true :: ms) (.sl i :: tps) (some (.o u true, d) :: io) ρ2 := ⟨by
 obtain ⟨u0, d0, e⟩ := o.eq
 rw [← h.eq, ← s.eq]
 show (match ρ[i]? with
  | some (some (.o _ p, _)) => back (ρ.set i (some (.o u p, d))) ms tps io
  | _ => none) = _
 rw [e]⟩
instance {ms : List Bool} {u u' : Bool} {d d' : D} {tps : List Tp} {io : Env} [h : BackTo ρ ms tps io ρ2] : BackTo ρ (true :: ms) (.ow u d :: tps) (some (.o u' true, d') :: io) ρ2 := ⟨by rw [← h.eq]; rfl⟩
theorem c_ok {m : List (Fg × D) → FOut} {ms : List Bool} {tps : List Tp} {as : List (Fg × D)} {z : Rz} {io : Env} {tp : Tp} (h1 : (ms.length = tps.length ∧ once ms tps = true)) (h2 : pass ρ ms (melt ms tps) = some as) (h3 : m as = .ok z io) (h4 : BackTo ρ ms tps io ρ2) (h5 : TpOf z tp) (q : Q ρ2 tp) : WC m ms ρ tps Q E := wc_ok h1 h2 h3 h4.eq h5.eq q
theorem c_dok {m : List (Fg × D) → FOut} {ms : List Bool} {tps : List Tp} {as : List (Fg × D)} {z : Rz} {io : Env} {tp : Tp} (h1 : (ms.length = tps.length ∧ once ms tps = true)) (h2 : pass ρ ms (melt ms tps) = some as) (h3 : m as = .ok z io) (h4 : BackTo ρ ms tps io ρ2) (h5 : TpOf z tp) (q : Q ρ2 tp) : WC (mdry m) ms ρ tps Q E := wc_dok h1 h2 h3 h4.eq h5.eq q
theorem c_er {m : List (Fg × D) → FOut} {ms : List Bool} {tps : List Tp} {as : List (Fg × D)} {x : Xn} {io : Env} (h1 : (ms.length = tps.length ∧ once ms tps = true)) (h2 : pass ρ ms (melt ms tps) = some as) (h3 : m as = .er x io) (h4 : BackTo ρ ms tps io ρ2) (q : E ρ2 x) : WC m ms ρ tps Q E := wc_er h1 h2 h3 h4.eq q
end
def LSet (ds : List D) (n : Int) (e : D) (ds' : List D) : Prop := ∃ j, ixN ds.length n = some j ∧ ds.set j e = ds'
theorem lset0 {a e : D} {l : List D} : LSet (a :: l) 0 e (e :: l) := ⟨0, by simp [ixN], rfl⟩
theorem lset1 {a b e : D} {l : List D} : LSet (a :: b :: l) 1 e (a :: e :: l) := ⟨1, by simp [ixN]; omega, rfl⟩
theorem lset2 {a b c e : D} {l : List D} : LSet (a :: b :: c :: l) 2 e (a :: b :: e :: l) := ⟨2, by simp [ixN]; omega, rfl⟩
theorem lsetN {ds : List D} {k : Nat} {e : D} (h : k < ds.length) : LSet ds (k : Int) e (ds.set k e) := ⟨k, by simp [ixN, h], rfl⟩
theorem lsetM {α : Type} {f : α → D} {xs : List α} {k : Nat} {e : α} (h : k < xs.length) : LSet (xs.map f) (k : Int) (f e) ((xs.set k e).map f) := ⟨k, by simp [ixN, h], by rw [List.map_set]⟩
theorem lsetL {l : List D} {x e : D} : LSet (l ++ [x]) (-1) e (l ++ [e]) := ⟨l.length, by
 have h1 : (-1 + ((l.length : Int) + 1)).toNat = l.length := by omega
 have h2 : (1 : Int) ≤ (l.length : Int) + 1 := by omega
 simp [ixN, h1, h2], by simp⟩
theorem si_ {ρ ρ' : Env} {N : Env → Prop} {i : Nat} {ti : Tp} {e : D} {n : Int} {p : Bool} {ds ds' : List D} (h1 : rdT ρ ti = some (.int n)) (h2 : ρ[i]? = some (some (.o false p, .list ds))) (h3 : LSet ds n e ds') (s : SetTo ρ i (some (.o false p, .list ds')) ρ') (q : N ρ') : WSI i ρ ti e N := by
 obtain ⟨j, h3, h4⟩ := h3
 exact wsi_of h1 h2 h3 h4 s q
class PadTo (k : Nat) (l : outParam Env) : Prop where
 eq : List.replicate k none = l
instance : PadTo 0 [] := ⟨rfl⟩
instance {k : Nat} {l : Env} [h : PadTo k l] : PadTo (k + 1) (none :: l) := ⟨by rw [List.replicate_succ, h.eq]⟩
class EnvTo (args : List (Fg × D)) (k : Nat) (l : outParam Env) : Prop where
 eq : args.map some ++ List.replicate k none = l
instance {k : Nat} {l : Env} [h : PadTo k l] : EnvTo [] k l := ⟨h.eq⟩
instance {x : Fg × D} {as : List (Fg × D)} {k : Nat} {l : Env} [h : EnvTo as k l] : EnvTo (x :: as) k (some x :: l) := ⟨by rw [List.map_cons, List.cons_append, h.eq]⟩
theorem wf_run' {np n k : Nat} {r : RS} {args : List (Fg × D)} {ρ0 : Env} {Q : Rz → Env → Prop} {E : Xn → Env → Prop} (hl : args.length = np) (hn : n = k + np) (h0 : EnvTo args k ρ0)
  (h : Ws r ρ0 (fun ρ => Q (.fz .none) (ioOf np ρ)) (fun _ => False) (fun _ => False) (RtQ np Q) (fun ρ x => E x (ioOf np ρ))) : Wf (runFn np n r args) Q E := wf_run hl (by rw [hn, Nat.add_sub_cancel]; exact h0.eq) h
section
variable {i j : Int}
theorem q_add : oAdd (.int i) (.int j) = some (.fz (.int (i + j))) := rfl
theorem q_sub : oSub (.int i) (.int j) = some (.fz (.int (i - j))) := rfl
theorem q_lt : oLt (.int i) (.int j) = some (.fz (.bool (decide (i < j)))) := rfl
theorem q_le : oLe (.int i) (.int j) = some (.fz (.bool (decide (i ≤ j)))) := rfl
theorem q_gt : oGt (.int i) (.int j) = some (.fz (.bool (decide (j < i)))) := rfl
theorem q_ge : oGe (.int i) (.int j) = some (.fz (.bool (decide (j ≤ i)))) := rfl
theorem q_eqI : oEq (.int i) (.int j) = some (.fz (.bool (decide (i = j)))) := rfl
theorem q_neI : oNe (.int i) (.int j) = some (.fz (.bool (!decide (i = j)))) := rfl
theorem q_eqS {i j : Str} : oEq (.str i) (.str j) = some (.fz (.bool (decide (i = j)))) := rfl
theorem q_neS {i j : Str} : oNe (.str i) (.str j) = some (.fz (.bool (!decide (i = j)))) := rfl
theorem q_eqB {i j : Bool} : oEq (.bool i) (.bool j) = some (.fz (.bool (decide (i = j)))) := rfl
theorem q_neB {i j : Bool} : oNe (.bool i) (.bool j) = some (.fz (.bool (!decide (i = j)))) := rfl
theorem q_neg : oNeg (.int i) = some (.fz (.int (-i))) := rfl
theorem q_max : oMax (.int i) (.int j) = some (.fz (.int (max i j))) := by
 show some (Rz.fz (.int (if j > i then j else i))) = _
 congr 3
 split <;> omega
theorem q_min : oMin (.int i) (.int j) = some (.fz (.int (min i j))) := by
 show some (Rz.fz (.int (if j < i then j else i))) = _
 congr 3
 split <;> omega
theorem q_mul (h : (-1000000000000 ≤ j ∧ j ≤ 1000000000000) ∨ (-1000000000000 ≤ i ∧ i ≤ 1000000000000)) : oMul (.int i) (.int j) = some (.fz (.int (i * j))) := by
 show (if cMul i j = true then some (Rz.fz (.int (i * j))) else none) = _
 rw [if_pos (by unfold cMul; simp only [decide_eq_true_eq]; omega)]
theorem q_mod (h : 0 < j) : oMod (.int i) (.int j) = some (.fz (.int (i % j))) := by
 show (if cMod i j = true then some (Rz.fz (.int (i % j))) else none) = _
 rw [if_pos (by unfold cMod; simp only [decide_eq_true_eq]; omega)]
theorem q_div (h : 0 < j ∧ j ≤ 1000000000000000) : oDiv (.int i) (.int j) = some (.fz (.int (i / j))) := by
 show (if cDiv i j = true then some (Rz.fz (.int (i / j))) else none) = _
 rw [if_pos (by unfold cDiv; simp only [decide_eq_true_eq]; omega)]
theorem q_pow12 : oPow (.int 10) (.int 12) = some (.fz (.int 1000000000000)) := rfl
theorem q_pow8 : oPow (.int 10) (.int 8) = some (.fz (.int 100000000)) := rfl
def big59 : Int := 10 ^ 59
theorem q_pow59 : oPow (.int 10) (.int 59) = some (.fz (.int big59)) := by
 show (if cPow 10 59 = true then some (Rz.fz (.int (10 ^ (Int.toNat 59)))) else none) = _
 rw [if_pos (by decide)]; rfl
theorem q_abs : oAbs (.int i) = some (.fz (.int (if i < 0 then -i else i))) := rfl
theorem q_isN {d : D} : oIsN d .none = some (.fz (.bool (isNone d))) := by cases d <;> rfl
theorem q_notN {d : D} : oNotN d .none = some (.fz (.bool (!isNone d))) := by cases d <;> rfl
theorem q_lenL {ds : List D} : oLen (.list ds) = some (.fz (.int ds.length)) := rfl
theorem q_lenT {ds : List D} : oLen (.tuple ds) = some (.fz (.int ds.length)) := rfl
theorem q_lenLM {α : Type} {f : α → D} {xs : List α} : oLen (.list (xs.map f)) = some (.fz (.int xs.length)) := by show some (Rz.fz (.int ((xs.map f).length))) = _; rw [List.length_map]
theorem q_lenTM {α : Type} {f : α → D} {xs : List α} : oLen (.tuple (xs.map f)) = some (.fz (.int xs.length)) := by show some (Rz.fz (.int ((xs.map f).length))) = _; rw [List.length_map]
end
theorem atI_nat {α : Type} {l : List α} {k : Nat} (h : k < l.length) : atI l (k : Int) = some l[k] := by simp [atI, ixN, h]
theorem atI_map {α β : Type} {l : List α} {f : α → β} {k : Nat} (h : k < l.length) : atI (l.map f) (k : Int) = some (f l[k]) := by rw [atI_nat (by rw [List.length_map]; exact h)]; simp
theorem atI_last {α : Type} {l : List α} {x : α} : atI (l ++ [x]) (-1) = some x := by
 have h1 : (-1 + ((l.length : Int) + 1)).toNat = l.length := by omega
 have h2 : (1 : Int) ≤ (l.length : Int) + 1 := by omega
 simp [atI, ixN, h1, h2]
theorem q_ixL {ds : List D} {i : Int} {d : D} (h : atI ds i = some d) : oIxL (.list ds) (.int i) = some (.fz d) := by
 show (match atI ds i with | some d => some (Rz.fz d) | none => none) = _
 rw [h]
theorem q_ixT {ds : List D} {i : Int} {d : D} (h : atI ds i = some d) : oIxT (.tuple ds) (.int i) = some (.fz d) := by
 show (match atI ds i with | some d => some (Rz.fz d) | none => none) = _
 rw [h]
theorem q_catL {ds es : List D} (h : ds.length + es.length ≤ sizeLine) : oCatL (.list ds) (.list es) = some (.ow false (.list (ds ++ es))) := if_pos h
theorem q_catT {ds es : List D} (h : ds.length + es.length ≤ sizeLine) : oCatT (.tuple ds) (.tuple es) = some (.fz (.tuple (ds ++ es))) := if_pos h
theorem q_app {ds : List D} {e : D} (h : ds.length < sizeLine) : mAppend ds [e] = some (ds ++ [e], .none) := if_pos h
theorem sz_ge : 1000000 ≤ sizeLine := by decide
theorem sz_lt {n : Nat} (h : n ≤ 1000000) : n ≤ sizeLine := Nat.le_trans h sz_ge
theorem sz_lt' {n : Nat} (h : n < 1000000) : n < sizeLine := Nat.lt_of_lt_of_le h sz_ge
theorem q_list {ds : List D} : oList (.list ds) = some (.ow false (.list ds)) := rfl
theorem q_listT {ds : List D} : oList (.tuple ds) = some (.ow false (.list ds)) := rfl
theorem q_tuple {ds : List D} : oTuple (.list ds) = some (.fz (.tuple ds)) := rfl
theorem q_tupleT {ds : List D} : oTuple (.tuple ds) = some (.fz (.tuple ds)) := rfl
theorem isi_of {n : String} {d : D} {b : Bool} (h1 : tyOk d = true) (s : String) (h2 : dTy d = s) (h3 : kitB s n = some b) : oIsi n d = some (.fz (.bool b)) := by
 unfold oIsi; rw [if_pos h1, h2, h3]
theorem q_isi_list_list {l : List D} : oIsi "list" (.list l) = some (.fz (.bool true)) := isi_of rfl "list" rfl (by decide +kernel)
theorem q_isi_list_tuple {l : List D} : oIsi "list" (.tuple l) = some (.fz (.bool false)) := isi_of rfl "tuple" rfl (by decide +kernel)
theorem q_isi_list_int {i : Int} : oIsi "list" (.int i) = some (.fz (.bool false)) := isi_of rfl "int" rfl (by decide +kernel)
theorem q_isi_list_bool {b : Bool} : oIsi "list" (.bool b) = some (.fz (.bool false)) := isi_of rfl "bool" rfl (by decide +kernel)
theorem q_isi_list_str {s : Str} : oIsi "list" (.str s) = some (.fz (.bool false)) := isi_of rfl "str" rfl (by decide +kernel)
theorem q_isi_list_none  : oIsi "list" (.none) = some (.fz (.bool false)) := isi_of rfl "NoneType" rfl (by decide +kernel)
theorem q_isi_tuple_list {l : List D} : oIsi "tuple" (.list l) = some (.fz (.bool false)) := isi_of rfl "list" rfl (by decide +kernel)
theorem q_isi_tuple_tuple {l : List D} : oIsi "tuple" (.tuple l) = some (.fz (.bool true)) := isi_of rfl "tuple" rfl (by decide +kernel)
theorem q_isi_tuple_int {i : Int} : oIsi "tuple" (.int i) = some (.fz (.bool false)) := isi_of rfl "int" rfl (by decide +kernel)
theorem q_isi_tuple_bool {b : Bool} : oIsi "tuple" (.bool b) = some (.fz (.bool false)) := isi_of rfl "bool" rfl (by decide +kernel)
theorem q_isi_tuple_str {s : Str} : oIsi "tuple" (.str s) = some (.fz (.bool false)) := isi_of rfl "str" rfl (by decide +kernel)
theorem q_isi_tuple_none  : oIsi "tuple" (.none) = some (.fz (.bool false)) := isi_of rfl "NoneType" rfl (by decide +kernel)
theorem q_isi_int_list {l : List D} : oIsi "int" (.list l) = some (.fz (.bool false)) := isi_of rfl "list" rfl (by decide +kernel)
theorem q_isi_int_tuple {l : List D} : oIsi "int" (.tuple l) = some (.fz (.bool false)) := isi_of rfl "tuple" rfl (by decide +kernel)
theorem q_isi_int_int {i : Int} : oIsi "int" (.int i) = some (.fz (.bool true)) := isi_of rfl "int" rfl (by decide +kernel)
theorem q_isi_int_bool {b : Bool} : oIsi "int" (.bool b) = some (.fz (.bool true)) := isi_of rfl "bool" rfl (by decide +kernel)
theorem q_isi_int_str {s : Str} : oIsi "int" (.str s) = some (.fz (.bool false)) := isi_of rfl "str" rfl (by decide +kernel)
theorem q_isi_int_none  : oIsi "int" (.none) = some (.fz (.bool false)) := isi_of rfl "NoneType" rfl (by decide +kernel)
theorem q_isi_bool_list {l : List D} : oIsi "bool" (.list l) = some (.fz (.bool false)) := isi_of rfl "list" rfl (by decide +kernel)
theorem q_isi_bool_tuple {l : List D} : oIsi "bool" (.tuple l) = some (.fz (.bool false)) := isi_of rfl "tuple" rfl (by decide +kernel)
theorem q_isi_bool_int {i : Int} : oIsi "bool" (.int i) = some (.fz (.bool false)) := isi_of rfl "int" rfl (by decide +kernel)
theorem q_isi_bool_bool {b : Bool} : oIsi "bool" (.bool b) = some (.fz (.bool true)) := isi_of rfl "bool" rfl (by decide +kernel)
theorem q_isi_bool_str {s : Str} : oIsi "bool" (.str s) = some (.fz (.bool false)) := isi_of rfl "str" rfl (by decide +kernel)
theorem q_isi_bool_none  : oIsi "bool" (.none) = some (.fz (.bool false)) := isi_of rfl "NoneType" rfl (by decide +kernel)
theorem q_isi_str_list {l : List D} : oIsi "str" (.list l) = some (.fz (.bool false)) := isi_of rfl "list" rfl (by decide +kernel)
theorem q_isi_str_tuple {l : List D} : oIsi "str" (.tuple l) = some (.fz (.bool false)) := isi_of rfl "tuple" rfl (by decide +kernel)
theorem q_isi_str_int {i : Int} : oIsi "str" (.int i) = some (.fz (.bool false)) := isi_of rfl "int" rfl (by decide +kernel)
theorem q_isi_str_bool {b : Bool} : oIsi "str" (.bool b) = some (.fz (.bool false)) := isi_of rfl "bool" rfl (by decide +kernel)
theorem q_isi_str_str {s : Str} : oIsi "str" (.str s) = some (.fz (.bool true)) := isi_of rfl "str" rfl (by decide +kernel)
theorem q_isi_str_none  : oIsi "str" (.none) = some (.fz (.bool false)) := isi_of rfl "NoneType" rfl (by decide +kernel)
theorem q_isi_dict_list {l : List D} : oIsi "dict" (.list l) = some (.fz (.bool false)) := isi_of rfl "list" rfl (by decide +kernel)
theorem q_isi_dict_tuple {l : List D} : oIsi "dict" (.tuple l) = some (.fz (.bool false)) := isi_of rfl "tuple" rfl (by decide +kernel)
theorem q_isi_dict_int {i : Int} : oIsi "dict" (.int i) = some (.fz (.bool false)) := isi_of rfl "int" rfl (by decide +kernel)
theorem q_isi_dict_bool {b : Bool} : oIsi "dict" (.bool b) = some (.fz (.bool false)) := isi_of rfl "bool" rfl (by decide +kernel)
theorem q_isi_dict_str {s : Str} : oIsi "dict" (.str s) = some (.fz (.bool false)) := isi_of rfl "str" rfl (by decide +kernel)
theorem q_isi_dict_none  : oIsi "dict" (.none) = some (.fz (.bool false)) := isi_of rfl "NoneType" rfl (by decide +kernel)
theorem q_eqD {d e : D} {b : Bool} (h1 : SeqAt.shaped d = true) (h2 : SeqAt.shaped e = true) (h3 : PyData.eqv d e = b) : oEqD d e = some (.fz (.bool b)) := by
 unfold oEqD; rw [h1, h2, h3]; rfl
theorem q_neD {d e : D} {b : Bool} (h1 : SeqAt.shaped d = true) (h2 : SeqAt.shaped e = true) (h3 : PyData.eqv d e = b) : oNeD d e = some (.fz (.bool !b)) := by
 unfold oNeD; rw [h1, h2, h3]; rfl
end Vm
namespace Vm
open PySem PySem.Spec PyProof.Rows L2 Fz
def T (kv : List (Int × Int)) : List (D × D) := kv.map fun p => (PyData.int p.1, PyData.int p.2)
instance {kv : List (Int × Int)} : NotN (T kv) := notN_map (fun x d h => by dsimp only at h; cases h) kv
def lk (kv : List (Int × Int)) (k : Int) : Option Int := (kv.find? fun p => decide (p.1 = k)).map (·.2)
theorem sameK_int (k i : Int) : sameK (.inl (.inl k)) (.int i) = decide (i = k) := by simp [sameK, key1]
theorem lookT (kv : List (Int × Int)) (k : Int) : lookD (T kv) (.inl (.inl k)) = (lk kv k).map PyData.int := by
 induction kv with
 | nil => rfl
 | cons p r ih =>
  unfold T lookD lk at ih ⊢
  rw [List.map_cons, List.find?_cons, List.find?_cons]
  dsimp only
  rw [sameK_int]
  cases h : decide (p.1 = k) with
  | true => rfl
  | false => exact ih
theorem lk_self {kv : List (Int × Int)} (hn : (kv.map (·.1)).Nodup) : ∀ p ∈ kv, lk kv p.1 = some p.2 := by
 induction kv with
 | nil => intro p hp; simp at hp
 | cons q r ih =>
  intro p hp
  rw [List.map_cons, List.nodup_cons] at hn
  unfold lk
  rw [List.find?_cons]
  rcases List.mem_cons.mp hp with rfl | hp
  ·simp
  ·have : q.1 ≠ p.1 := fun e => hn.1 (e ▸ List.mem_map.mpr ⟨p, hp, rfl⟩)
   simp only [this, decide_false]
   exact ih hn.2 p hp
theorem kindT {kv : List (Int × Int)} (h : kv ≠ []) : kindD (T kv) = some false := by
 cases kv with
 | nil => exact absurd rfl h
 | cons p r => rfl
theorem lenT (kv : List (Int × Int)) : (T kv).length = kv.length := by unfold T; rw [List.length_map]
theorem keysT (kv : List (Int × Int)) : intKeys (T kv) = some (kv.map (·.1)) := by
 induction kv with
 | nil => rfl
 | cons p r ih =>
  show (match intKeys (T r) with | some l => some (p.1 :: l) | none => none) = _
  rw [ih]; rfl
theorem eqv_ints (a v : Int) : PyData.eqv (.int a) (.int v) = decide (a = v) := by
 by_cases h : a = v <;> simp [PyData.eqv, h]
theorem any_ints (v : Int) : ∀ l : List Int, ((l.map PyData.int).any fun e => PyData.eqv e (.int v)) = decide (v ∈ l)
 | [] => rfl
 | a :: r => by
  rw [List.map_cons, List.any_cons, any_ints v r, eqv_ints]
  by_cases h : a = v
  ·subst h; simp
  ·have h' : ¬ v = a := fun e => h e.symm
   by_cases g : v ∈ r <;> simp [h, h', g]
theorem in_ints (v : Int) (l : List Int) : oIn false (.int v) (.list (l.map PyData.int)) = some (.fz (.bool (decide (v ∈ l)))) := by
 unfold oIn
 dsimp only
 have h : (flatD (.int v) && (l.map PyData.int).all flatD) = true := by
  rw [Bool.and_eq_true]
  refine ⟨rfl, List.all_eq_true.mpr fun d hd => ?_⟩
  obtain ⟨i, _, rfl⟩ := List.mem_map.mp hd
  rfl
 rw [if_pos h, if_neg Bool.false_ne_true, any_ints]
theorem din_T {kv : List (Int × Int)} (hk : kv ≠ []) (v : Int) : oDIn true (.int v) (.dict (T kv)) = some (.fz (.bool (lk kv v).isNone)) := by
 have e : inD (T kv) (.int v) = some (lk kv v).isSome := by
  unfold inD
  rw [kindT hk]
  show (match keyOf false (.int v) with | some kk => some (lookD (T kv) kk).isSome | none => none) = _
  show some (lookD (T kv) (.inl (.inl v))).isSome = _
  rw [lookT]
  cases lk kv v <;> rfl
 unfold oDIn
 dsimp only
 rw [e]
 cases lk kv v <;> rfl
theorem dget_T {kv : List (Int × Int)} (hk : kv ≠ []) {v x : Int} (h : lk kv v = some x) : oDGet (.dict (T kv)) (.int v) = some (.fz (.int x)) := by
 unfold oDGet
 dsimp only
 rw [kindT hk]
 show (match lookD (T kv) (.inl (.inl v)) with | some d => some (Rz.fz d) | none => none) = _
 rw [lookT, h]; rfl
theorem nodup_len : ∀ {l m : List Int}, l.Nodup → (∀ x ∈ l, x ∈ m) → l.length ≤ m.length
 | [], _, _, _ => Nat.zero_le _
 | a :: r, m, hn, hs => by
  rw [List.nodup_cons] at hn
  have ha : a ∈ m := hs a List.mem_cons_self
  have h := nodup_len (l := r) (m := m.erase a) hn.2 fun x hx => (List.mem_erase_of_ne (show x ≠ a from fun e => by subst e; exact hn.1 hx)).mpr (hs x (List.mem_cons_of_mem _ hx))
  rw [List.length_erase_of_mem ha] at h
  have : 0 < m.length := List.length_pos_of_mem ha
  rw [List.length_cons]
  omega
theorem rgD_len (i : Int) (n : Nat) : (rgD i n).length = n := by unfold rgD; rw [List.length_map, List.length_range]
theorem q_dget {kv : List (Int × Int)} {v x : Int} (h : lk kv v = some x) : oDGet (.dict (T kv)) (.int v) = some (.fz (.int x)) := dget_T (fun e => by subst e; exact nomatch h) h
theorem q_din {kv : List (Int × Int)} {v : Int} (hk : kv ≠ []) : oDIn false (.int v) (.dict (T kv)) = some (.fz (.bool (lk kv v).isSome)) := by
 have e : inD (T kv) (.int v) = some (lk kv v).isSome := by
  unfold inD
  rw [kindT hk]
  show some (lookD (T kv) (.inl (.inl v))).isSome = _
  rw [lookT]
  cases lk kv v <;> rfl
 unfold oDIn
 dsimp only
 rw [e]
 cases lk kv v <;> rfl
theorem q_dnotin {kv : List (Int × Int)} {v : Int} (hk : kv ≠ []) : oDIn true (.int v) (.dict (T kv)) = some (.fz (.bool (lk kv v).isNone)) := din_T hk v
theorem atI_lastM {α : Type} {f : α → D} {l : List α} {x : α} : atI ((l ++ [x]).map f) (-1) = some (f x) := by rw [List.map_append]; exact atI_last
theorem appM {α : Type} {f : α → D} {l : List α} {x : α} : l.map f ++ [f x] = (l ++ [x]).map f := by rw [List.map_append]; rfl
end Vm
namespace Vm
open PySem PySem.Spec PyProof.Rows L2 Fz
structure Pu where
 a : Int
 b : Int
 h : 0 ≤ b ∧ b < 2147483647
def Pu.nx (p : Pu) : Pu := ⟨p.a, (p.b * 48271 + 12345) % 2147483647, Int.emod_nonneg _ (by decide), Int.emod_lt_of_pos _ (by decide)⟩
def Pu.up (p : Pu) (n : Int) : Pu := if 0 < p.a then ⟨p.a / n, p.b, p.h⟩ else if 100000000 < n then p.nx.nx else p.nx
theorem q_divW {i j : Int} (h : 0 < j) (h2 : j ≤ 10 ^ 60) : oDiv (.int i) (.int j) = some (.fz (.int (i / j))) := by
 show (if cDiv i j = true then some (Rz.fz (.int (i / j))) else none) = _
 rw [if_pos (by unfold cDiv; simp only [decide_eq_true_eq]; omega)]
theorem pick {α : Type} {l : List α} {i : Int} (f : α → D) (h : 0 ≤ i ∧ i < l.length) : ∃ x ∈ l, atI (l.map f) i = some (f x) := by
 obtain ⟨j, rfl⟩ : ∃ j : Nat, i = (j : Int) := ⟨i.toNat, by omega⟩
 have hj : j < l.length := by omega
 exact ⟨l[j], List.getElem_mem hj, atI_map hj⟩
end Vm
namespace Vm
open PySem PySem.Spec PyProof.Rows L2 Fz
section
variable {ρ ρ' : Env} {N B C : Env → Prop} {R : Env → Tp → Prop} {E : XP} {QC : Env → List D → Prop} {α : Type}
theorem wx_lcf {f : Env → D → Option Env} {rt : RT} {re : RE} {vs : List Nat} {xs : List α} (enc : α → D) (c : α → Bool) (g : α → D) (hl : xs.length ≤ 1000000) (hw : WipeTo ρ vs ρ')
  (st : ∀ x ∈ xs, WG f ρ' (enc x) fun ρ1 => Wt rt ρ1 (fun ρ2 t => t = c x ∧ if c x = true then We re ρ2 (fun ρ3 tp => WSt ρ3 tp fun ρ4 e => e = g x ∧ wipeE ρ4 vs = ρ) (fun _ _ => False) else wipeE ρ2 vs = ρ) (fun _ _ => False))
  (q : QC ρ ((xs.filter c).map g)) : Wx (rComp f rt re vs (xs.map enc) [] ρ) QC E := by
 refine wx_comp enc (fun pre acc ρ1 => ρ1 = ρ ∧ acc = (pre.filter c).map g) ⟨rfl, rfl⟩ ?_ ?_
 ·rintro pre x post acc ρ1 hx ⟨rfl, rfl⟩
  obtain ⟨ρ2, e, h⟩ := st x (by rw [hx]; simp)
  have hlen : ((pre.filter c).map g).length < sizeLine := by
   have h1 := List.length_filter_le c pre
   have h2 := congrArg List.length hx
   rw [List.length_append, List.length_cons] at h2
   rw [List.length_map]
   exact sz_lt' (by omega)
  refine ⟨ρ2, by rw [hw.eq]; exact e, wx_mono h ?_ (fun _ _ q => q)⟩
  rintro ρ3 t ⟨rfl, h⟩
  cases hc : c x with
  | true =>
   rw [hc, if_pos rfl] at h
   rw [if_pos rfl]
   refine wx_mono h ?_ (fun _ _ q => q)
   rintro ρ4 tp ⟨ρ5, d, e5, rfl, hw⟩
   refine ⟨ρ5, _, e5, hlen, hw, ?_⟩
   rw [List.filter_append, List.map_append]
   simp [hc]
  | false =>
   rw [hc, if_neg Bool.false_ne_true] at h
   rw [if_neg Bool.false_ne_true]
   refine ⟨h, ?_⟩
   rw [List.filter_append, List.map_append]
   simp [hc]
 ·rintro acc ρ1 ⟨rfl, rfl⟩
  exact q
theorem wx_lcm {f : Env → D → Option Env} {re : RE} {vs : List Nat} {xs : List α} (enc : α → D) (g : α → D) (hl : xs.length ≤ 1000000) (hw : WipeTo ρ vs ρ')
  (st : ∀ x ∈ xs, WG f ρ' (enc x) fun ρ2 => We re ρ2 (fun ρ3 tp => WSt ρ3 tp fun ρ4 e => e = g x ∧ wipeE ρ4 vs = ρ) (fun _ _ => False))
  (q : QC ρ (xs.map g)) : Wx (rComp f (fun ρ => .ok ρ true) re vs (xs.map enc) [] ρ) QC E := by
 refine wx_lcf enc (fun _ => true) g hl hw (fun x hx => ?_) ?_
 ·obtain ⟨ρ2, e, h⟩ := st x hx
  exact ⟨ρ2, e, wxo ⟨rfl, by rw [if_pos rfl]; exact h⟩⟩
 ·have : xs.filter (fun _ => true) = xs := List.filter_eq_self.mpr (fun _ _ => rfl)
  rw [this]; exact q
theorem ws_whileN {c : RT} {b : RS} (I : Nat → Env → Prop) (st : ∀ k ρ, I k ρ → Wt c ρ (fun ρ1 x => if x = true then ∃ k', k = k' + 1 ∧ Ws b ρ1 (I k') N (I k') R E else N ρ1) E) :
  ∀ (n k : Nat) (ρ : Env), k < n → I k ρ → Ws (rWhile c b n) ρ N B C R E
 | 0, k, ρ, h, _ => absurd h (Nat.not_lt_zero _)
 | n + 1, k, ρ, hk, h0 => by
  refine ws_while1 (wx_mono (st k ρ h0) (fun ρ1 x q => ?_) (fun _ _ q => q))
  cases x with
  | false => exact q
  | true =>
   rw [if_pos rfl] at q ⊢
   obtain ⟨k', rfl, q⟩ := q
   exact ws_mono q (fun ρ h => ws_whileN I st n k' ρ (by omega) h) (fun _ h => h) (fun ρ h => ws_whileN I st n k' ρ (by omega) h) (fun _ _ h => h) (fun _ _ h => h)
end
def pgD (ws : List Int) : D := .tuple (ws.map PyData.int)
theorem rep0 (n : Nat) : (List.replicate n [PyData.int 0]).flatten = (List.replicate n (0 : Int)).map PyData.int := by
 induction n with
 | zero => rfl
 | succ n ih => rw [List.replicate_succ, List.replicate_succ, List.flatten_cons, List.map_cons, ih]; rfl
theorem q_rep0 {n : Int} (h : -1000 ≤ n ∧ n ≤ 1000) : oRepT (.tuple [.int 0]) (.int n) = some (.fz (.tuple ((List.replicate n.toNat (0 : Int)).map PyData.int))) := by
 show (if (!([PyData.int 0] : List D).isEmpty && decide (-1000 ≤ n ∧ n ≤ 1000 ∧ ([PyData.int 0] : List D).length ≤ 1000)) = true then some (Rz.fz (.tuple (List.replicate n.toNat [PyData.int 0]).flatten)) else none) = _
 rw [if_pos (by simp; omega), rep0]
theorem q_catTM {α : Type} {f : α → D} {xs ys : List α} (h : xs.length + ys.length ≤ 1000000) : oCatT (.tuple (xs.map f)) (.tuple (ys.map f)) = some (.fz (.tuple ((xs ++ ys).map f))) := by
 rw [q_catT (sz_lt (by rw [List.length_map, List.length_map]; exact h)), List.map_append]
theorem q_catLM {α : Type} {f : α → D} {xs ys : List α} (h : xs.length + ys.length ≤ 1000000) : oCatL (.list (xs.map f)) (.list (ys.map f)) = some (.ow false (.list ((xs ++ ys).map f))) := by
 rw [q_catL (sz_lt (by rw [List.length_map, List.length_map]; exact h)), List.map_append]
theorem cut_to {ds : List D} {j : Nat} : cutL ds none (some (j : Int)) = ds.take j := by
 unfold cutL
 rw [HT.sIx_none, HT.sIx_nat, List.drop_zero, Nat.sub_zero]
 rcases Nat.le_total j ds.length with h | h
 ·rw [Nat.min_eq_left h]
 ·rw [Nat.min_eq_right h, List.take_length, List.take_of_length_le h]
theorem cut_from {ds : List D} {i : Nat} : cutL ds (some (i : Int)) none = ds.drop i := by
 unfold cutL
 rw [HT.sIx_nat]
 show (ds.drop (min i ds.length)).take (HT.sIx ds.length ds.length none - _) = _
 have : HT.sIx ds.length ds.length none = ds.length := by rw [HT.sIx_none]
 rw [this]
 by_cases h : i ≤ ds.length
 ·rw [Nat.min_eq_left h, List.take_of_length_le (by rw [List.length_drop]; omega)]
 ·rw [Nat.min_eq_right (by omega), List.drop_of_length_le (Nat.le_refl _), List.drop_of_length_le (by omega)]; simp
def WR3 (ρ : Env) (tps : List Tp) (QI : Env → List D → Prop) : Prop := ∃ i j c : Int, rdTs ρ tps = some [.int i, .int j, .int c] ∧ c ≠ 0 ∧ c.natAbs < 1073741824 ∧ Builtin.Range.small i j c = true ∧ Builtin.Range.rangeSize i j c = ((Builtin.Range.rangeSize i j c).toNat : Int) ∧ QI ρ (rg3D i c (Builtin.Range.rangeSize i j c).toNat)
theorem wi_rng3 {ρ : Env} {E : XP} {QI : Env → List D → Prop} {a : RA} (h : Wa a ρ (fun ρ1 tps => WR3 ρ1 tps QI) E) : Wi (rRng3 a) ρ QI E :=
 wx_bind (wx_mono h (fun ρ1 tps ⟨i, j, c, e, h1, h2, h3, h4, q⟩ => by simp only [e]; rw [if_pos ⟨h1, h2, h3, h4⟩]; exact wxo q) (fun _ _ q => q))
def WMt (f : List D → Option Rz) (ρ : Env) (tps : List Tp) (Q : Env → Tp → Prop) : Prop := ∃ ds z, rdTs ρ tps = some ds ∧ f ds = some z ∧ Q ρ z.tp
def WMo (ok : D → Bool) (ρ : Env) (t1 : Tp) (P : Prop) : Prop := ∃ d, rdT ρ t1 = some d ∧ ok d = true ∧ P
theorem mo_ {ok : D → Bool} {ρ : Env} {t1 : Tp} {P : Prop} {d : D} (h1 : rdT ρ t1 = some d) (h2 : ok d = true) (q : P) : WMo ok ρ t1 P := ⟨d, h1, h2, q⟩
theorem we_meth {ρ : Env} {Q : Env → Tp → Prop} {E : XP} {ok : D → Bool} {f : List D → Option Rz} {o : RE} {a : RA} (h : We o ρ (fun ρ1 t1 => WMo ok ρ1 t1 (Wa a ρ1 (fun ρ2 tps => WMt f ρ2 (t1 :: tps) Q) E)) E) : We (rMeth ok f o a) ρ Q E :=
 wx_bind (wx_mono h (fun ρ1 t1 ⟨d, e1, e2, h2⟩ => by
  simp only [e1]
  rw [if_pos e2]
  refine wx_bind (wx_mono h2 (fun ρ2 tps ⟨ds, z, e3, e4, q⟩ => ?_) (fun _ _ q => q))
  simp only [e3, e4]
  exact wxo q) (fun _ _ q => q))
theorem mt_ {ρ : Env} {Q : Env → Tp → Prop} {f : List D → Option Rz} {tps : List Tp} {ds : List D} {z : Rz} {tp : Tp} (h1 : rdTs ρ tps = some ds) (h2 : f ds = some z) (h3 : TpOf z tp) (q : Q ρ tp) : WMt f ρ tps Q := ⟨ds, z, h1, h2, by rw [h3.eq]; exact q⟩
theorem q_count {ns : List Int} {k : Int} : oCount [.list (ns.map PyData.int), .int k] = some (.fz (.int (ns.count k : Nat))) := by
 show (match intsD (ns.map PyData.int) with | some ns => some (Rz.fz (.int (ns.count k : Nat))) | none => none) = _
 rw [intsD_map]
def tbF (n : Nat) (f : Int → Int) : List (Int × Int) := (List.range n).map fun i : Nat => (3 + (i : Int), f (3 + (i : Int)))
def k3 (k : Nat) : List Int := (List.range k).map fun i : Nat => 3 + (i : Int)
theorem k3_mem {k : Nat} {x : Int} : x ∈ k3 k ↔ 3 ≤ x ∧ x < 3 + k := by
 unfold k3
 rw [List.mem_map]
 constructor
 ·rintro ⟨i, hi, rfl⟩; rw [List.mem_range] at hi; omega
 ·rintro ⟨h1, h2⟩; exact ⟨(x - 3).toNat, by rw [List.mem_range]; omega, by omega⟩
theorem k3_len (k : Nat) : (k3 k).length = k := by unfold k3; simp
theorem tbF_keys (n : Nat) (f : Int → Int) : (tbF n f).map (·.1) = k3 n := by unfold tbF k3; rw [List.map_map]; rfl
theorem tbF_len (n : Nat) (f : Int → Int) : (tbF n f).length = n := by unfold tbF; simp
theorem tbF_ne {n : Nat} {f : Int → Int} (h : 0 < n) : tbF n f ≠ [] := fun e => by have := tbF_len n f; rw [e] at this; simp at this; omega
theorem k3_sorted (k : Nat) : (k3 k).Pairwise (· ≤ ·) := by
 unfold k3
 refine List.pairwise_map.mpr (List.pairwise_lt_range.imp ?_)
 intro x y h; omega
theorem k3_nodup (k : Nat) : (k3 k).Nodup := by
 unfold k3
 rw [List.nodup_iff_pairwise_ne]
 refine (List.pairwise_map.mpr (List.pairwise_lt_range.imp ?_))
 intro x y h q
 have q : (3 : Int) + (x : Int) = 3 + (y : Int) := q
 omega
theorem lk_tbF {n : Nat} {f : Int → Int} {k : Int} (h : 3 ≤ k ∧ k < 3 + n) : lk (tbF n f) k = some (f k) := by
 have hm : (k, f k) ∈ tbF n f := by
  unfold tbF
  exact List.mem_map.mpr ⟨(k - 3).toNat, by rw [List.mem_range]; omega, by
   have : 3 + (((k - 3).toNat : Nat) : Int) = k := by omega
   rw [this]⟩
 exact lk_self (by rw [tbF_keys]; exact k3_nodup n) _ hm
theorem q_sortT {kv : List (Int × Int)} {ks : List Int} (hp : (kv.map (·.1)).Perm ks) (hs : ks.Pairwise (· ≤ ·)) (hl : kv.length < 64) (h0 : kv ≠ []) : oSortD (.dict (T kv)) = some (.ow false (.list (ks.map PyData.int))) := by
 cases h : kv with
 | nil => exact absurd h h0
 | cons p r =>
  have hk := keysT kv
  rw [h] at hk
  have e : PySem.W.sortI (kv.map (·.1)) = ks := (PySem.W.eq_sortI hp.symm hs).symm
  rw [h] at e
  unfold oSortD
  dsimp only
  rw [hk]
  show (if (List.map (·.1) (p :: r)).length < 64 then some (Rz.ow false (.list ((PySem.W.sortI (List.map (·.1) (p :: r))).map PyData.int))) else none) = _
  rw [if_pos (by rw [List.length_map, ← h]; exact hl), e]
theorem q_sortF {n : Nat} {f : Int → Int} (h0 : 0 < n) (hl : n < 64) : oSortD (.dict (T (tbF n f))) = some (.ow false (.list ((k3 n).map PyData.int))) :=
 q_sortT (by rw [tbF_keys]) (k3_sorted n) (by rw [tbF_len]; exact hl) (tbF_ne h0)
theorem q_getF {n : Nat} {f : Int → Int} {k : Int} (h : 3 ≤ k ∧ k < 3 + n) : oDGet (.dict (T (tbF n f))) (.int k) = some (.fz (.int (f k))) := q_dget (lk_tbF h)
theorem q_lenF {n : Nat} {f : Int → Int} (h0 : 0 < n) : oLenD (.dict (T (tbF n f))) = some (.fz (.int n)) := by
 show (match kindD (T (tbF n f)) with | some false => some (Rz.fz (.int (T (tbF n f)).length)) | _ => none) = _
 rw [kindT (tbF_ne h0), lenT, tbF_len]
theorem putF {n : Nat} {f : Int → Int} {k x : Int} (h : 3 ≤ k ∧ k < 3 + n) : putD (T (tbF n f)) (.inl (.inl k)) (.int k) (.int x) = T (tbF n fun j => if j = k then x else f j) := by
 unfold putD
 have : ((T (tbF n f)).any fun p => sameK (.inl (.inl k)) p.1) = true := by
  rw [List.any_eq_true]
  refine ⟨(.int k, .int (f k)), ?_, by rw [sameK_int]; simp⟩
  unfold T
  refine List.mem_map.mpr ⟨(k, f k), ?_, rfl⟩
  unfold tbF
  exact List.mem_map.mpr ⟨(k - 3).toNat, by rw [List.mem_range]; omega, by
   have : 3 + (((k - 3).toNat : Nat) : Int) = k := by omega
   rw [this]⟩
 rw [this, if_pos rfl]
 unfold T tbF
 rw [List.map_map, List.map_map, List.map_map]
 refine List.map_congr_left fun i hi => ?_
 show (if sameK (.inl (.inl k)) (PyData.int (3 + (i : Int))) = true then _ else _) = _
 rw [sameK_int]
 by_cases e : (3 + (i : Int)) = k
 ·rw [if_pos (decide_eq_true e)]; simp [e]
 ·rw [if_neg (by simpa using e)]; simp [e]
theorem in_w {w : Int} {ne : Bool} : oIn ne (.int w) (.tuple [.int 8, .int 12, .int 16]) = some (.fz (.bool (if ne then !decide (w = 8 ∨ w = 12 ∨ w = 16) else decide (w = 8 ∨ w = 12 ∨ w = 16)))) := by
 have e : oIn ne (.int w) (.tuple [.int 8, .int 12, .int 16]) = some (.fz (.bool (if ne then !([PyData.int 8, .int 12, .int 16].any fun e => PyData.eqv e (.int w)) else [PyData.int 8, .int 12, .int 16].any fun e => PyData.eqv e (.int w)))) := rfl
 have h : ([PyData.int 8, .int 12, .int 16].any fun e => PyData.eqv e (.int w)) = decide (w = 8 ∨ w = 12 ∨ w = 16) := by
  simp only [List.any_cons, List.any_nil, eqv_ints, Bool.or_false]
  rw [← Bool.decide_or, ← Bool.decide_or]
  refine decide_eq_decide.mpr ⟨fun h => ?_, fun h => ?_⟩
  ·rcases h with rfl | rfl | rfl <;> simp
  ·rcases h with rfl | rfl | rfl <;> simp
 rw [e, h]
theorem q_slTo {α : Type} {f : α → D} {B : List α} {k : Nat} : oSlL (.list (B.map f)) none (some (k : Int)) = some (.ow false (.list ((B.take k).map f))) := by
 show some (Rz.ow false (.list (cutL _ _ _))) = _
 rw [cut_to, List.map_take]
theorem q_repL1 {d : D} {n : Nat} (h : n ≤ 1000) : oRepL (.list [d]) (.int (n : Int)) = some (.ow false (.list (List.replicate n d))) := by
 show (if -1000000 ≤ (n : Int) ∧ (n : Int) ≤ 1000000 ∧ [d].length * (n : Int).toNat ≤ sizeLine then some (Rz.ow false (.list (List.replicate (n : Int).toNat [d]).flatten)) else none) = _
 rw [if_pos ⟨by omega, by omega, sz_lt (by simp; omega)⟩, Int.toNat_natCast]
 congr 3
 induction n with
 | zero => rfl
 | succ n ih => rw [List.replicate_succ, List.replicate_succ, List.flatten_cons, ih (by omega)]; rfl
structure Tbl (n : Nat) (f : Int → Int) (kv : List (Int × Int)) : Prop where
 pm : (kv.map (·.1)).Perm (k3 n)
 at_ : ∀ k, 3 ≤ k ∧ k < 3 + (n : Int) → lk kv k = some (f k)
section
variable {n : Nat} {f : Int → Int} {kv : List (Int × Int)}
theorem Tbl.len (t : Tbl n f kv) : kv.length = n := by have := t.pm.length_eq; rw [List.length_map, k3_len] at this; exact this
theorem Tbl.ne (t : Tbl n f kv) (h : 0 < n) : kv ≠ [] := fun e => by have := t.len; rw [e] at this; simp at this; omega
theorem Tbl.nd (t : Tbl n f kv) : (kv.map (·.1)).Nodup := t.pm.nodup_iff.mpr (k3_nodup n)
theorem q_sortB (t : Tbl n f kv) (h0 : 0 < n) (hl : n < 64) : oSortD (.dict (T kv)) = some (.ow false (.list ((k3 n).map PyData.int))) :=
 q_sortT t.pm (k3_sorted n) (by rw [t.len]; exact hl) (t.ne h0)
theorem q_getB (t : Tbl n f kv) {k : Int} (h : 3 ≤ k ∧ k < 3 + (n : Int)) : oDGet (.dict (T kv)) (.int k) = some (.fz (.int (f k))) := q_dget (t.at_ k h)
theorem q_lenB (t : Tbl n f kv) (h0 : 0 < n) : oLenD (.dict (T kv)) = some (.fz (.int n)) := by
 show (match kindD (T kv) with | some false => some (Rz.fz (.int (T kv).length)) | _ => none) = _
 rw [kindT (t.ne h0), lenT, t.len]
theorem Tbl.mem (t : Tbl n f kv) {p : Int × Int} (h : p ∈ kv) : (3 ≤ p.1 ∧ p.1 < 3 + (n : Int)) ∧ p.2 = f p.1 := by
 have h1 : p.1 ∈ k3 n := t.pm.mem_iff.mp (List.mem_map.mpr ⟨p, h, rfl⟩)
 have h2 := k3_mem.mp h1
 have h3 := t.at_ p.1 h2
 rw [lk_self t.nd p h] at h3
 exact ⟨h2, by injection h3⟩
end
theorem eqvAll_mp {α : Type} [DecidableEq α] {f : α → D} (h : ∀ a b, PyData.eqv (f a) (f b) = decide (a = b)) : ∀ xs ys : List α, PyData.eqvAll (xs.map f) (ys.map f) = decide (xs = ys)
 | [], [] => by simp [PyData.eqvAll]
 | [], y :: ys => by simp [PyData.eqvAll]
 | x :: xs, [] => by simp [PyData.eqvAll]
 | x :: xs, y :: ys => by
  rw [List.map_cons, List.map_cons, PyData.eqvAll, h, eqvAll_mp h xs ys]
  by_cases h1 : x = y <;> by_cases h2 : xs = ys <;> simp [h1, h2]
theorem eqv_pg (a b : List Int) : PyData.eqv (pgD a) (pgD b) = decide (a = b) := by
 unfold pgD
 rw [PyData.eqv, eqvAll_mp eqv_ints]
theorem eqv_lst {α : Type} [DecidableEq α] {f : α → D} (h : ∀ a b, PyData.eqv (f a) (f b) = decide (a = b)) (xs ys : List α) : PyData.eqv (.list (xs.map f)) (.list (ys.map f)) = decide (xs = ys) := by
 rw [PyData.eqv, eqvAll_mp h]
theorem eqv_tup {α : Type} [DecidableEq α] {f : α → D} (h : ∀ a b, PyData.eqv (f a) (f b) = decide (a = b)) (xs ys : List α) : PyData.eqv (.tuple (xs.map f)) (.tuple (ys.map f)) = decide (xs = ys) := by
 rw [PyData.eqv, eqvAll_mp h]
def wrD (p : Nat × List Int) : D := .tuple [.int (p.1 : Int), pgD p.2]
theorem eqv_wr (a b : Nat × List Int) : PyData.eqv (wrD a) (wrD b) = decide (a = b) := by
 unfold wrD
 rw [PyData.eqv, PyData.eqvAll, PyData.eqvAll, PyData.eqvAll, eqv_ints, eqv_pg]
 obtain ⟨a1, a2⟩ := a
 obtain ⟨b1, b2⟩ := b
 have e : ((a1 : Int) = (b1 : Int)) ↔ a1 = b1 := by omega
 by_cases h1 : a1 = b1
 ·by_cases h2 : a2 = b2 <;> simp [h1, h2]
 ·have h3 : ¬ ((a1 : Int) = (b1 : Int)) := fun z => h1 (e.mp z)
  simp [h1, h3]
theorem shp_pg {n : Nat} (ws : List Int) : Shp (n + 1) (pgD ws) := shp_tup shp_ints
theorem shp_wr {n : Nat} (p : Nat × List Int) : Shp (n + 2) (wrD p) := shp_tup fun d hd => by
 simp only [List.mem_cons, List.not_mem_nil, or_false] at hd
 rcases hd with rfl | rfl
 ·exact shp_int
 ·exact shp_pg _
theorem shp_pgs_t (ps : List (List Int)) : SeqAt.shaped (.tuple (ps.map pgD)) = true := (shp_tup (n := 1) fun d hd => by
 obtain ⟨p, _, rfl⟩ := List.mem_map.mp hd
 exact shp_pg p).shaped
theorem shp_pgs_l (ps : List (List Int)) : SeqAt.shaped (.list (ps.map pgD)) = true := (shp_list (n := 1) fun d hd => by
 obtain ⟨p, _, rfl⟩ := List.mem_map.mp hd
 exact shp_pg p).shaped
theorem shp_wrs (ps : List (Nat × List Int)) : SeqAt.shaped (.list (ps.map wrD)) = true := (shp_list (n := 2) fun d hd => by
 obtain ⟨p, _, rfl⟩ := List.mem_map.mp hd
 exact shp_wr p).shaped
theorem q_eqPg {a b : List Int} : oEqD (pgD a) (pgD b) = some (.fz (.bool (decide (a = b)))) := q_eqD ((shp_pg (n := 0) a).shaped) ((shp_pg (n := 0) b).shaped) (eqv_pg a b)
theorem q_nePg {a b : List Int} : oNeD (pgD a) (pgD b) = some (.fz (.bool (!decide (a = b)))) := q_neD ((shp_pg (n := 0) a).shaped) ((shp_pg (n := 0) b).shaped) (eqv_pg a b)
theorem q_eqPgs {a b : List (List Int)} : oEqD (.list (a.map pgD)) (.list (b.map pgD)) = some (.fz (.bool (decide (a = b)))) := q_eqD (shp_pgs_l a) (shp_pgs_l b) (eqv_lst eqv_pg a b)
theorem q_nePgs {a b : List (List Int)} : oNeD (.list (a.map pgD)) (.list (b.map pgD)) = some (.fz (.bool (!decide (a = b)))) := q_neD (shp_pgs_l a) (shp_pgs_l b) (eqv_lst eqv_pg a b)
theorem q_neDk {a b : List (List Int)} : oNeD (.tuple (a.map pgD)) (.tuple (b.map pgD)) = some (.fz (.bool (!decide (a = b)))) := q_neD (shp_pgs_t a) (shp_pgs_t b) (eqv_tup eqv_pg a b)
theorem q_eqDk {a b : List (List Int)} : oEqD (.tuple (a.map pgD)) (.tuple (b.map pgD)) = some (.fz (.bool (decide (a = b)))) := q_eqD (shp_pgs_t a) (shp_pgs_t b) (eqv_tup eqv_pg a b)
theorem q_neWr {a b : List (Nat × List Int)} : oNeD (.list (a.map wrD)) (.list (b.map wrD)) = some (.fz (.bool (!decide (a = b)))) := q_neD (shp_wrs a) (shp_wrs b) (eqv_lst eqv_wr a b)
theorem q_eqWr {a b : List (Nat × List Int)} : oEqD (.list (a.map wrD)) (.list (b.map wrD)) = some (.fz (.bool (decide (a = b)))) := q_eqD (shp_wrs a) (shp_wrs b) (eqv_lst eqv_wr a b)
section
variable {α : Type} {fn : α → D} {a b c d e : α} {l : List α}
theorem atI_cast {β : Type} {l : List β} {k : Nat} {x : β} (h : l[k]? = some x) : atI l (k : Int) = some x := by
 obtain ⟨h1, h2⟩ := List.getElem?_eq_some_iff.mp h
 rw [atI_nat h1, h2]
theorem atI_m0 : atI ((a :: l).map fn) 0 = some (fn a) := atI_cast (k := 0) rfl
theorem atI_m1 : atI ((a :: b :: l).map fn) 1 = some (fn b) := atI_cast (k := 1) rfl
theorem atI_m2 : atI ((a :: b :: c :: l).map fn) 2 = some (fn c) := atI_cast (k := 2) rfl
theorem atI_m3 : atI ((a :: b :: c :: d :: l).map fn) 3 = some (fn d) := atI_cast (k := 3) rfl
theorem atI_m4 : atI ((a :: b :: c :: d :: e :: l).map fn) 4 = some (fn e) := atI_cast (k := 4) rfl
end
theorem q_slTfrom {α : Type} {f : α → D} {xs : List α} {i : Nat} {a : Int} (ha : a = (i : Int)) : oSlT (.tuple (xs.map f)) (some a) none = some (.fz (.tuple ((xs.drop i).map f))) := by
 subst ha
 show some (Rz.fz (.tuple (cutL _ _ _))) = _
 rw [cut_from, List.map_drop]
theorem q_extT {α : Type} {f : α → D} {xs ys : List α} (h : xs.length + ys.length ≤ 1000000) : mExtendT (xs.map f) [.tuple (ys.map f)] = some ((xs ++ ys).map f, .none) := by
 show (if (xs.map f).length + (ys.map f).length ≤ sizeLine then some (xs.map f ++ ys.map f, PyData.none) else none) = _
 rw [if_pos (sz_lt (by rw [List.length_map, List.length_map]; exact h)), List.map_append]
theorem q_extL {α : Type} {f : α → D} {xs ys : List α} (h : xs.length + ys.length ≤ 1000000) : mExtendL (xs.map f) [.list (ys.map f)] = some ((xs ++ ys).map f, .none) := by
 show (if (xs.map f).length + (ys.map f).length ≤ sizeLine then some (xs.map f ++ ys.map f, PyData.none) else none) = _
 rw [if_pos (sz_lt (by rw [List.length_map, List.length_map]; exact h)), List.map_append]
theorem wx_compW {α : Type} {f : Env → D → Option Env} {rt : RT} {re : RE} {vs : List Nat} {xs : List α} {QC : Env → List D → Prop} {E : XP} {ρ : Env} (enc : α → D) (I : List α → List D → Env → Prop) (hI : ∀ pre acc ρ, I pre acc ρ → wipeE ρ vs = ρ) (h0 : I [] [] ρ)
  (st : ∀ (pre : List α) (x : α) (post : List α) (acc : List D) (ρ : Env), xs = pre ++ x :: post → I pre acc ρ → WG f ρ (enc x) fun ρ1 => Wt rt ρ1 (fun ρ2 t => if t = true then We re ρ2 (fun ρ3 tp => WSt ρ3 tp fun ρ4 e => acc.length < sizeLine ∧ I (pre ++ [x]) (acc ++ [e]) (wipeE ρ4 vs)) (fun _ _ => False) else I (pre ++ [x]) acc (wipeE ρ2 vs)) (fun _ _ => False))
  (en : ∀ acc ρ, I xs acc ρ → QC ρ acc) : Wx (rComp f rt re vs (xs.map enc) [] ρ) QC E :=
 wx_comp enc I h0 (fun pre x post acc ρ e h => by rw [hI pre acc ρ h]; exact st pre x post acc ρ e h) en
theorem rep5 (n : Nat) (x : Int) : (List.replicate n [PyData.int x]).flatten = (List.replicate n x).map PyData.int := by
 induction n with
 | zero => rfl
 | succ n ih => rw [List.replicate_succ, List.replicate_succ, List.flatten_cons, List.map_cons, ih]; rfl
theorem q_repI {n x : Int} (h : -1000 ≤ n ∧ n ≤ 1000) : oRepT (.tuple [.int x]) (.int n) = some (.fz (.tuple ((List.replicate n.toNat x).map PyData.int))) := by
 show (if (!([PyData.int x] : List D).isEmpty && decide (-1000 ≤ n ∧ n ≤ 1000 ∧ ([PyData.int x] : List D).length ≤ 1000)) = true then some (Rz.fz (.tuple (List.replicate n.toNat [PyData.int x]).flatten)) else none) = _
 rw [if_pos (by simp; omega), rep5]
end Vm
namespace Vm
open PySem PySem.Spec PyProof.Rows L2 Fz
def pvD (a : Int) : D := .list [.int a]
theorem pv_lt (a : Int) {n : Int} (h : 0 < n) : 0 ≤ a % n ∧ a % n < n := ⟨Int.emod_nonneg _ (by omega), Int.emod_lt_of_pos _ h⟩
def big18 : Int := 10 ^ 18
theorem q_pow18 : oPow (.int 10) (.int 18) = some (.fz (.int big18)) := by
 show (if cPow 10 18 = true then some (Rz.fz (.int (10 ^ (Int.toNat 18)))) else none) = _
 rw [if_pos (by decide)]; rfl
theorem q_neNil {ds : List D} (h : SeqAt.shaped (.list ds) = true) : oNeD (.list ds) (.list []) = some (.fz (.bool (!ds.isEmpty))) :=
 q_neD h (by decide) (by cases ds <;> simp [PyData.eqv, PyData.eqvAll])
theorem q_eqNil {ds : List D} (h : SeqAt.shaped (.list ds) = true) : oEqD (.list ds) (.list []) = some (.fz (.bool (ds.isEmpty))) :=
 q_eqD h (by decide) (by cases ds <;> simp [PyData.eqv, PyData.eqvAll])
theorem map_eraseIdx {α β : Type} (f : α → β) : ∀ (xs : List α) (k : Nat), (xs.map f).eraseIdx k = (xs.eraseIdx k).map f
 | [], _ => rfl
 | _ :: _, 0 => rfl
 | x :: xs, k + 1 => by rw [List.map_cons, List.eraseIdx_cons_succ, List.eraseIdx_cons_succ, List.map_cons, map_eraseIdx f xs k]
theorem perm_eraseIdx {α : Type} : ∀ {xs : List α} {k : Nat} (h : k < xs.length), (xs[k] :: xs.eraseIdx k).Perm xs
 | x :: xs, 0, _ => List.Perm.refl _
 | x :: xs, k + 1, h => by
  have ih := perm_eraseIdx (xs := xs) (k := k) (by simpa using h)
  rw [List.getElem_cons_succ, List.eraseIdx_cons_succ]
  exact (List.Perm.swap _ _ _).trans (ih.cons x)
theorem q_popAt {α : Type} {f : α → D} {xs : List α} {i : Int} {k : Nat} (hi : i = (k : Int)) (h : k < xs.length) (hb : xs.length ≤ 100000) : mPopAt (xs.map f) [.int i] = some ((xs.eraseIdx k).map f, f xs[k]) := by
 subst hi
 show (if -1000000 ≤ (k : Int) ∧ (k : Int) ≤ 1000000 then (match ixN (xs.map f).length (k : Int) with
  | some j => match (xs.map f)[j]? with
   | some d => some ((xs.map f).eraseIdx j, d)
   | none => none
  | none => none) else none) = _
 have e : ixN (xs.map f).length (k : Int) = some k := by simp [ixN, h]
 rw [if_pos (by omega), e]
 dsimp only
 rw [List.getElem?_map, List.getElem?_eq_getElem h, Option.map_some]
 dsimp only
 rw [map_eraseIdx]
theorem q_int_b {b : Bool} : oInt (.bool b) = some (.fz (.int (if b = true then 1 else 0))) := rfl
theorem notin_ints {v : Int} {l : List Int} : oIn true (.int v) (.list (l.map PyData.int)) = some (.fz (.bool (!decide (v ∈ l)))) := by
 unfold oIn
 dsimp only
 have h : (flatD (.int v) && (l.map PyData.int).all flatD) = true := by
  rw [Bool.and_eq_true]
  refine ⟨rfl, List.all_eq_true.mpr fun d hd => ?_⟩
  obtain ⟨i, _, rfl⟩ := List.mem_map.mp hd
  rfl
 rw [if_pos h, if_pos rfl, Vm.any_ints]
theorem q_oIadd {i j : Int} : oI (fun i j => i + j) (.int i) (.int j) = some (.fz (.int (i + j))) := rfl
end Vm
namespace Vm
open PySem PySem.Spec PyProof.Rows L2 Fz
def signs : List Nat := (Str.ofString "abcdefghijklmnopqrstuvwxyz0123456789").cps.toList
def idx (c : Nat) : Nat := signs.idxOf c
theorem signs_len : signs.length = 36 := by decide +kernel
theorem signs_ok : ∀ c ∈ signs, c < 1114112 := by decide +kernel
theorem empty_sL : Str.ofString "" = sL [] := by decide +kernel
def Nm (l : List Nat) : Prop := ∀ c ∈ l, c ∈ signs
theorem Nm.at {l : List Nat} (h : Nm l) {n : Nat} (hn : n < l.length) : l.getD n 0 ∈ signs := by
 rw [List.getD_eq_getElem?_getD, List.getElem?_eq_getElem hn]; exact h _ (List.getElem_mem hn)
theorem Nm.ok {l : List Nat} (h : Nm l) : TOk (sL l) := fun c hc => by
 rw [sL_cps] at hc
 exact signs_ok c (h c hc)
theorem Nm.take {l : List Nat} (h : Nm l) (n : Nat) : Nm (l.take n) := fun c hc => h c (List.mem_of_mem_take hc)
theorem Nm.drop {l : List Nat} (h : Nm l) (n : Nat) : Nm (l.drop n) := fun c hc => h c (List.mem_of_mem_drop hc)
def poGo : Nat → Int → List Nat → Option (Int × List Nat)
 | 0, left, p => some (left, p)
 | n + 1, left, p => if 0 < left % 37 then poGo n (left / 37) (signs.getD (left % 37 - 1).toNat 0 :: p) else if p = [] then poGo n (left / 37) p else none
def pieceOf (w : Int) : Option (List Nat) := match poGo 6 w [] with
 | some (left, p) => if 0 < left ∨ p = [] then none else some p
 | none => none
abbrev dStr (l : List Nat) : PyData := .str (sL l)
theorem idx_signs {k : Nat} (h : k < 36) : idx (signs.getD k 0) = k := by
 have : ∀ k < 36, idx (signs.getD k 0) = k := by decide +kernel
 exact this k h
def rsL (q : List Nat) : List Nat := (q.reverse.dropWhile (fun c => c == 32)).reverse
structure Pst (w : Int) (i : Nat) (left : Int) (t : List Nat) : Prop where
 h0 : 0 ≤ left
 len : t.length = i
 yes : 32 ∉ rsL t → poGo 6 w [] = poGo (6 - i) left (rsL t)
 no : 32 ∈ rsL t → poGo 6 w [] = none
theorem Pst.done {w : Int} {left : Int} {t : List Nat} (h : Pst w 6 left t) : pieceOf w = if 0 < left ∨ rsL t = [] ∨ 32 ∈ rsL t then none else some (rsL t) := by
 unfold pieceOf
 by_cases q : 32 ∈ rsL t
 ·rw [h.no q, if_pos (.inr (.inr q))]
 ·rw [h.yes q]
  show (if 0 < left ∨ rsL t = [] then none else some (rsL t)) = _
  by_cases q2 : 0 < left ∨ rsL t = []
  ·rw [if_pos q2, if_pos (by rcases q2 with q2 | q2; exact .inl q2; exact .inr (.inl q2))]
  ·rw [if_neg q2, if_neg (by rintro (z | z | z); exact q2 (.inl z); exact q2 (.inr z); exact q z)]
section
variable {a b : List Nat}
theorem q_catS (h : a.length + b.length ≤ 100000) : oCatS (.str (sL a)) (.str (sL b)) = some (.fz (.str (sL (a ++ b)))) := by
 show (if (sL a).length + (sL b).length ≤ sizeLine then some (Rz.fz (.str (sL a ++ sL b))) else none) = _
 rw [if_pos (sz_lt (by rw [sL_len, sL_len]; omega)), sL_app]
theorem q_lenS (h : a.length ≤ 100000) : oLenS (.str (sL a)) = some (.fz (.int a.length)) := by
 show (if (sL a).length ≤ sizeLine then some (Rz.fz (.int (sL a).length)) else none) = _
 rw [if_pos (sz_lt (by rw [sL_len]; omega)), sL_len]
theorem q_ixS {i : Int} {k : Nat} (hi : i = (k : Int)) (h : k < a.length) (hl : a.length ≤ 100000) : oIxS (.str (sL a)) (.int i) = some (.fz (.str (sL [a[k]]))) := by
 subst hi
 show (if (sL a).length ≤ sizeLine then (match atI (sL a).cps.toList (k : Int) with | some c => some (Rz.fz (.str (sgn c))) | none => none) else none) = _
 rw [if_pos (sz_lt (by rw [sL_len]; omega)), sL_cps, Vm.atI_nat h]
 rfl
theorem q_slS {lo hi : Option Int} (hl : a.length ≤ 100000) : oSlS (.str (sL a)) lo hi = some (.fz (.str (sL ((a.drop (HT.sIx a.length 0 lo)).take (HT.sIx a.length a.length hi - HT.sIx a.length 0 lo))))) := by
 show (if (sL a).length ≤ sizeLine then some (Rz.fz (.str (cutS (sL a) lo hi))) else none) = _
 rw [if_pos (sz_lt (by rw [sL_len]; omega)), sL_cut]
theorem q_slSto {j : Int} {n : Nat} (hj : j = (n : Int)) (hl : a.length ≤ 100000) : oSlS (.str (sL a)) none (some j) = some (.fz (.str (sL (a.take n)))) := by
 subst hj
 rw [q_slS hl, HT.sIx_none, HT.sIx_nat, List.drop_zero, Nat.sub_zero]
 congr 4
 rcases Nat.le_total n a.length with h | h
 ·rw [Nat.min_eq_left h]
 ·rw [Nat.min_eq_right h, List.take_length, List.take_of_length_le h]
theorem q_eqSL : oEq (.str (sL a)) (.str (sL b)) = some (.fz (.bool (decide (a = b)))) := by
 rw [q_eqS]
 congr 3
 exact decide_eq_decide.mpr ⟨fun h => by rw [← sL_cps a, h, sL_cps], fun h => by rw [h]⟩
theorem q_neSL : oNe (.str (sL a)) (.str (sL b)) = some (.fz (.bool (!decide (a = b)))) := by
 rw [q_neS]
 congr 4
 exact decide_eq_decide.mpr ⟨fun h => by rw [← sL_cps a, h, sL_cps], fun h => by rw [h]⟩
theorem q_inSL {c : Nat} {ne : Bool} : oInS ne (.str (sL [c])) (.str (sL a)) = some (.fz (.bool (if ne then !decide (c ∈ a) else decide (c ∈ a)))) := by
 show (match (sL [c]).cps.toList with | [c] => some (Rz.fz (.bool (if ne then !decide (c ∈ (sL a).cps.toList) else decide (c ∈ (sL a).cps.toList)))) | _ => none) = _
 rw [sL_cps, sL_cps]
theorem sum_sL (ps : List (List Nat)) : ((ps.map sL).map (·.length)).sum = ps.flatten.length := by
 induction ps with
 | nil => rfl
 | cons p ps ih => rw [List.map_cons, List.map_cons, List.sum_cons, ih, sL_len, List.flatten_cons, List.length_append]
theorem q_joinL {ps : List (List Nat)} (h : ps.flatten.length ≤ 100000) : oJoin [.str (sL []), .list (ps.map fun p => .str (sL p))] = some (.fz (.str (sL ps.flatten))) := by
 have e : strsD (ps.map fun p => PyData.str (sL p)) = some (ps.map sL) := by rw [← strsD_map, List.map_map]; rfl
 have e2 : joinOk (sL []) (ps.map sL) = true := by
  unfold joinOk
  rw [decide_eq_true_iff, sum_sL, sL_len, List.length_nil, Nat.mul_zero]
  omega
 show (match strsD (ps.map fun p => PyData.str (sL p)) with | some ys => if joinOk (sL []) ys = true then some (Rz.fz (.str (Txt.join (sL []) ys))) else none | none => none) = _
 rw [e]
 dsimp only
 rw [if_pos e2, ← empty_sL, join_sL]
end
theorem signs_sL : (Str.ofString "abcdefghijklmnopqrstuvwxyz0123456789") = sL signs := by unfold signs; rw [sL_of]
end Vm
namespace Vm
open PySem PySem.Spec PyProof.Rows L2 Fz
section
variable {ρ ρ' : Env} {Q : Env → Tp → Prop} {E : XP}
def WDPop (i : Nat) (ρ : Env) (tk : Tp) (Q : Env → Tp → Prop) : Prop := ∃ kd p kds kk d, rdT ρ tk = some kd ∧ ρ[i]? = some (some (.o false p, .dict kds)) ∧ key1 kd = some kk ∧ lookD kds (.inl kk) = some d ∧ Q (ρ.set i (some (.o false p, .dict (dropD kds (.inl kk))))) (.fz d)
theorem we_dpop {i : Nat} {k : RE} {p : Bool} {kds : List (D × D)} (hi : ρ[i]? = some (some (.o false p, .dict kds))) (h : We k ρ (fun ρ1 tk => WDPop i ρ1 tk Q) E) : We (rDPop i k) ρ Q E := by
 unfold We rDPop
 rw [hi]
 refine wx_bind (wx_mono h (fun ρ1 tk h1 => ?_) (fun _ _ q => q))
 obtain ⟨kd, p', kds', kk, d, e1, e2, e3, e4, q⟩ := h1
 unfold kDPop
 simp only [e1, e2, e3, e4]
 exact wxo q
end
section
variable {ρ : Env} {QI : Env → List D → Prop} {E : XP}
def WZ (ρ : Env) (tps : List Tp) (QI : Env → List D → Prop) : Prop := ∃ ρ2 l, kItZ ρ tps = .ok ρ2 l ∧ QI ρ2 l
theorem wi_itZ {a b : RE} (h : Wa (rCons a (rCons b rNil)) ρ (fun ρ1 tps => WZ ρ1 tps QI) E) : Wi (rItZ a b) ρ QI E :=
 wx_bind (wx_mono h (fun ρ1 tps ⟨ρ2, l, e, q⟩ => by rw [e]; exact wxo q) (fun _ _ q => q))
theorem wz_of {t1 t2 : Tp} {d1 d2 : D} {l : List D} (h1 : z0 ρ t1 = some d1) (h2 : z0 ρ t2 = some d2) (h3 : zipD d1 d2 = some l) (q : QI ρ l) : WZ ρ [t1, t2] QI := ⟨ρ, l, by unfold kItZ; simp only [h1, h2, h3], q⟩
end
def TD (kv : List (Int × D)) : List (D × D) := kv.map fun p => (PyData.int p.1, p.2)
instance {kv : List (Int × D)} : NotN (TD kv) := notN_map (fun x d h => by dsimp only at h; cases h) kv
end Vm
namespace Vm
open PySem PySem.Spec PyProof.Rows L2 Fz
structure IsCh (n : Nat) (f : Int → Int) (bs : List Int) : Prop where
 ne : bs ≠ []
 nd : bs.Nodup
 mem : ∀ b ∈ bs, 3 ≤ b ∧ b < 3 + (n : Int)
 nx : ∀ (i : Nat) (h : i + 1 < bs.length), f (bs[i]'(by omega)) = bs[i + 1]
 last : ∀ b, bs.getLast? = some b → f b = 1
theorem IsCh.len {n : Nat} {f : Int → Int} {bs : List Int} (h : IsCh n f bs) : bs.length ≤ n := by
 have := nodup_len h.nd (m := k3 n) (fun x hx => k3_mem.mpr (h.mem x hx))
 rw [k3_len] at this; exact this
def sgK (first : Int) (k : Nat) : Nat := signs.getD ((first + 7 * (k : Int)) % 36).toNat 0
theorem sgK_inj {first : Int} {i j : Nat} (hi : i < 36) (hj : j < 36) (h : sgK first i = sgK first j) : i = j := by
 unfold sgK at h
 have h1 := pv_lt (first + 7 * (i : Int)) (n := 36) (by decide)
 have h2 := pv_lt (first + 7 * (j : Int)) (n := 36) (by decide)
 have e := congrArg idx h
 rw [idx_signs (by omega), idx_signs (by omega)] at e
 omega
def endS (ahead : Bool) (l : List Nat) : Option Nat := if ahead = true then l.head? else l.getLast?
theorem ends_nodup {first : Int} {ahead : Bool} {L : List (List Nat)} (hl : L.length ≤ 36) (h : ∀ (j : Nat) (hj : j < L.length), endS ahead L[j] = some (sgK first j)) : L.Nodup := by
 rw [List.nodup_iff_pairwise_ne, List.pairwise_iff_getElem]
 intro i j hi hj hij e
 have h1 := h i hi
 have h2 := h j hj
 rw [e, h2] at h1
 injection h1 with h1
 have := sgK_inj (by omega) (by omega) h1
 omega
theorem sign_at (a : Int) : ∃ c, c ∈ signs ∧ oIxS (.str (sL signs)) (.int (a % 36)) = some (.fz (.str (sL [c]))) := by
 have h := pv_lt a (n := 36) (by decide)
 have hk : (a % 36).toNat < signs.length := by rw [signs_len]; omega
 exact ⟨signs[(a % 36).toNat], List.getElem_mem hk, q_ixS (by omega) hk (by rw [signs_len]; omega)⟩
theorem flat_one (l : List Nat) : (l.map fun c => [c]).flatten = l := by
 induction l with
 | nil => rfl
 | cons c l ih => rw [List.map_cons, List.flatten_cons, ih]; rfl
theorem join_signs {l : List Nat} (h : l.length ≤ 1000) : oJoin [.str (sL []), .list (l.map fun c => .str (sL [c]))] = some (.fz (.str (sL l))) := by
 have := q_joinL (ps := l.map fun c => [c]) (by rw [flat_one]; omega)
 rw [flat_one, List.map_map] at this
 exact this
theorem q_rev {α : Type} {f : α → D} {xs : List α} : oRev (.list (xs.map f)) = some (.ow false (.list (xs.reverse.map f))) := by
 show some (Rz.ow false (.list (xs.map f).reverse)) = _
 rw [List.map_reverse]
theorem q_slLto {α : Type} {f : α → D} {xs : List α} {j : Nat} {b : Int} (hb : b = (j : Int)) : oSlL (.list (xs.map f)) none (some b) = some (.ow false (.list ((xs.take j).map f))) := by
 subst hb
 show some (Rz.ow false (.list (cutL _ _ _))) = _
 rw [cut_to, List.map_take]
theorem q_lenSet {ns : List Int} (h : ns.Nodup) (hl : ns.length ≤ 4000) : oLenSetI (.list (ns.map PyData.int)) = some (.fz (.int ns.length)) := by
 show (match intsD (ns.map PyData.int) with | some ns => if ns.length ≤ 4000 ∧ ns.Nodup then some (Rz.fz (.int ns.length)) else none | none => none) = _
 rw [intsD_map]
 dsimp only
 rw [if_pos ⟨hl, h⟩]
theorem IsCh.of {n : Nat} {f : Int → Int} {c : List Int} (hne : c ≠ []) (hnd : c.Nodup) (hm : ∀ b ∈ c, 3 ≤ b ∧ b < 3 + (n : Int)) (hin : ∀ (i : Nat) (h : i < c.length), f c[i] = (c ++ [1]).getD (i + 1) 0) : IsCh n f c := by
 refine ⟨hne, hnd, hm, fun i hi => ?_, fun b hb => ?_⟩
 ·rw [hin i (by omega), List.getD_eq_getElem?_getD, List.getElem?_append_left hi, List.getElem?_eq_getElem hi]; rfl
 ·rw [List.getLast?_eq_getElem?] at hb
  obtain ⟨h1, rfl⟩ := List.getElem?_eq_some_iff.mp hb
  rw [hin _ h1, List.getD_eq_getElem?_getD, List.getElem?_append_right (by omega), show c.length - 1 + 1 - c.length = 0 by omega]; rfl
end Vm
namespace Vm
open PySem PySem.Spec PyProof.Rows L2 Fz
abbrev Pth := List (List Nat)
def dPth (p : Pth) : D := .tuple (p.map dStr)
theorem sL_inj {a b : List Nat} (h : sL a = sL b) : a = b := by
 have := congrArg (fun s : Str => s.cps.toList) h
 simpa [sL] using this
def TP (P : List Pth) (f : Pth → D) : List (D × D) := P.map fun p => (dPth p, f p)
instance {P : List Pth} {f : Pth → D} : NotN (TP P f) := notN_map (fun x d h => by dsimp only [dPth] at h; cases h) P
def NmOk (l : List Nat) : Prop := Nm l ∧ 1 ≤ l.length ∧ l.length ≤ 18
def PtOk (p : Pth) : Prop := ∀ l ∈ p, NmOk l
theorem eqv_dstr (a b : List Nat) : PyData.eqv (dStr a) (dStr b) = decide (a = b) := by
 have : PyData.eqv (.str (sL a)) (.str (sL b)) = decide (sL a = sL b) := by
  by_cases h : sL a = sL b <;> simp [PyData.eqv, h]
 rw [this]
 by_cases h : a = b
 ·subst h; rw [decide_eq_true rfl, decide_eq_true rfl]
 ·rw [decide_eq_false h, decide_eq_false (fun z => h (sL_inj z))]
structure Hou (most : Nat) (P : List Pth) (g : Pth → Option (List Int)) : Prop where
 nd : P.Nodup
 hd : P.head? = some []
 root : g [] = none
 up : ∀ p ∈ P, p ≠ [] → p.dropLast ∈ P ∧ g p.dropLast = none
 nm : ∀ p ∈ P, PtOk p
 dp : ∀ p ∈ P, p.length ≤ 4
 ws : ∀ p ∈ P, ∀ v, g p = some v → v.length ≤ most ∧ ∀ x ∈ v, 0 ≤ x ∧ x < 1000000000000
theorem Hou.ne {most : Nat} {P : List Pth} {g : Pth → Option (List Int)} (h : Hou most P g) : P ≠ [] := fun e => by have := h.hd; rw [e] at this; exact nomatch this
theorem Hou.one (most : Nat) : Hou most [[]] (fun _ => none) := by
 refine ⟨by simp, rfl, rfl, fun p hp hn => ?_, fun p hp => ?_, fun p hp => ?_, fun p hp v e => nomatch e⟩
 ·rw [List.mem_singleton] at hp; exact absurd hp hn
 ·rw [List.mem_singleton] at hp; subst hp; exact fun l hl => nomatch hl
 ·rw [List.mem_singleton] at hp; subst hp; exact Nat.zero_le _
theorem we_callE {ρ : Env} {Q : Env → Tp → Prop} {E : XP} {m : List (Fg × D) → FOut} {i : Nat} {dE : D} {z : Rz} {io : Env} {tp : Tp} (hi : ρ[i]? = some (some (.e, dE))) (hm : m [(.e, dE)] = .ok z io) (ht : TpOf z tp) (q : Q ρ tp) : We (rCallE m i) ρ Q E := by
 unfold We rCallE
 simp only [hi, hm]
 rw [ht.eq]
 exact wxo q
end Vm
set_option maxHeartbeats 4000000
namespace Cd
open PySem PySem.Spec PyProof.Rows L2 Fz Vm
def r_is_name : RS := (rSeq (rIf (rNot (rTest (rChain oLe oLe (rK (.int 1)) (rOp1 oLenS (rVar 0)) (rK (.int 18)))))
 (rRet (rK (.bool false))) rNext)
 (rRet (rOp2 oEqD (rLc (rItS (rVar 0)) (fName 1) (rTest (rOp2 (oInS true) (rVar 1) (rK (.str "abcdefghijklmnopqrstuvwxyz0123456789")))) (rVar 1) [1]) (rLst rNil))))
def m_is_name : List (Fg × D) → FOut := runFn 1 2 (fun ρ => (r_is_name ρ).dry)
def b1_short_forms : RS := (rFgt [1] (rIf (rNot (rTest (rCall (mdry m_is_name) [false] (rCons (rVar 1) rNil))))
 (rRaise "NoName") rNext))
def b2_short_forms : RS := (rFgtL [1, 4] (rSeq (rIf (rTest (rOp2 oLe (rOp1 oLenS (rVar 1)) (rK (.int 6))))
 (rSeq (rFgt [1] (rDPut 2 (rVar 1) (rVar 1)))
 (fun ρ => .ok ρ .ct)) rNext)
 (rSeq (rAsg (rSl oSlS (rVar 1) rNoPart (rPart (rK (.int 3)))) 4)
 (rSeq (rDPut 3 (rOp2 oAdd (rDGet2 3 (rVar 4) (rK (.int 0))) (rK (.int 1))) (rVar 4))
 (rFgt [1, 4] (rDPut 2 (rOp2 oCatS (rOp2 oCatS (rVar 4) (rK (.str "-"))) (rMeth isStr oZfill (rOp1 oStr (rOp2 oDGet (rVar 3) (rVar 4))) (rCons (rK (.int 2)) rNil))) (rVar 1)))))))
def r_short_forms : RS := (rSeq (rFor (rItL (rVar 0)) (fName 1)
 b1_short_forms)
 (rSeq (rAsg (fun ρ => .ok ρ (.ow false (.dict []))) 2)
 (rSeq (rAsg (fun ρ => .ok ρ (.ow false (.dict []))) 3)
 (rSeq (rFgt [0, 3] (rFor (rItL (rOp1 oSortS (rVar 0))) (fName 1)
 b2_short_forms))
 (rRet (rVar 2))))))
def m_short_forms : List (Fg × D) → FOut := runFn 1 5 r_short_forms
def b1__law_digits : RS := (rSeq (rFgt [5] (rAsg (rOp2 oMod (rOp2 oAdd (rOp2 oAdd (rOp2 oMul (rVar 4) (rVar 4)) (rOp2 oMul (rK (.int 48271)) (rVar 4))) (rVar 5)) (rK (.int 2147483629))) 4))
 (rAsg (rOp2 oAdd (rOp2 oMul (rVar 3) (rK (.int 2147483587))) (rOp2 oMod (rOp2 oMul (rVar 4) (rK (.int 69621))) (rK (.int 2147483587)))) 3))
def r__law_digits : RS := (rSeq (rFgt [0] (rAsg (rIfE (rTest (rOp2 oLt (rVar 1) (rLenSc 0))) (rIxSc 0 (rVar 1)) (rK (.int 0))) 2))
 (rSeq (rIf (rTest (rOp2 oGe (rVar 2) (rOp2 oPow (rK (.int 10)) (rK (.int 18)))))
 (rRet (rLst (rCons (rOp2 oSub (rVar 2) (rOp2 oPow (rK (.int 10)) (rK (.int 18)))) rNil))) rNext)
 (rSeq (rAsg (rK (.int 0)) 3)
 (rSeq (rFgt [1, 2] (rAsg (rOp2 oMod (rOp2 oAdd (rOp2 oAdd (rOp2 oMul (rVar 2) (rK (.int 48271))) (rOp2 oMul (rK (.int 7919)) (rVar 1))) (rK (.int 11))) (rK (.int 2147483647))) 4))
 (rSeq (rFgt [4] (rFor (rRng1 (rK (.int 80))) (fName 5)
 b1__law_digits))
 (rRet (rLst (rCons (rVar 3) rNil))))))))
def m__law_digits : List (Fg × D) → FOut := runFn 2 6 (fun ρ => (r__law_digits ρ).dry)
def r__law_take : RS := (rSeq (rAsg (rOp2 oMod (rOp2 oIxL (rVar 0) (rK (.int 0))) (rVar 1)) 2)
 (rSeq (rFgt [1] (rSetI 0 (rOp2 oDiv (rOp2 oIxL (rVar 0) (rK (.int 0))) (rVar 1)) (rK (.int 0))))
 (rRet (rVar 2))))
def m__law_take : List (Fg × D) → FOut := runFn 2 3 (fun ρ => (r__law_take ρ).dry)
def r__law_whole : RS := (rRet (rAndV (rIsi1 "int" (rVar 0)) (rNotV (rIsi1 "bool" (rVar 0)))))
def m__law_whole : List (Fg × D) → FOut := runFn 1 1 (fun ρ => (r__law_whole ρ).dry)
def r__law_signs : RS := (rRet (rK (.str "abcdefghijklmnopqrstuvwxyz0123456789")))
def m__law_signs : List (Fg × D) → FOut := runFn 0 0 (fun ρ => (r__law_signs ρ).dry)
def b1__law_names : RS := (rSeq (rFgt [6] (rAsg (rOp2 oIxS (rCall (mdry m__law_signs) [] rNil) (rOp2 oMod (rOp2 oAdd (rVar 3) (rOp2 oMul (rK (.int 7)) (rVar 6))) (rK (.int 36)))) 7))
 (rSeq (rAsg (rOp2 oIxL (rLst (rCons (rCall (mdry m__law_take) [true, false] (rCons (rVar 0) (rCons (rK (.int 18)) rNil))) (rCons (rOp2 oIxL (rLst (rCons (rK (.int 5)) (rCons (rK (.int 6)) (rCons (rK (.int 11)) (rCons (rK (.int 12)) (rCons (rK (.int 17)) (rCons (rK (.int 0)) (rCons (rK (.int 4)) (rCons (rK (.int 16)) rNil))))))))) (rCall (mdry m__law_take) [true, false] (rCons (rVar 0) (rCons (rK (.int 8)) rNil)))) rNil))) (rCall (mdry m__law_take) [true, false] (rCons (rVar 0) (rCons (rK (.int 2)) rNil)))) 8)
 (rFgt [7, 8] (rIf (rTest (rVar 4))
 (rFgt [7, 8] (rDrop (rMethL 5 mAppend (rCons (rOp2 oCatS (rVar 7) (rSl oSlS (rVar 2) rNoPart (rPart (rOp2 oIxL (rLst (rCons (rK (.int 6)) (rCons (rK (.int 11)) (rCons (rK (.int 12)) (rCons (rK (.int 17)) rNil))))) (rOp2 oMod (rVar 8) (rK (.int 4))))))) rNil)))) (rFgt [7, 8] (rDrop (rMethL 5 mAppend (rCons (rOp2 oCatS (rSl oSlS (rVar 2) rNoPart (rPart (rVar 8))) (rVar 7)) rNil))))))))
def r__law_names : RS := (rSeq (rAsg (rMeth isStr oJoin (rK (.str "")) (rCons (rLc (rRng1 (rK (.int 17))) (fName 6) (fun ρ => .ok ρ true) (rOp2 oIxS (rCall (mdry m__law_signs) [] rNil) (rCall (mdry m__law_take) [true, false] (rCons (rVar 0) (rCons (rK (.int 36)) rNil)))) [6]) rNil)) 2)
 (rSeq (rAsg (rCall (mdry m__law_take) [true, false] (rCons (rVar 0) (rCons (rK (.int 36)) rNil))) 3)
 (rSeq (rAsg (rOp2 oEq (rCall (mdry m__law_take) [true, false] (rCons (rVar 0) (rCons (rK (.int 4)) rNil))) (rK (.int 0))) 4)
 (rSeq (rAsg (rLst rNil) 5)
 (rSeq (rFgt [1, 2, 3, 4] (rFor (rRng1 (rVar 1)) (fName 6)
 b1__law_names))
 (rRet (rVar 5)))))))
def m__law_names : List (Fg × D) → FOut := runFn 2 9 (fun ρ => (r__law_names ρ).dry)
def c1__law_order : RT := (rTest (rOp2 oNeD (rVar 2) (rLst rNil)))
def b1__law_order : RS := (rDrop (rMethL 3 mAppend (rCons (rMethL 2 mPopAt (rCons (rCall (mdry m__law_take) [true, false] (rCons (rVar 0) (rCons (rOp1 oLen (rVar 2)) rNil))) rNil)) rNil)))
def r__law_order : RS := (rSeq (rFgt [1] (rAsg (rOp1 oList (rVar 1)) 2))
 (rSeq (rAsg (rLst rNil) 3)
 (rSeq (rFgt [2] (rWhile c1__law_order
 b1__law_order wFuel))
 (rRet (rVar 3)))))
def m__law_order : List (Fg × D) → FOut := runFn 2 4 (fun ρ => (r__law_order ρ).dry)
def r__law_kind : RS := (rSeq (rIf (rNot (rTest (rIsE 0 (fun c => if c = "NoName" then some true else none))))
 (rRet (rTup (rCons (rK (.str "no ValueError")) rNil))) rNext)
 (rSeq (rAsg (rLst (rCons (rIsE 0 (fun c => if c = "NoName" then some false else none)) (rCons (rIsE 0 (fun c => if c = "NoName" then some false else none)) (rCons (rIsE 0 (fun c => if c = "NoName" then some false else none)) rNil)))) 1)
 (rSeq (rDrop (rMethL 1 mExtendL (rCons (rLst (rCons (rIsE 0 (fun c => if c = "NoName" then some false else none)) (rCons (rIsE 0 (fun c => if c = "NoName" then some true else none)) (rCons (rIsE 0 (fun c => if c = "NoName" then some false else none)) rNil)))) rNil)))
 (rSeq (rDrop (rMethL 1 mExtendL (rCons (rLst (rCons (rIsE 0 (fun c => if c = "NoName" then some false else none)) (rCons (rIsE 0 (fun c => if c = "NoName" then some false else none)) (rCons (rIsE 0 (fun c => if c = "NoName" then some false else none)) rNil)))) rNil)))
 (rSeq (rDrop (rMethL 1 mExtendL (rCons (rLst (rCons (rIsE 0 (fun c => if c = "NoName" then some false else none)) (rCons (rIsE 0 (fun c => if c = "NoName" then some false else none)) (rCons (rIsE 0 (fun c => if c = "NoName" then some false else none)) rNil)))) rNil)))
 (rSeq (rDrop (rMethL 1 mExtendL (rCons (rLst (rCons (rIsE 0 (fun c => if c = "NoName" then some false else none)) (rCons (rIsE 0 (fun c => if c = "NoName" then some false else none)) rNil))) rNil)))
 (rSeq (rAsg (rLst (rCons (rK (.str "size")) (rCons (rK (.str "block")) (rCons (rK (.str "chain")) (rCons (rK (.str "room")) (rCons (rK (.str "name")) (rCons (rK (.str "path")) (rCons (rK (.str "file")) (rCons (rK (.str "drawer")) (rCons (rK (.str "taken")) (rCons (rK (.str "bare")) (rCons (rK (.str "within")) (rCons (rK (.str "cut")) rNil))))))))))))) 2)
 (rSeq (rDrop (rMethL 2 mExtendL (rCons (rLst (rCons (rK (.str "unsound")) (rCons (rK (.str "line")) rNil))) rNil)))
 (rSeq (rIf (rTest (rOp2 oNe (rMeth isLst oCountB (rVar 1) (rCons (rK (.bool true)) rNil)) (rK (.int 1))))
 (rRet (rTup (rCons (rK (.str "classes")) rNil))) rNext)
 (rSeq (rFgt [1, 2] (rAsg (rOp2 oIxL (rVar 2) (rMeth isLst oIndexB (rVar 1) (rCons (rK (.bool true)) rNil))) 3))
 (rSeq (rFgt [0] (rIf (rAnd (rTest (rOp2 oEq (rVar 3) (rK (.str "path")))) (rTest (rCall (mdry m__law_whole) [false] (rCons (rFldE 0 "NoPath" "place") rNil))))
 (rRet (rTup (rCons (rK (.str "path")) (rCons (rFldE 0 "NoPath" "place") rNil)))) rNext))
 (rRet (rTup (rCons (rVar 3) rNil))))))))))))))
def m__law_kind : List (Fg × D) → FOut := runFn 1 4 (fun ρ => (r__law_kind ρ).dry)
def r__law_refused : RS := (rSeq (rFgt [0] (rTry (rFgt [0] (rDrop (rCall m_short_forms [false] (rCons (rVar 0) rNil)))) (fun c => if c = "NoName" then some true else none) 1 (rRet (rOp2 oEqD (rCallE m__law_kind 1) (rTup (rCons (rK (.str "name")) rNil))))))
 (rRet (rK (.bool false))))
def m__law_refused : List (Fg × D) → FOut := runFn 1 2 (fun ρ => (r__law_refused ρ).dry)
def b1__law_without : RS := (rSeq (rAsg (rOrV (rOp2 oLt (rOp1 oLenS (rVar 4)) (rK (.int 7))) (rOrV (rOp2 oLt (rOp1 oLenS (rVar 2)) (rK (.int 7))) (rOp2 oNe (rSl oSlS (rVar 4) rNoPart (rPart (rK (.int 3)))) (rSl oSlS (rVar 2) rNoPart (rPart (rK (.int 3))))))) 5)
 (rFgt [4, 5] (rIf (rAnd (rTest (rOp2 oNe (rVar 4) (rVar 2))) (rAnd (rTest (rVar 5)) (rTest (rOp2 oNe (rOp2 oDGet (rVar 3) (rVar 4)) (rOp2 oDGet (rVar 1) (rVar 4))))))
 (rRet (rK (.bool false))) rNext)))
def r__law_without : RS := (rSeq (rAsg (rCall m_short_forms [false] (rCons (rLc (rItL (rVar 0)) (fName 4) (rTest (rOp2 oNe (rVar 4) (rVar 2))) (rVar 4) [4]) rNil)) 3)
 (rSeq (rFgt [0, 1] (rFor (rItL (rVar 0)) (fName 4)
 b1__law_without))
 (rRet (rDInO true (rVar 2) (rVar 3)))))
def m__law_without : List (Fg × D) → FOut := runFn 3 6 r__law_without
def b1_law : RS := (rSeq (rFgt [2] (rAsg (rCall (mdry m__law_digits) [false, false] (rCons (rVar 0) (rCons (rVar 2) rNil))) 3))
 (rSeq (rAsg (rCall (mdry m__law_names) [true, false] (rCons (rVar 3) (rCons (rOp2 oAdd (rK (.int 1)) (rCall (mdry m__law_take) [true, false] (rCons (rVar 3) (rCons (rK (.int 16)) rNil)))) rNil))) 4)
 (rSeq (rAsg (rCall (mdry m_short_forms) [false] (rCons (rVar 4) rNil)) 5)
 (rSeq (rAsg (rLc (rItL (rVar 4)) (fName 9) (fun ρ => .ok ρ true) (rOp2 oDGet (rVar 5) (rVar 9)) [9]) 6)
 (rSeq (rFgt [6] (rIf (rOr (rTest (rOp2 oLt (rOp1 oLenSetK (rVar 6)) (rOp1 oLen (rVar 4)))) (rTest (rOp2 oNeD (rLc (rItL (rVar 6)) (fName 10) (rNot (rTest (rChain oLt oLt (rK (.int 0)) (rOp1 oLenS (rVar 10)) (rK (.int 7))))) (rVar 10) [10]) (rLst rNil))))
 (rRet (rK (.bool false))) rNext))
 (rSeq (rIf (rOr (rTest (rOp2 oDNe (rCall (mdry m_short_forms) [false] (rCons (rCall (mdry m__law_order) [true, false] (rCons (rVar 3) (rCons (rVar 4) rNil))) rNil)) (rVar 5))) (rTest (rOp2 oDNe (rCall (mdry m_short_forms) [false] (rCons (rOp1 oRev (rVar 4)) rNil)) (rVar 5))))
 (rRet (rK (.bool false))) rNext)
 (rSeq (rAsg (rOp1 oSortS (rLc (rItL (rVar 4)) (fName 9) (rTest (rOp2 oGt (rOp1 oLenS (rVar 9)) (rK (.int 6)))) (rVar 9) [9])) 7)
 (rSeq (rIf (rTest (rOp2 oNeD (rLc (rItL (rVar 7)) (fName 9) (rOr (rTest (rOp2 oNe (rSl oSlS (rOp2 oDGet (rVar 5) (rVar 9)) rNoPart (rPart (rK (.int 3)))) (rSl oSlS (rVar 9) rNoPart (rPart (rK (.int 3)))))) (rTest (rOp2 (oIn false) (rOp2 oDGet (rVar 5) (rVar 9)) (rVar 4)))) (rVar 9) [9]) (rLst rNil)))
 (rRet (rK (.bool false))) rNext)
 (rSeq (rFgt [7] (rIf (rTest (rOp2 oNeD (rLc (rItL (rVar 7)) (fName 9) (fun ρ => .ok ρ true) (rOp2 oDGet (rVar 5) (rVar 9)) [9]) (rOp1 oSortS (rLc (rItL (rVar 7)) (fName 9) (fun ρ => .ok ρ true) (rOp2 oDGet (rVar 5) (rVar 9)) [9]))))
 (rRet (rK (.bool false))) rNext))
 (rSeq (rFgt [5] (rIf (rNot (rTest (rCall (mdry m__law_without) [false, false, false] (rCons (rVar 4) (rCons (rVar 5) (rCons (rOp2 oIxL (rVar 4) (rCall (mdry m__law_take) [true, false] (rCons (rVar 3) (rCons (rOp1 oLen (rVar 4)) rNil)))) rNil))))))
 (rRet (rK (.bool false))) rNext))
 (rSeq (rAsg (rCall (mdry m__law_take) [true, false] (rCons (rVar 3) (rCons (rOp2 oAdd (rOp1 oLen (rVar 4)) (rK (.int 1))) rNil))) 8)
 (rFgt [3, 4, 8] (rIf (rNot (rTest (rCall (mdry m__law_refused) [false] (rCons (rOp2 oCatL (rOp2 oCatL (rSl oSlL (rVar 4) rNoPart (rPart (rVar 8))) (rLst (rCons (rOp2 oIxL (rVar 1) (rCall (mdry m__law_take) [true, false] (rCons (rVar 3) (rCons (rK (.int 6)) rNil)))) rNil))) (rSl oSlL (rVar 4) (rPart (rVar 8)) rNoPart)) rNil))))
 (rRet (rK (.bool false))) rNext)))))))))))))
def r_law : RS := (rSeq (rAsg (rLst (rCons (rK (.str "")) (rCons (rK (.str "A")) (rCons (rK (.str "a b")) (rCons (rK (.str "abc-01")) (rCons (rOp2 oMulS (rK (.str "a")) (rK (.int 19))) (rCons (rK (.str "_")) rNil))))))) 1)
 (rSeq (rFgt [1] (rFor (rRng1 (rOp2 oMax (rK (.int 1)) (rOp2 oMin (rLenSc 0) (rK (.int 16))))) (fName 2)
 b1_law))
 (rRet (rK (.bool true)))))
def m_law : List (Fg × D) → FOut := runFn 1 11 (fun ρ => (r_law ρ).dry)
local macro_rules | `(tactic| walk_at "num") => `(tactic| first | with_reducible assumption | omega | decide)
local macro_rules | `(tactic| walk_at "dec") => `(tactic| first | rfl | with_reducible assumption | (simp only [decide_eq_true_eq, decide_eq_false_iff_not, Bool.not_eq_true', Bool.not_eq_false', Bool.not_true, Bool.not_false]; first | done | omega | assumption))
local macro_rules | `(tactic| walk_at "len") => `(tactic| ((try simp only [List.length_replicate, Vm.k3_len, Vm.tbF_len, List.length_map, List.length_append, List.length_cons, List.length_nil, Vm.rgD_len, Vm.lenT, List.length_range, List.length_reverse, List.length_take, List.length_drop]); omega))
local macro_rules | `(tactic| walk_at "sz") => `(tactic| first | ((with_reducible apply Vm.sz_lt); walk_at "len") | ((with_reducible apply Vm.sz_lt'); walk_at "len"))
local macro_rules | `(tactic| walk_at "at") => `(tactic| first | exact rfl | exact Vm.atI_last | (with_reducible apply Vm.atI_map; omega) | (with_reducible apply Vm.atI_nat; omega))
local macro_rules | `(tactic| lcg_sub) => `(tactic| with_reducible exact Vm.q_tupleT)
local macro_rules | `(tactic| lcg_sub) => `(tactic| with_reducible exact Vm.q_tuple)
local macro_rules | `(tactic| lcg_sub) => `(tactic| with_reducible exact Vm.q_listT)
local macro_rules | `(tactic| lcg_sub) => `(tactic| with_reducible exact Vm.q_list)
local macro_rules | `(tactic| lcg_sub) => `(tactic| ((with_reducible apply Vm.q_catT); walk_at "sz"))
local macro_rules | `(tactic| lcg_sub) => `(tactic| ((with_reducible apply Vm.q_catL); walk_at "sz"))
local macro_rules | `(tactic| lcg_sub) => `(tactic| ((with_reducible apply Vm.q_ixT); walk_at "at"))
local macro_rules | `(tactic| lcg_sub) => `(tactic| ((with_reducible apply Vm.q_ixL); walk_at "at"))
local macro_rules | `(tactic| lcg_sub) => `(tactic| with_reducible exact Vm.q_lenT)
local macro_rules | `(tactic| lcg_sub) => `(tactic| with_reducible exact Vm.q_lenL)
local macro_rules | `(tactic| lcg_sub) => `(tactic| with_reducible exact Vm.q_lenTM)
local macro_rules | `(tactic| lcg_sub) => `(tactic| with_reducible exact Vm.q_lenLM)
local macro_rules | `(tactic| lcg_sub) => `(tactic| with_reducible exact Vm.q_notN)
local macro_rules | `(tactic| lcg_sub) => `(tactic| with_reducible exact Vm.q_isN)
local macro_rules | `(tactic| lcg_sub) => `(tactic| with_reducible exact Vm.q_abs)
local macro_rules | `(tactic| lcg_sub) => `(tactic| with_reducible exact Vm.q_pow59)
local macro_rules | `(tactic| lcg_sub) => `(tactic| with_reducible exact Vm.q_pow8)
local macro_rules | `(tactic| lcg_sub) => `(tactic| with_reducible exact Vm.q_pow12)
local macro_rules | `(tactic| lcg_sub) => `(tactic| ((with_reducible apply Vm.q_divW); walk_at "num"; walk_at "num"))
local macro_rules | `(tactic| lcg_sub) => `(tactic| ((with_reducible apply Vm.q_div); walk_at "num"))
local macro_rules | `(tactic| lcg_sub) => `(tactic| ((with_reducible apply Vm.q_mod); walk_at "num"))
local macro_rules | `(tactic| lcg_sub) => `(tactic| ((with_reducible apply Vm.q_mul); walk_at "num"))
local macro_rules | `(tactic| lcg_sub) => `(tactic| with_reducible exact Vm.q_min)
local macro_rules | `(tactic| lcg_sub) => `(tactic| with_reducible exact Vm.q_max)
local macro_rules | `(tactic| lcg_sub) => `(tactic| with_reducible exact Vm.q_neg)
local macro_rules | `(tactic| lcg_sub) => `(tactic| with_reducible exact Vm.q_neB)
local macro_rules | `(tactic| lcg_sub) => `(tactic| with_reducible exact Vm.q_eqB)
local macro_rules | `(tactic| lcg_sub) => `(tactic| with_reducible exact Vm.q_neS)
local macro_rules | `(tactic| lcg_sub) => `(tactic| with_reducible exact Vm.q_eqS)
local macro_rules | `(tactic| lcg_sub) => `(tactic| with_reducible exact Vm.q_ge)
local macro_rules | `(tactic| lcg_sub) => `(tactic| with_reducible exact Vm.q_gt)
local macro_rules | `(tactic| lcg_sub) => `(tactic| with_reducible exact Vm.q_le)
local macro_rules | `(tactic| lcg_sub) => `(tactic| with_reducible exact Vm.q_lt)
local macro_rules | `(tactic| lcg_sub) => `(tactic| with_reducible exact Vm.q_neI)
local macro_rules | `(tactic| lcg_sub) => `(tactic| with_reducible exact Vm.q_eqI)
local macro_rules | `(tactic| lcg_sub) => `(tactic| with_reducible exact Vm.q_sub)
local macro_rules | `(tactic| lcg_sub) => `(tactic| with_reducible exact Vm.q_add)
local macro_rules | `(tactic| lcg_sub) => `(tactic| (with_reducible exact Vm.notin_ints))
local macro_rules | `(tactic| lcg_sub) => `(tactic| (with_reducible exact Vm.in_ints _ _))
local macro_rules | `(tactic| lcg_sub) => `(tactic| ((with_reducible apply Vm.q_din); assumption))
local macro_rules | `(tactic| lcg_sub) => `(tactic| ((with_reducible apply Vm.q_dnotin); assumption))
local macro_rules | `(tactic| lcg_sub) => `(tactic| ((with_reducible apply Vm.q_dget); assumption))
local macro_rules | `(tactic| lcg_sub) => `(tactic| ((with_reducible apply Vm.q_repL1); omega))
local macro_rules | `(tactic| lcg_sub) => `(tactic| (with_reducible exact Vm.q_slTo))
local macro_rules | `(tactic| lcg_sub) => `(tactic| (with_reducible exact Vm.in_w))
local macro_rules | `(tactic| lcg_sub) => `(tactic| (with_reducible exact Vm.q_eqWr))
local macro_rules | `(tactic| lcg_sub) => `(tactic| (with_reducible exact Vm.q_neWr))
local macro_rules | `(tactic| lcg_sub) => `(tactic| (with_reducible exact Vm.q_eqDk))
local macro_rules | `(tactic| lcg_sub) => `(tactic| (with_reducible exact Vm.q_neDk))
local macro_rules | `(tactic| lcg_sub) => `(tactic| (with_reducible exact Vm.q_eqPg))
local macro_rules | `(tactic| lcg_sub) => `(tactic| (with_reducible exact Vm.q_nePg))
local macro_rules | `(tactic| lcg_sub) => `(tactic| (with_reducible exact Vm.q_eqPgs))
local macro_rules | `(tactic| lcg_sub) => `(tactic| (with_reducible exact Vm.q_nePgs))
local macro_rules | `(tactic| lcg_sub) => `(tactic| (with_reducible exact Vm.q_count))
local macro_rules | `(tactic| lcg_sub) => `(tactic| ((with_reducible apply Vm.q_lenF); walk_at "num"))
local macro_rules | `(tactic| lcg_sub) => `(tactic| ((with_reducible apply Vm.q_sortF); walk_at "num"; walk_at "num"))
local macro_rules | `(tactic| lcg_sub) => `(tactic| ((with_reducible apply Vm.q_lenB); assumption; walk_at "num"))
local macro_rules | `(tactic| lcg_sub) => `(tactic| ((with_reducible apply Vm.q_sortB); assumption; walk_at "num"; walk_at "num"))
local macro_rules | `(tactic| lcg_sub) => `(tactic| ((with_reducible apply Vm.q_getB); assumption; walk_at "num"))
local macro_rules | `(tactic| lcg_sub) => `(tactic| ((with_reducible apply Vm.q_getF); walk_at "num"))
local macro_rules | `(tactic| lcg_sub) => `(tactic| ((with_reducible apply Vm.q_repI); walk_at "num"))
local macro_rules | `(tactic| lcg_sub) => `(tactic| ((with_reducible apply Vm.q_rep0); walk_at "num"))
local macro_rules | `(tactic| lcg_sub) => `(tactic| ((with_reducible apply Vm.q_catLM); walk_at "len"))
local macro_rules | `(tactic| lcg_sub) => `(tactic| ((with_reducible apply Vm.q_catTM); walk_at "len"))
local macro_rules | `(tactic| lcg_sub) => `(tactic| ((with_reducible apply Vm.q_lenS); walk_at "len"))
local macro_rules | `(tactic| lcg_sub) => `(tactic| ((with_reducible apply Vm.q_catS); walk_at "len"))
local macro_rules | `(tactic| lcg_sub) => `(tactic| with_reducible exact Vm.q_inSL)
local macro_rules | `(tactic| lcg_sub) => `(tactic| with_reducible exact Vm.q_neSL)
local macro_rules | `(tactic| lcg_sub) => `(tactic| with_reducible exact Vm.q_eqSL)
local macro_rules | `(tactic| lcg_sub) => `(tactic| with_reducible exact Vm.q_oIadd)
local macro_rules | `(tactic| walk_at "op") => `(tactic| lcg_sub)
local macro_rules | `(tactic| walk_at "isi") => `(tactic| first | with_reducible exact Vm.q_isi_list_list | with_reducible exact Vm.q_isi_list_tuple | with_reducible exact Vm.q_isi_list_int | with_reducible exact Vm.q_isi_list_bool | with_reducible exact Vm.q_isi_list_str | with_reducible exact Vm.q_isi_list_none | with_reducible exact Vm.q_isi_tuple_list | with_reducible exact Vm.q_isi_tuple_tuple | with_reducible exact Vm.q_isi_tuple_int | with_reducible exact Vm.q_isi_tuple_bool | with_reducible exact Vm.q_isi_tuple_str | with_reducible exact Vm.q_isi_tuple_none | with_reducible exact Vm.q_isi_int_list | with_reducible exact Vm.q_isi_int_tuple | with_reducible exact Vm.q_isi_int_int | with_reducible exact Vm.q_isi_int_bool | with_reducible exact Vm.q_isi_int_str | with_reducible exact Vm.q_isi_int_none | with_reducible exact Vm.q_isi_bool_list | with_reducible exact Vm.q_isi_bool_tuple | with_reducible exact Vm.q_isi_bool_int | with_reducible exact Vm.q_isi_bool_bool | with_reducible exact Vm.q_isi_bool_str | with_reducible exact Vm.q_isi_bool_none | with_reducible exact Vm.q_isi_str_list | with_reducible exact Vm.q_isi_str_tuple | with_reducible exact Vm.q_isi_str_int | with_reducible exact Vm.q_isi_str_bool | with_reducible exact Vm.q_isi_str_str | with_reducible exact Vm.q_isi_str_none | with_reducible exact Vm.q_isi_dict_list | with_reducible exact Vm.q_isi_dict_tuple | with_reducible exact Vm.q_isi_dict_int | with_reducible exact Vm.q_isi_dict_bool | with_reducible exact Vm.q_isi_dict_str | with_reducible exact Vm.q_isi_dict_none)
local macro_rules | `(tactic| walk_at "at") => `(tactic| with_reducible first | exact Vm.atI_lastM | exact Vm.atI_m0 | exact Vm.atI_m1 | exact Vm.atI_m2 | exact Vm.atI_m3 | exact Vm.atI_m4)
local macro_rules | `(tactic| walk_at "mth") => `(tactic| first
 | ((with_reducible apply Vm.q_app); walk_at "sz") | ((with_reducible apply Vm.q_extT); walk_at "len") | ((with_reducible apply Vm.q_extL); walk_at "len"))
local macro_rules | `(tactic| walk_at "put") => `(tactic| (simp only [List.set_cons_zero, List.set_cons_succ]; exact rfl))
local macro_rules | `(tactic| walk_at "ix") => `(tactic| with_reducible first | exact Vm.lset0 | exact Vm.lset1 | exact Vm.lset2 | exact Vm.lsetL | (apply Vm.lsetM; omega) | (apply Vm.lsetN; omega))
local macro_rules | `(tactic| walk_at "spec") => `(tactic| fail "no spec")
local macro_rules | `(tactic| k_updF) => `(tactic| ((with_reducible apply Vm.mt_); (focus (exact rfl)); (focus (walk_at "op")); (focus (exact inferInstance))))
local macro_rules | `(tactic| k_updF) => `(tactic| ((with_reducible apply Vm.mo_); (focus (exact rfl)); (focus (exact rfl))))
local macro_rules | `(tactic| k_updF) => `(tactic| with_reducible apply Vm.we_meth)
local macro_rules | `(tactic| k_updF) => `(tactic| with_reducible apply Vm.we_lc)
local macro_rules | `(tactic| k_updF) => `(tactic| with_reducible apply Vm.ws_ct)
local macro_rules | `(tactic| k_updF) => `(tactic| with_reducible apply Vm.ws_bk)
local macro_rules | `(tactic| k_updF) => `(tactic| with_reducible apply Vm.ws_retN)
local macro_rules | `(tactic| k_updF) => `(tactic| ((with_reducible apply Vm.we_callE); (focus (exact rfl)); (focus (walk_at "spec")); (focus (exact inferInstance))))
local macro_rules | `(tactic| k_updF) => `(tactic| ((with_reducible apply Vm.we_fldE); (focus (exact rfl))))
local macro_rules | `(tactic| k_updF) => `(tactic| ((with_reducible apply Vm.we_isE); (focus (exact rfl)); (focus (exact rfl))))
local macro_rules | `(tactic| k_updF) => `(tactic| ((with_reducible apply Vm.wtry_t); (focus (exact rfl)); (focus (exact rfl)); (focus (with_reducible first | exact Vm.encX_n | exact Vm.encX_s)); (focus (exact inferInstance))))
local macro_rules | `(tactic| k_updF) => `(tactic| with_reducible apply Vm.ws_try)
local macro_rules | `(tactic| k_updF) => `(tactic| with_reducible apply Vm.ws_raiseG)
local macro_rules | `(tactic| k_updF) => `(tactic| with_reducible apply Vm.ws_raise)
local macro_rules | `(tactic| k_updF) => `(tactic| ((with_reducible apply Vm.we_lenSc); (focus (exact rfl))))
local macro_rules | `(tactic| k_updF) => `(tactic| with_reducible apply Vm.we_fzv)
local macro_rules | `(tactic| k_updF) => `(tactic| ((with_reducible apply Vm.ch_); (focus (exact rfl)); (focus (walk_at "op"))))
local macro_rules | `(tactic| k_updF) => `(tactic| with_reducible apply Vm.we_chain)
local macro_rules | `(tactic| k_updF) => `(tactic| with_reducible apply Vm.we_notV)
local macro_rules | `(tactic| k_updF) => `(tactic| with_reducible apply Vm.we_orV)
local macro_rules | `(tactic| k_updF) => `(tactic| with_reducible apply Vm.we_andV)
local macro_rules | `(tactic| k_updF) => `(tactic| with_reducible apply Vm.we_ifE)
local macro_rules | `(tactic| k_updF) => `(tactic| ((with_reducible refine Exists.intro _ (And.intro (rfl : PyData.tuple _ = PyData.tuple _) ?_))))
local macro_rules | `(tactic| k_updF) => `(tactic| ((with_reducible refine Exists.intro _ (And.intro (rfl : PyData.list _ = PyData.list _) ?_))))
local macro_rules | `(tactic| k_updF) => `(tactic| ((with_reducible apply Vm.wk_st)))
local macro_rules | `(tactic| k_updF) => `(tactic| ((with_reducible apply Vm.wk_b); (focus (exact rfl))))
local macro_rules | `(tactic| k_updF) => `(tactic| ((with_reducible apply Vm.wz_of); (focus (exact rfl)); (focus (exact rfl)); (focus (exact rfl))))
local macro_rules | `(tactic| k_updF) => `(tactic| with_reducible apply Vm.wi_itZ)
local macro_rules | `(tactic| k_updF) => `(tactic| with_reducible apply Vm.wi_itET)
local macro_rules | `(tactic| k_updF) => `(tactic| with_reducible apply Vm.wi_itE)
local macro_rules | `(tactic| k_updF) => `(tactic| with_reducible apply Vm.wi_itT)
local macro_rules | `(tactic| k_updF) => `(tactic| with_reducible apply Vm.wi_itL)
local macro_rules | `(tactic| k_updF) => `(tactic| ((with_reducible apply Vm.ws_lockO); (focus (exact rfl)); (focus (exact inferInstance)); (focus (exact rfl)); (focus (exact rfl)); (focus (exact inferInstance)); (focus (exact inferInstance))))
local macro_rules | `(tactic| k_updF) => `(tactic| ((with_reducible apply Vm.ws_lockOO); (focus (exact rfl)); (focus (exact rfl)); (focus (exact inferInstance))))
local macro_rules | `(tactic| k_updF) => `(tactic| ((with_reducible apply Vm.ws_lockF); (focus (exact rfl)); (focus (exact rfl)); (focus (exact inferInstance)); (focus (exact inferInstance))))
local macro_rules | `(tactic| k_updF) => `(tactic| ((with_reducible apply Vm.ws_lockB); (focus (exact rfl)); (focus (exact rfl)); (focus (exact inferInstance)); (focus (exact inferInstance))))
local macro_rules | `(tactic| k_updF) => `(tactic| ((with_reducible apply Vm.wi_itD); (focus (exact rfl))))
local macro_rules | `(tactic| k_updF) => `(tactic| with_reducible apply Vm.wi_rng3)
local macro_rules | `(tactic| k_updF) => `(tactic| with_reducible apply Vm.we_lrg2)
local macro_rules | `(tactic| k_updF) => `(tactic| with_reducible apply Vm.we_lrg1)
local macro_rules | `(tactic| k_updF) => `(tactic| ((with_reducible apply Vm.wr2_of); (focus (exact rfl)); (focus (exact rfl)); (focus (omega)); (focus (exact rfl))))
local macro_rules | `(tactic| k_updF) => `(tactic| ((with_reducible apply Vm.wr1_of); (focus (exact rfl)); (focus (omega))))
local macro_rules | `(tactic| k_updF) => `(tactic| ((with_reducible apply Vm.wr1_n); (focus (exact rfl)); (focus (omega))))
local macro_rules | `(tactic| k_updF) => `(tactic| with_reducible apply Vm.wi_rng2)
local macro_rules | `(tactic| k_updF) => `(tactic| with_reducible apply Vm.wi_rng1)
local macro_rules | `(tactic| k_updF) => `(tactic| ((with_reducible apply Vm.sl_); (focus (exact rfl)); (focus (walk_at "op")); (focus (exact inferInstance))))
local macro_rules | `(tactic| k_updF) => `(tactic| ((with_reducible apply Vm.wpt_of); (focus (exact rfl))))
local macro_rules | `(tactic| k_updF) => `(tactic| with_reducible apply Vm.wp_part)
local macro_rules | `(tactic| k_updF) => `(tactic| with_reducible apply Vm.wp_no)
local macro_rules | `(tactic| k_updF) => `(tactic| with_reducible apply Vm.we_sl)
local macro_rules | `(tactic| k_updF) => `(tactic| ((with_reducible apply Vm.o1_); (focus (exact rfl)); (focus (walk_at "isi")); (focus (exact inferInstance))))
local macro_rules | `(tactic| k_updF) => `(tactic| with_reducible apply Vm.we_isi)
local macro_rules | `(tactic| k_updF) => `(tactic| with_reducible apply Vm.we_dnew)
local macro_rules | `(tactic| k_updF) => `(tactic| ((with_reducible apply Vm.wg_tup); (focus (exact rfl))))
local macro_rules | `(tactic| k_updF) => `(tactic| with_reducible apply Vm.wgs_cons)
local macro_rules | `(tactic| k_updF) => `(tactic| with_reducible apply Vm.wgs_nil)
local macro_rules | `(tactic| k_updF) => `(tactic| ((with_reducible apply Vm.wg_name); (focus (exact inferInstance)); (focus (exact rfl))))
local macro_rules | `(tactic| k_updF) => `(tactic| with_reducible apply Vm.ws_asgG)
local macro_rules | `(tactic| k_updF) => `(tactic| ((with_reducible apply Vm.au_); (focus (exact rfl)); (focus (exact rfl)); (focus (walk_at "op")); (focus (exact inferInstance))))
local macro_rules | `(tactic| k_updF) => `(tactic| ((with_reducible apply Vm.ws_aug); (focus (exact rfl))))
local macro_rules | `(tactic| k_updF) => `(tactic| ((with_reducible apply Vm.si_); (focus (exact rfl)); (focus (exact rfl)); (focus (walk_at "ix")); (focus (exact inferInstance))))
local macro_rules | `(tactic| k_updF) => `(tactic| ((with_reducible apply Vm.ws_setI); (focus (exact rfl))))
local macro_rules | `(tactic| k_updF) => `(tactic| ((with_reducible apply Vm.we_dpop); (focus (exact rfl))))
local macro_rules | `(tactic| k_updF) => `(tactic| ((with_reducible apply Vm.wdp_of); (focus (exact rfl)); (focus (exact rfl)); (focus (exact rfl)); (focus (walk_at "sz")); (focus (walk_at "put")); (focus (exact inferInstance))))
local macro_rules | `(tactic| k_updF) => `(tactic| ((with_reducible apply Vm.ws_dput); (focus (exact rfl))))
local macro_rules | `(tactic| k_updF) => `(tactic| ((with_reducible apply Vm.wm_of); (focus (exact rfl)); (focus (walk_at "mth")); (focus (exact inferInstance))))
local macro_rules | `(tactic| k_updF) => `(tactic| ((with_reducible apply Vm.we_methL); (focus (exact rfl))))
local macro_rules | `(tactic| k_updF) => `(tactic| with_reducible apply Vm.ws_drop)
local macro_rules | `(tactic| k_updF) => `(tactic| with_reducible apply Vm.ws_for)
local macro_rules | `(tactic| k_updF) => `(tactic| ((with_reducible refine And.intro (a := _ < sizeLine) ?_ ?_); (focus (walk_at "sz"))))
local macro_rules | `(tactic| k_updF) => `(tactic| ((with_reducible refine And.intro (a := _ ≤ sizeLine) ?_ ?_); (focus (walk_at "sz"))))
local macro_rules | `(tactic| k_updF) => `(tactic| ((with_reducible apply Vm.st_slo); (focus (exact rfl)); (focus (exact inferInstance))))
local macro_rules | `(tactic| k_updF) => `(tactic| ((with_reducible apply Vm.st_slf); (focus (exact rfl))))
local macro_rules | `(tactic| k_updF) => `(tactic| with_reducible apply Vm.st_ow)
local macro_rules | `(tactic| k_updF) => `(tactic| with_reducible apply Vm.st_fz)
local macro_rules | `(tactic| k_updF) => `(tactic| with_reducible apply Vm.sts_cons)
local macro_rules | `(tactic| k_updF) => `(tactic| with_reducible apply Vm.sts_nil)
local macro_rules | `(tactic| k_updF) => `(tactic| with_reducible apply Vm.we_tup)
local macro_rules | `(tactic| k_updF) => `(tactic| with_reducible apply Vm.we_lst)
local macro_rules | `(tactic| k_updF) => `(tactic| with_reducible apply Vm.wt_yes)
local macro_rules | `(tactic| k_updF) => `(tactic| with_reducible apply Vm.wt_not)
local macro_rules | `(tactic| k_updF) => `(tactic| with_reducible apply Vm.wt_and)
local macro_rules | `(tactic| k_updF) => `(tactic| with_reducible apply Vm.wt_or)
local macro_rules | `(tactic| k_updF) => `(tactic| ((with_reducible apply Vm.rt_slo); (focus (exact rfl)); (focus (exact inferInstance))))
local macro_rules | `(tactic| k_updF) => `(tactic| ((with_reducible apply Vm.rt_slf); (focus (exact rfl))))
local macro_rules | `(tactic| k_updF) => `(tactic| with_reducible apply Vm.rt_ow)
local macro_rules | `(tactic| k_updF) => `(tactic| with_reducible apply Vm.rt_fz)
local macro_rules | `(tactic| k_updF) => `(tactic| with_reducible apply Vm.ws_ret)
local macro_rules | `(tactic| k_updF) => `(tactic| ((with_reducible apply Vm.c_er); (focus (exact ⟨rfl, rfl⟩)); (focus (exact rfl)); (focus (walk_at "spec")); (focus (exact inferInstance))))
local macro_rules | `(tactic| k_updF) => `(tactic| ((with_reducible apply Vm.c_ok); (focus (exact ⟨rfl, rfl⟩)); (focus (exact rfl)); (focus (walk_at "spec")); (focus (exact inferInstance)); (focus (exact inferInstance))))
local macro_rules | `(tactic| k_updF) => `(tactic| ((with_reducible apply Vm.c_dok); (focus (exact ⟨rfl, rfl⟩)); (focus (exact rfl)); (focus (walk_at "spec")); (focus (exact inferInstance)); (focus (exact inferInstance))))
local macro_rules | `(tactic| k_updF) => `(tactic| with_reducible apply Vm.wa_nil)
local macro_rules | `(tactic| k_updF) => `(tactic| with_reducible apply Vm.wa_cons)
local macro_rules | `(tactic| k_updF) => `(tactic| with_reducible apply Vm.we_call)
local macro_rules | `(tactic| k_updF) => `(tactic| with_reducible apply Vm.ws_next)
local macro_rules | `(tactic| k_updF) => `(tactic| with_reducible apply Vm.ws_if)
local macro_rules | `(tactic| k_updF) => `(tactic| ((with_reducible apply Vm.wu_); (focus (exact rfl)); (focus (exact inferInstance))))
local macro_rules | `(tactic| k_updF) => `(tactic| with_reducible apply Vm.ws_fgtL)
local macro_rules | `(tactic| k_updF) => `(tactic| ((with_reducible apply Vm.ww_); (focus (exact inferInstance))))
local macro_rules | `(tactic| k_updF) => `(tactic| with_reducible apply Vm.ws_fgt)
local macro_rules | `(tactic| k_updF) => `(tactic| ((with_reducible apply Vm.asg_slo); (focus (exact rfl)); (focus (exact inferInstance)); (focus (exact inferInstance)); (focus (exact rfl))))
local macro_rules | `(tactic| k_updF) => `(tactic| ((with_reducible apply Vm.asg_slf); (focus (exact rfl)); (focus (exact inferInstance)); (focus (exact rfl))))
local macro_rules | `(tactic| k_updF) => `(tactic| ((with_reducible apply Vm.asg_ow); (focus (exact inferInstance)); (focus (exact rfl))))
local macro_rules | `(tactic| k_updF) => `(tactic| ((with_reducible apply Vm.asg_fz); (focus (exact inferInstance)); (focus (exact rfl))))
local macro_rules | `(tactic| k_updF) => `(tactic| with_reducible apply Vm.ws_asg)
local macro_rules | `(tactic| k_updF) => `(tactic| ((with_reducible apply Vm.o1_); (focus (exact rfl)); (focus (walk_at "op")); (focus (exact inferInstance))))
local macro_rules | `(tactic| k_updF) => `(tactic| with_reducible apply Vm.we_op1)
local macro_rules | `(tactic| k_updF) => `(tactic| ((with_reducible apply Vm.wb_of); (focus (exact rfl))))
local macro_rules | `(tactic| k_updF) => `(tactic| with_reducible apply Vm.wt_test)
local macro_rules | `(tactic| k_updF) => `(tactic| ((with_reducible apply Vm.o2_); (focus (exact rfl)); (focus (exact rfl)); (focus (walk_at "op")); (focus (exact inferInstance))))
local macro_rules | `(tactic| k_updF) => `(tactic| with_reducible apply Vm.we_op2)
local macro_rules | `(tactic| k_updF) => `(tactic| with_reducible apply Vm.we_K)
local macro_rules | `(tactic| k_updF) => `(tactic| ((with_reducible apply Vm.we_var); (focus (exact rfl))))
local macro_rules | `(tactic| k_updF) => `(tactic| with_reducible apply Vm.ws_seq)
local macro_rules | `(tactic| walk_at "step") => `(tactic| k_updF)
local macro_rules | `(tactic| walk_at "if") => `(tactic| first
 | ((with_reducible refine Vm.ite_F ?_ ?_); (focus (walk_at "dec")))
 | ((with_reducible refine Vm.ite_T ?_ ?_); (focus (walk_at "dec"))))
local macro_rules | `(tactic| walk_at "go") => `(tactic| repeat (first | walk_at "step" | walk_at "if"))
local macro_rules | `(tactic| walk_at "fn") => `(tactic| ((with_reducible apply Vm.wf_run'); (focus (exact rfl)); (focus (exact rfl)); (focus (exact inferInstance)); (try with_reducible apply Vm.ws_dry)))
theorem take_eq {a n : Int} (hn : 0 < n) (hn2 : n ≤ 10 ^ 60) : m__law_take [(.o false true, pvD a), (.f, .int n)] = .ok (.fz (.int (a % n))) [some (.o false true, pvD (a / n)), none] := wf_eq (by
 unfold pvD m__law_take
 walk_at "fn"
 unfold r__law_take
 walk_at "go"
 exact ⟨rfl, rfl⟩)
local macro_rules | `(tactic| walk_at "spec") => `(tactic| (with_reducible refine take_eq ?_ ?_) <;> walk_at "num")
local macro_rules | `(tactic| walk_at "op") => `(tactic| with_reducible first | exact Vm.q_pow18 | exact Vm.q_int_b)
theorem dig_ok (ns : List Int) (k : Int) (h0 : 0 ≤ k) (h1 : k ≤ 1000) : ∃ a : Int, m__law_digits [(.s, .list (ns.map PyData.int)), (.f, .int k)] = .ok (.ow false (pvD a)) [none, none] := by
 obtain ⟨j, rfl⟩ : ∃ j : Nat, k = (j : Int) := ⟨k.toNat, by omega⟩
 have key : Wf (m__law_digits [(.s, .list (ns.map PyData.int)), (.f, .int (j : Int))]) (fun r io => ∃ a, r = .ow false (pvD a) ∧ io = [none, none]) (fun _ _ => False) := by
  unfold m__law_digits
  walk_at "fn"
  unfold r__law_digits
  refine ws_cut (fun ρ => ∃ c : Int, ρ = [none, some (.f, .int (j : Int)), some (.f, .int c), none, none, none]) ?_ ?_
  ·walk_at "go"
   refine ite_b (fun q => ?_) (fun q => ?_)
   ·have q : j < ns.length := by have := of_decide_eq_true q; rw [List.length_map] at this; omega
    refine Vm.we_ixSc rfl ?_
    walk_at "go"
    refine ⟨(j : Int), ns[j], rfl, Vm.atI_map q, ?_⟩
    walk_at "go"
    exact ⟨_, rfl⟩
   ·walk_at "go"
    exact ⟨_, rfl⟩
  ·rintro ρ ⟨c, rfl⟩
   walk_at "go"
   refine ite_b (fun q => ?_) (fun q => ?_)
   ·walk_at "go"
    exact ⟨_, rfl, rfl⟩
   ·walk_at "go"
    have hb := pv_lt (c * 48271 + 7919 * (j : Int) + 11) (n := 2147483647) (by decide)
    generalize (c * 48271 + 7919 * (j : Int) + 11) % 2147483647 = x at hb
    refine wl_rng (fun _ ρ => ∃ t y : Int, (0 ≤ y ∧ y < 2147483647) ∧ ρ = [none, none, none, some (.f, .int t), some (.f, .int y), none]) ⟨_, _, hb, rfl⟩ ?_ ?_
    ·rintro k ρ hk ⟨t, y, hy, rfl⟩
     walk_at "go"
     unfold b1__law_digits
     walk_at "go"
     have hb := pv_lt (y * y + 48271 * y + (0 + (k : Int))) (n := 2147483629) (by decide)
     generalize (y * y + 48271 * y + (0 + (k : Int))) % 2147483629 = z at hb
     walk_at "go"
     exact ⟨_, _, ⟨hb.1, by omega⟩, rfl⟩
    ·rintro ρ ⟨t, y, hy, rfl⟩
     walk_at "go"
     exact ⟨_, rfl, rfl⟩
 obtain ⟨z, io, e, a, rfl, rfl⟩ := wf_ex key
 exact ⟨a, e⟩
theorem signs_eq : m__law_signs [] = .ok (.fz (.str (sL Vm.signs))) [] := wf_eq (by
 unfold m__law_signs
 walk_at "fn"
 unfold r__law_signs
 rw [signs_sL]
 walk_at "go"
 exact ⟨rfl, rfl⟩)
theorem names_ok (a : Int) {n : Int} (h0 : 0 ≤ n) (h1 : n ≤ 36) : ∃ (b : Int) (L : List (List Nat)), L.length = n.toNat ∧ (∀ l ∈ L, Nm l ∧ 1 ≤ l.length ∧ l.length ≤ 18) ∧ L.Nodup ∧ m__law_names [(.o false true, pvD a), (.f, .int n)] = .ok (.ow false (.list (L.map dStr))) [some (.o false true, pvD b), none] := by
 have key : Wf (m__law_names [(.o false true, pvD a), (.f, .int n)]) (fun z io => ∃ (b : Int) (L : List (List Nat)), L.length = n.toNat ∧ (∀ l ∈ L, Nm l ∧ 1 ≤ l.length ∧ l.length ≤ 18) ∧ L.Nodup ∧ z = .ow false (.list (L.map dStr)) ∧ io = [some (.o false true, pvD b), none]) (fun _ _ => False) := by
  unfold m__law_names
  walk_at "fn"
  unfold r__law_names
  rw [empty_sL]
  walk_at "go"
  unfold rgD
  refine wx_compW (fun i : Nat => PyData.int (0 + (i : Int))) (fun pre acc ρ => ∃ (b : Int) (l : List Nat), Nm l ∧ l.length = pre.length ∧ acc = l.map (fun c => .str (sL [c])) ∧ ρ = [some (.o false true, pvD b), some (.f, .int n), none, none, none, none, none, none, none]) (by rintro pre acc ρ ⟨b, l, _, _, _, rfl⟩; rfl) ⟨a, [], (fun _ h => nomatch h), rfl, rfl, rfl⟩ ?_ ?_
  ·rintro pre x post acc ρ hx ⟨b, l, hl, hll, rfl, rfl⟩
   have hxl := congrArg List.length hx
   rw [List.length_range, List.length_append, List.length_cons] at hxl
   have hxl : 17 = pre.length + (post.length + 1) := hxl
   walk_at "go"
   refine c_dok ⟨rfl, rfl⟩ rfl signs_eq inferInstance inferInstance ?_
   obtain ⟨c, hc, ec⟩ := sign_at b
   walk_at "go"
   refine o2_ rfl rfl ec inferInstance ?_
   walk_at "go"
   refine ⟨_, l ++ [c], ?_, by simp [hll], by rw [List.map_append]; rfl, rfl⟩
   intro d hd
   rcases List.mem_append.mp hd with hd | hd
   ·exact hl d hd
   ·rw [List.mem_singleton] at hd; subst hd; exact hc
  ·rintro acc ρ ⟨b, base, hb, hbl, rfl, rfl⟩
   have hbl : base.length = 17 := by rw [hbl, List.length_range]; rfl
   walk_at "go"
   refine mt_ rfl (join_signs (by omega)) inferInstance ?_
   walk_at "go"
   generalize hah : decide (b / 36 % 4 = 0) = ahead
   generalize b / 36 / 4 = b1
   generalize b % 36 = first
   refine wl_rng (fun k ρ => ∃ (b : Int) (L : List (List Nat)), L.length = k ∧ (∀ l ∈ L, Nm l ∧ 1 ≤ l.length ∧ l.length ≤ 18) ∧ (∀ (j : Nat) (hj : j < L.length), endS ahead L[j] = some (sgK first j)) ∧ ρ = [some (.o false true, pvD b), some (.f, .int n), some (.f, dStr base), some (.f, .int first), some (.f, .bool ahead), some (.o false false, .list (L.map dStr)), none, none, none]) ⟨b1, [], rfl, (fun _ h => nomatch h), (fun _ h => nomatch h), rfl⟩ ?_ ?_
   ·rintro k ρ hk ⟨b, L, hLl, hL, hE, rfl⟩
    have hsg := pv_lt (first + 7 * (0 + (k : Int))) (n := 36) (by decide)
    have hs1 : ((first + 7 * (0 + (k : Int))) % 36).toNat < Vm.signs.length := by rw [signs_len]; omega
    have hsk : Vm.signs[((first + 7 * (0 + (k : Int))) % 36).toNat] = sgK first k := by
     unfold sgK
     rw [show ((first + 7 * (k : Int)) % 36).toNat = ((first + 7 * (0 + (k : Int))) % 36).toNat by rw [Int.zero_add], List.getD_eq_getElem?_getD, List.getElem?_eq_getElem hs1]; rfl
    have hsm : sgK first k ∈ Vm.signs := hsk ▸ List.getElem_mem hs1
    have esg : oIxS (.str (sL Vm.signs)) (.int ((first + 7 * (0 + (k : Int))) % 36)) = some (.fz (.str (sL [sgK first k]))) := by
     rw [q_ixS (k := ((first + 7 * (0 + (k : Int))) % 36).toNat) (by omega) hs1 (by rw [signs_len]; omega), hsk]
    have snoc : ∀ (l : List Nat), Nm l → 1 ≤ l.length → l.length ≤ 18 → endS ahead l = some (sgK first k) → (L ++ [l]).length = k + 1 ∧ (∀ l' ∈ L ++ [l], Nm l' ∧ 1 ≤ l'.length ∧ l'.length ≤ 18) ∧ (∀ (j : Nat) (hj : j < (L ++ [l]).length), endS ahead (L ++ [l])[j] = some (sgK first j)) := by
     intro l h1 h2 h3 h4
     refine ⟨by simp [hLl], ?_, ?_⟩
     ·intro l' hl'
      rcases List.mem_append.mp hl' with h | h
      ·exact hL l' h
      ·rw [List.mem_singleton] at h; subst h; exact ⟨h1, h2, h3⟩
     ·intro j hj
      rw [List.getElem_append]
      split
      ·exact hE j _
      ·rename_i hq
       rw [List.length_append, List.length_singleton] at hj
       have : j = k := by omega
       subst this
       simpa using h4
    walk_at "go"
    unfold b1__law_names
    walk_at "go"
    refine c_dok ⟨rfl, rfl⟩ rfl signs_eq inferInstance inferInstance ?_
    walk_at "go"
    refine o2_ rfl rfl esg inferInstance ?_
    have g1 := pv_lt b (n := 18) (by decide)
    have g2 := pv_lt (b / 18) (n := 8) (by decide)
    have g3 := pv_lt (b / 18 / 8) (n := 2) (by decide)
    walk_at "go"
    obtain ⟨y, hy, ey⟩ := pick (l := [5, 6, 11, 12, 17, 0, 4, 16]) PyData.int g2
    refine o2_ rfl rfl (q_ixL ey) inferInstance ?_
    walk_at "go"
    obtain ⟨z, hz, ez⟩ := pick (l := [b % 18, y]) PyData.int g3
    refine o2_ rfl rfl (q_ixL ez) inferInstance ?_
    have hz2 : 0 ≤ z ∧ z ≤ 17 := by
     simp only [List.mem_cons, List.not_mem_nil, or_false] at hz hy
     omega
    clear ey ez
    walk_at "go"
    cases ahead with
    | true =>
     have g4 := pv_lt z (n := 4) (by decide)
     walk_at "go"
     obtain ⟨c, hc, ec⟩ := pick (l := [6, 11, 12, 17]) PyData.int g4
     refine o2_ rfl rfl (q_ixL ec) inferInstance ?_
     have hc2 : 0 ≤ c ∧ c ≤ 17 := by simp only [List.mem_cons, List.not_mem_nil, or_false] at hc; omega
     walk_at "go"
     refine sl_ rfl (q_slSto (n := c.toNat) (by omega) (by omega)) inferInstance ?_
     walk_at "go"
     have ht : (base.take c.toNat).length ≤ 17 := by rw [List.length_take]; omega
     obtain ⟨s1, s2, s3⟩ := snoc ([sgK first k] ++ base.take c.toNat) (fun d hd => by
      rcases List.mem_append.mp hd with h | h
      ·rw [List.mem_singleton] at h; subst h; exact hsm
      ·exact hb d (List.mem_of_mem_take h)) (by rw [List.length_append, List.length_singleton]; omega) (by rw [List.length_append, List.length_singleton]; omega) (by unfold endS; rw [if_pos rfl]; rfl)
     exact ⟨_, _, s1, s2, s3, by rw [appM]⟩
    | false =>
     walk_at "go"
     refine sl_ rfl (q_slSto (n := z.toNat) (by omega) (by omega)) inferInstance ?_
     walk_at "go"
     have ht : (base.take z.toNat).length ≤ 17 := by rw [List.length_take]; omega
     obtain ⟨s1, s2, s3⟩ := snoc (base.take z.toNat ++ [sgK first k]) (fun d hd => by
      rcases List.mem_append.mp hd with h | h
      ·exact hb d (List.mem_of_mem_take h)
      ·rw [List.mem_singleton] at h; subst h; exact hsm) (by rw [List.length_append, List.length_singleton]; omega) (by rw [List.length_append, List.length_singleton]; omega) (by unfold endS; rw [if_neg Bool.false_ne_true, List.getLast?_append]; rfl)
     exact ⟨_, _, s1, s2, s3, by rw [appM]⟩
   ·rintro ρ ⟨b, L, hLl, hL, hE, rfl⟩
    walk_at "go"
    exact ⟨b, L, hLl, hL, ends_nodup (by omega) hE, rfl, rfl⟩
 obtain ⟨z, io, e, b, L, h1, h2, h3, rfl, rfl⟩ := wf_ex key
 exact ⟨b, L, h1, h2, h3, e⟩
theorem order_ok {α : Type} {f : α → D} (hs : ∀ zs : List α, SeqAt.shaped (.list (zs.map f)) = true) (a : Int) {xs : List α} {g : Fg} (hg : g = .f ∨ g = .b) (hl : xs.length ≤ 1000) :
  ∃ (b : Int) (ys : List α), ys.Perm xs ∧ m__law_order [(.o false true, pvD a), (g, .list (xs.map f))] = .ok (.ow false (.list (ys.map f))) [some (.o false true, pvD b), none] := by
 have key : Wf (m__law_order [(.o false true, pvD a), (g, .list (xs.map f))]) (fun z io => ∃ (b : Int) (ys : List α), ys.Perm xs ∧ z = .ow false (.list (ys.map f)) ∧ io = [some (.o false true, pvD b), none]) (fun _ _ => False) := by
  unfold m__law_order
  walk_at "fn"
  unfold r__law_order
  have e0 : rdT [some (Fg.o false true, pvD a), some (g, PyData.list (xs.map f)), none, none] (.sl 1) = some (.list (xs.map f)) := by rcases hg with rfl | rfl <;> rfl
  walk_at "go"
  refine o1_ e0 q_list inferInstance ?_
  walk_at "go"
  refine ws_whileN (fun k ρ => ∃ (b : Int) (left done : List α), left.length = k ∧ (done ++ left).Perm xs ∧ ρ = [some (.o false true, pvD b), none, some (.o false false, .list (left.map f)), some (.o false false, .list (done.map f))]) ?_ wFuel xs.length _ (by unfold wFuel; omega) ⟨a, xs, [], rfl, by simp, rfl⟩
  rintro k ρ ⟨b, left, done, hk, hp, rfl⟩
  have hlen := hp.length_eq
  rw [List.length_append] at hlen
  unfold c1__law_order
  walk_at "go"
  refine o2_ rfl rfl (q_neNil (hs left)) inferInstance ?_
  walk_at "go"
  cases left with
  | nil =>
   walk_at "go"
   exact ⟨b, done, by simpa using hp, rfl, rfl⟩
  | cons x left =>
   refine ite_T rfl ⟨left.length, by rw [← hk]; rfl, ?_⟩
   unfold b1__law_order
   have hb := pv_lt b (n := ((x :: left).length : Int)) (by rw [List.length_cons]; omega)
   walk_at "go"
   generalize hi : b % ((x :: left).length : Int) = i at hb
   obtain ⟨j, rfl⟩ : ∃ j : Nat, i = (j : Int) := ⟨i.toNat, by omega⟩
   have hj : j < (x :: left).length := by omega
   refine wm_of rfl (q_popAt rfl hj (by omega)) inferInstance ?_
   walk_at "go"
   refine ⟨_, (x :: left).eraseIdx j, done ++ [(x :: left)[j]], by rw [List.length_eraseIdx_of_lt hj]; rfl, ?_, by rw [appM]⟩
   refine List.Perm.trans ?_ hp
   rw [List.append_assoc]
   exact List.Perm.append_left done (perm_eraseIdx hj)
 obtain ⟨z, io, e, b, ys, hp, rfl, rfl⟩ := wf_ex key
 exact ⟨b, ys, hp, e⟩
def nmB (l : List Nat) : Bool := decide (1 ≤ l.length) && (decide (l.length ≤ 18) && l.all fun c => decide (c ∈ Vm.signs))
theorem nmB_iff {l : List Nat} : nmB l = true ↔ NmOk l := by
 unfold nmB NmOk Nm
 rw [Bool.and_eq_true, Bool.and_eq_true, decide_eq_true_iff, decide_eq_true_iff, List.all_eq_true]
 constructor
 ·rintro ⟨h1, h2, h3⟩
  exact ⟨fun c hc => of_decide_eq_true (h3 c hc), h1, h2⟩
 ·rintro ⟨h1, h2, h3⟩
  exact ⟨h2, h3, fun c hc => decide_eq_true (h1 c hc)⟩
theorem shp_strs {ls : List (List Nat)} (h : ∀ l ∈ ls, TOk (sL l)) : SeqAt.shaped (.list (ls.map dStr)) = true := (shp_list (n := 0) fun d hd => by
 obtain ⟨l, hl, rfl⟩ := List.mem_map.mp hd
 exact shp_str (h l hl)).shaped
theorem all_filter {l : List Nat} : ((l.filter fun c => !decide (c ∈ Vm.signs)).map fun c => dStr [c]).isEmpty = l.all fun c => decide (c ∈ Vm.signs) := by
 induction l with
 | nil => rfl
 | cons c l ih =>
  by_cases h : c ∈ Vm.signs
  ·rw [List.filter_cons_of_neg (by simp [h]), ih, List.all_cons, decide_eq_true h]; rfl
  ·rw [List.filter_cons_of_pos (by simp [h]), List.all_cons, decide_eq_false h]; rfl
theorem isname_eq {l : List Nat} (hT : TOk (sL l)) (hl : l.length ≤ 1000) : m_is_name [(.f, .str (sL l))] = .ok (.fz (.bool (nmB l))) [none] := wf_eq (by
 unfold m_is_name
 walk_at "fn"
 unfold r_is_name
 rw [signs_sL]
 walk_at "go"
 refine ite_b (fun h1 => ?_) (fun h1 => ?_)
 ·have h1 := of_decide_eq_true h1
  walk_at "go"
  refine ite_b (fun h2 => ?_) (fun h2 => ?_)
  ·have h2 : ¬ (l.length : Int) ≤ 18 := by simpa using h2
   walk_at "go"
   refine ⟨?_, rfl⟩
   unfold nmB
   rw [decide_eq_false (show ¬ l.length ≤ 18 by omega), Bool.false_and, Bool.and_false]
  ·have h2 : (l.length : Int) ≤ 18 := by simpa using h2
   walk_at "go"
   refine wi_itS ?_
   walk_at "go"
   refine ⟨_, rfl, ?_⟩
   rw [sL_cps]
   refine wx_lcf (fun c => PyData.str (sgn c)) (fun c => !decide (c ∈ Vm.signs)) (fun c => dStr [c]) (by omega) inferInstance ?_ ?_
   ·intro c hc
    rw [sgn_sL]
    walk_at "go"
    refine ⟨rfl, ?_⟩
    refine ite_b (fun e => ?_) (fun e => ?_)
    ·walk_at "go"
     exact ⟨rfl, rfl⟩
    ·walk_at "go"
     rfl
   ·walk_at "go"
    refine o2_ rfl rfl (q_eqNil ?_) inferInstance ?_
    ·have := shp_strs (ls := (l.filter fun c => !decide (c ∈ Vm.signs)).map fun c => [c]) (fun p hp => by
      obtain ⟨c, hc, rfl⟩ := List.mem_map.mp hp
      intro d hd
      rw [sL_cps, List.mem_singleton] at hd
      subst hd
      exact hT d (by rw [sL_cps]; exact (List.mem_filter.mp hc).1))
     rw [List.map_map] at this
     exact this
    ·walk_at "go"
     refine ⟨?_, rfl⟩
     rw [all_filter]
     unfold nmB
     rw [decide_eq_true (show 1 ≤ l.length by omega), decide_eq_true (show l.length ≤ 18 by omega)]; rfl
 ·have h1 : ¬ (1 : Int) ≤ (l.length : Int) := by simpa using h1
  walk_at "go"
  refine ⟨?_, rfl⟩
  unfold nmB
  rw [decide_eq_false (show ¬ 1 ≤ l.length by omega), Bool.false_and])
def srtA {α : Type} (nm : α → List Nat) (xs : List α) : List α := xs.mergeSort fun a b => nmLe (nm a) (nm b)
theorem nmLe_tr (a b c : List Nat) (h1 : nmLe a b = true) (h2 : nmLe b c = true) : nmLe a c = true := by
 unfold nmLe at *
 simp only [Bool.not_eq_true', decide_eq_false_iff_not, List.not_lt] at *
 exact List.le_trans h1 h2
theorem nmLe_tot (a b : List Nat) : (nmLe a b || nmLe b a) = true := by
 unfold nmLe
 simp only [Bool.or_eq_true, Bool.not_eq_true', decide_eq_false_iff_not, List.not_lt]
 exact List.le_total a b
theorem nmLe_anti {a b : List Nat} (h1 : nmLe a b = true) (h2 : nmLe b a = true) : a = b := by
 unfold nmLe at *
 simp only [Bool.not_eq_true', decide_eq_false_iff_not, List.not_lt] at *
 exact List.le_antisymm h1 h2
theorem srtA_perm {α : Type} {nm : α → List Nat} {xs ys : List α} (hp : xs.Perm ys) (hn : (xs.map nm).Nodup) : srtA nm xs = srtA nm ys := by
 unfold srtA
 have p1 : (xs.mergeSort fun a b => nmLe (nm a) (nm b)).Perm (ys.mergeSort fun a b => nmLe (nm a) (nm b)) := (List.mergeSort_perm _ _).trans (hp.trans (List.mergeSort_perm _ _).symm)
 have s1 := List.pairwise_mergeSort (le := fun a b => nmLe (nm a) (nm b)) (fun a b c => nmLe_tr _ _ _) (fun a b => nmLe_tot _ _) xs
 have s2 := List.pairwise_mergeSort (le := fun a b => nmLe (nm a) (nm b)) (fun a b c => nmLe_tr _ _ _) (fun a b => nmLe_tot _ _) ys
 have inj : ∀ a ∈ xs, ∀ b ∈ xs, nm a = nm b → a = b := by
  intro a ha b hb e
  obtain ⟨i, hi, rfl⟩ := List.getElem_of_mem ha
  obtain ⟨j, hj, rfl⟩ := List.getElem_of_mem hb
  have e2 : (xs.map nm)[i]'(by rw [List.length_map]; exact hi) = (xs.map nm)[j]'(by rw [List.length_map]; exact hj) := by rw [List.getElem_map, List.getElem_map]; exact e
  have := (List.getElem_inj hn).mp e2
  subst this; rfl
 refine List.Perm.eq_of_pairwise (le := fun a b => nmLe (nm a) (nm b) = true) (fun a b ha hb h1 h2 => ?_) s1 s2 p1
 exact inj a (List.mem_mergeSort.mp ha) b (hp.mem_iff.mpr (List.mem_mergeSort.mp hb)) (nmLe_anti h1 h2)
theorem sL_inj {a b : List Nat} (h : sL a = sL b) : a = b := by rw [← sL_cps a, h, sL_cps]
def TN (S : List (List Nat)) (f : List Nat → D) : List (D × D) := S.map fun l => (dStr l, f l)
def kNm (l : List Nat) : Key ⊕ List Key := .inl (.inr (sL l))
theorem same_nm (a b : List Nat) : sameK (kNm a) (dStr b) = decide (b = a) := by
 have h := sameK_l (.inr (sL a)) (.inr (sL b))
 refine Eq.trans h ?_
 exact decide_eq_decide.mpr ⟨fun e => sL_inj (Sum.inr.inj e), fun e => by rw [e]⟩
def fsetN (f : List Nat → D) (l : List Nat) (d : D) : List Nat → D := fun m => if m = l then d else f m
theorem look_TN : ∀ {S : List (List Nat)} {f : List Nat → D} {l : List Nat}, lookD (TN S f) (kNm l) = if l ∈ S then some (f l) else none
 | [], f, l => by simp [TN, lookD]
 | m :: S, f, l => by
  have ih := look_TN (S := S) (f := f) (l := l)
  unfold lookD TN at ih ⊢
  rw [List.map_cons, List.find?_cons, same_nm]
  by_cases h : m = l
  ·subst h
   rw [decide_eq_true rfl]
   rw [if_pos (List.mem_cons_self ..)]; rfl
  ·rw [decide_eq_false h]
   dsimp only
   rw [ih]
   by_cases hp : l ∈ S
   ·rw [if_pos hp, if_pos (List.mem_cons_of_mem _ hp)]
   ·rw [if_neg hp, if_neg (fun z => by rcases List.mem_cons.mp z with z | z; exact h z.symm; exact hp z)]
theorem any_TN (S : List (List Nat)) (f : List Nat → D) (l : List Nat) : ((TN S f).any fun e => sameK (kNm l) e.1) = decide (l ∈ S) := by
 induction S with
 | nil => simp [TN]
 | cons m S ih =>
  unfold TN at ih ⊢
  rw [List.map_cons, List.any_cons, ih, same_nm]
  by_cases h : m = l
  ·subst h; simp
  ·have : ¬ l = m := fun z => h z.symm
   simp [h, this]
theorem TN_congr {S : List (List Nat)} {f g : List Nat → D} (h : ∀ l ∈ S, f l = g l) : TN S f = TN S g := by
 unfold TN
 apply List.map_congr_left
 intro l hl; rw [h l hl]
theorem putN_new {S : List (List Nat)} {f : List Nat → D} {l : List Nat} {d : D} (h : l ∉ S) : putD (TN S f) (kNm l) (dStr l) d = TN (S ++ [l]) (fsetN f l d) := by
 unfold putD
 rw [any_TN, decide_eq_false h, if_neg Bool.false_ne_true]
 unfold TN
 rw [List.map_append]
 congr 1
 ·apply List.map_congr_left
  intro q hq
  unfold fsetN
  rw [if_neg (fun z => by subst z; exact h hq)]
 ·rw [List.map_singleton]; unfold fsetN; rw [if_pos rfl]
theorem putN_old {S : List (List Nat)} {f : List Nat → D} {l : List Nat} {d : D} (h : l ∈ S) : putD (TN S f) (kNm l) (dStr l) d = TN S (fsetN f l d) := by
 unfold putD
 rw [any_TN, decide_eq_true h, if_pos rfl]
 unfold TN
 rw [List.map_map]
 apply List.map_congr_left
 intro q hq
 dsimp only [Function.comp]
 rw [same_nm]
 unfold fsetN
 by_cases e : q = l
 ·subst e; rw [decide_eq_true rfl, if_pos rfl, if_pos rfl]
 ·rw [decide_eq_false e, if_neg Bool.false_ne_true, if_neg e]
theorem kind_TN {S : List (List Nat)} {f : List Nat → D} (h : S ≠ []) : kindD (TN S f) = some false := by
 cases S with
 | nil => exact absurd rfl h
 | cons m S => rfl
theorem q_getN {S : List (List Nat)} {f : List Nat → D} {l : List Nat} {d : D} (h : l ∈ S) (hd : f l = d) : oDGet (.dict (TN S f)) (dStr l) = some (.fz d) := by
 unfold oDGet
 dsimp only
 rw [kind_TN (fun e => by rw [e] at h; exact nomatch h)]
 dsimp only
 rw [show keyOf false (dStr l) = some (kNm l) from rfl]
 dsimp only
 rw [look_TN, if_pos h, hd]
theorem len_TN (S : List (List Nat)) (f : List Nat → D) : (TN S f).length = S.length := by unfold TN; rw [List.length_map]
def srtL (L : List (List Nat)) : List (List Nat) := srtA id L
theorem srtL_perm (L : List (List Nat)) : (srtL L).Perm L := List.mergeSort_perm _ _
theorem str_map (L : List (List Nat)) : L.map dStr = (L.map sL).map PyData.str := by rw [List.map_map]; rfl
theorem srtS_map (L : List (List Nat)) : srtS (L.map sL) = (srtL L).map sL := by
 unfold srtS srtL srtA
 rw [← List.map_mergeSort (r := fun a b => nmLe (id a) (id b)) (s := fun p q : Str => decide (p.cps.toList ≤ q.cps.toList)) (f := sL) (fun a _ b _ => ?_)]
 dsimp only [id]
 rw [sL_cps, sL_cps]
 unfold nmLe
 exact PySem.W.not_lt_str a b
theorem q_sortS {L : List (List Nat)} : oSortS (.list (L.map dStr)) = some (.ow false (.list ((srtL L).map dStr))) := by
 unfold oSortS
 dsimp only
 rw [str_map, strsD_map]
 dsimp only
 rw [srtS_map, ← str_map]
theorem srtL_le (L : List (List Nat)) : (srtL L).Pairwise fun a b => nmLe a b = true := List.pairwise_mergeSort (le := fun a b => nmLe (id a) (id b)) (fun a b c => nmLe_tr _ _ _) (fun a b => nmLe_tot _ _) L
theorem srtL_eq {L M : List (List Nat)} (hp : L.Perm M) (hn : L.Nodup) : srtL L = srtL M := srtA_perm hp (by rw [List.map_id]; exact hn)
def WG2 (i : Nat) (ρ1 : Vm.Env) (tps : List Tp) (Q : Vm.Env → Tp → Prop) : Prop := ∃ o, kDGet2 i ρ1 tps = .ok ρ1 (.fz o) ∧ Q ρ1 (.fz o)
theorem we_dget2 {ρ : Vm.Env} {Q : Vm.Env → Tp → Prop} {E : XP} {i : Nat} {p : Bool} {kds : List (D × D)} {k z : RE} (hi : ρ[i]? = some (some (.o false p, .dict kds))) (h : Wa (rCons k (rCons z rNil)) ρ (fun ρ1 tps => WG2 i ρ1 tps Q) E) : We (rDGet2 i k z) ρ Q E := by
 unfold We rDGet2
 simp only [hi]
 exact wx_bind (wx_mono h (fun ρ1 tps ⟨o, e, q⟩ => by rw [e]; exact wxo q) (fun _ _ q => q))
theorem wg2_of {ρ : Vm.Env} {Q : Vm.Env → Tp → Prop} {i : Nat} {p : Bool} {S : List (List Nat)} {f : List Nat → D} {tk : Tp} {l : List Nat} {dz o : D} (hi : ρ[i]? = some (some (.o false p, .dict (TN S f)))) (hk : rdT ρ tk = some (dStr l)) (ho : (if l ∈ S then f l else dz) = o) (q : Q ρ (.fz o)) : WG2 i ρ [tk, .fz dz] Q := by
 refine ⟨o, ?_, q⟩
 unfold kDGet2
 dsimp only
 rw [hi, hk]
 dsimp only
 rw [show key1 (dStr l) = some (.inr (sL l)) from rfl]
 dsimp only
 rw [show (Sum.inl (Sum.inr (sL l)) : Key ⊕ List Key) = kNm l from rfl, look_TN, ← ho]
 by_cases h : l ∈ S
 ·rw [if_pos h, if_pos h]
 ·rw [if_neg h, if_neg h]
def lng (l : List Nat) : Bool := decide (6 < l.length)
def cntS (X : List (List Nat)) (st : List Nat) : Nat := (X.filter fun m => lng m && decide (m.take 3 = st)).length
def cntLe (X : List (List Nat)) (l : List Nat) : Nat := (X.filter fun m => lng m && (decide (m.take 3 = l.take 3) && nmLe m l)).length
def z2 (k : Nat) : List Nat := (Txt.zfill (toString (k : Int)) 2).cps.toList
def formS (X : List (List Nat)) (l : List Nat) : List Nat := if l.length ≤ 6 then l else l.take 3 ++ [45] ++ z2 (cntLe X l)
theorem dash_sL : Str.ofString "-" = sL [45] := by decide +kernel
theorem z2_len : ∀ k : Nat, k < 100 → (z2 k).length = 2 := by decide +kernel
theorem cntS_le (X : List (List Nat)) (st : List Nat) : cntS X st ≤ X.length := List.length_filter_le _ _
theorem cntLe_le (X : List (List Nat)) (l : List Nat) : cntLe X l ≤ X.length := List.length_filter_le _ _
theorem cntS_snoc (X : List (List Nat)) (l st : List Nat) : cntS (X ++ [l]) st = cntS X st + if lng l = true ∧ l.take 3 = st then 1 else 0 := by
 unfold cntS
 rw [List.filter_append, List.length_append]
 congr 1
 by_cases h1 : lng l = true
 ·by_cases h2 : l.take 3 = st
  ·rw [if_pos ⟨h1, h2⟩, List.filter_cons_of_pos (by rw [h1, decide_eq_true h2]; rfl)]; rfl
  ·rw [if_neg (fun z => h2 z.2), List.filter_cons_of_neg (by rw [decide_eq_false h2, Bool.and_false]; exact Bool.false_ne_true)]; rfl
 ·have h1' : lng l = false := by simpa using h1
  rw [if_neg (fun z => h1 z.1), List.filter_cons_of_neg (by rw [h1', Bool.false_and]; exact Bool.false_ne_true)]; rfl
theorem cnt_at {pre post : List (List Nat)} {l : List Nat} (hs : (pre ++ l :: post).Pairwise fun a b => nmLe a b = true) (hn : (pre ++ l :: post).Nodup) (hl : lng l = true) : cntLe (pre ++ l :: post) l = cntS pre (l.take 3) + 1 := by
 have h1 : ∀ m ∈ pre, nmLe m l = true := fun m hm => (List.pairwise_append.mp hs).2.2 m hm l List.mem_cons_self
 have h2 : ∀ m ∈ post, nmLe m l = false := fun m hm => by
  have a := (List.pairwise_cons.mp (List.pairwise_append.mp hs).2.1).1 m hm
  cases e : nmLe m l with
  | false => rfl
  | true =>
   have := nmLe_anti a e
   subst this
   have := (List.nodup_cons.mp (List.nodup_append.mp hn).2.1).1
   exact absurd hm this
 unfold cntLe cntS
 rw [List.filter_append, List.length_append]
 have e1 : (pre.filter fun m => lng m && (decide (m.take 3 = l.take 3) && nmLe m l)) = pre.filter fun m => lng m && decide (m.take 3 = l.take 3) := by
  apply List.filter_congr
  intro m hm
  rw [h1 m hm, Bool.and_true]
 have e2 : (post.filter fun m => lng m && (decide (m.take 3 = l.take 3) && nmLe m l)) = [] := by
  rw [List.filter_eq_nil_iff]
  intro m hm
  rw [h2 m hm, Bool.and_false, Bool.and_false]
  exact Bool.false_ne_true
 have e3 : nmLe l l = true := by
  have := nmLe_tot l l
  simpa using this
 rw [e1, List.filter_cons_of_pos (by rw [hl, decide_eq_true rfl, e3]; rfl), e2]
 rfl
theorem two_arg {α β γ : Type} (f : α → β → γ) {a a' : α} {b b' : β} (h : a = a') (g : b = b') : f a b = f a' b' := by subst h; subst g; rfl
theorem q_str {k : Nat} (h : k < 100000) : oStr (.int (k : Int)) = some (.fz (.str (toString (k : Int)))) := by
 show (if (k : Int).natAbs.log2 < 1920 then _ else _) = _
 rw [if_pos]
 rw [Int.natAbs_natCast]
 by_cases h0 : k = 0
 ·subst h0; decide
 ·have := (Nat.log2_lt (n := k) (k := 17) h0).mpr (by omega)
  omega
theorem q_zf {k : Nat} : oZfill [.str (toString (k : Int)), .int 2] = some (.fz (.str (sL (z2 k)))) := by
 unfold oZfill
 dsimp only
 rw [if_pos (by decide)]
 unfold z2
 rw [sL_of]
theorem TN_put {pre : List (List Nat)} {l : List Nat} {F : List Nat → D} {d : D} (h : F l = d) : TN (pre ++ [l]) (fsetN F l d) = TN (pre ++ [l]) F := TN_congr fun m _ => by
 unfold fsetN
 by_cases e : m = l
 ·subst e; rw [if_pos rfl, h]
 ·rw [if_neg e]
theorem cnt_put (pre C : List (List Nat)) (l : List Nat) (hl : lng l = true) (hC1 : C.length ≤ pre.length) (hC2 : ∀ st, st ∉ C → cntS pre st = 0) : ∃ C' : List (List Nat), C'.length ≤ pre.length + 1 ∧ (∀ st, st ∉ C' → cntS (pre ++ [l]) st = 0) ∧ l.take 3 ∈ C' ∧
  putD (TN C fun st => .int (cntS pre st)) (kNm (l.take 3)) (dStr (l.take 3)) (.int ((cntS pre (l.take 3) : Int) + 1)) = TN C' fun st => .int (cntS (pre ++ [l]) st) := by
 have e : ∀ st, st ≠ l.take 3 → cntS (pre ++ [l]) st = cntS pre st := fun st h => by
  rw [cntS_snoc, if_neg (fun z => h z.2.symm)]; rfl
 have e2 : cntS (pre ++ [l]) (l.take 3) = cntS pre (l.take 3) + 1 := by rw [cntS_snoc, if_pos ⟨hl, rfl⟩]
 have e3 : fsetN (fun st => .int (cntS pre st)) (l.take 3) (.int ((cntS pre (l.take 3) : Int) + 1)) = fun st => PyData.int (cntS (pre ++ [l]) st) := by
  funext st
  unfold fsetN
  by_cases h : st = l.take 3
  ·rw [if_pos h, h, e2]; rfl
  ·rw [if_neg h, e st h]
 by_cases h : l.take 3 ∈ C
 ·refine ⟨C, by omega, fun st hst => ?_, h, by rw [putN_old h, e3]⟩
  rw [e st (fun z => hst (z ▸ h)), hC2 st hst]
 ·refine ⟨C ++ [l.take 3], by rw [List.length_append, List.length_singleton]; omega, fun st hst => ?_, by simp, by rw [putN_new h, e3]⟩
  rw [e st (fun z => hst (by rw [z]; simp)), hC2 st (fun z => hst (List.mem_append_left _ z))]
theorem forms_ok {L : List (List Nat)} (hL : ∀ l ∈ L, NmOk l) (hn : L.Nodup) (hl : L.length ≤ 99) {g : Fg} (hg : g = .b ∨ g = .f) : m_short_forms [(g, .list (L.map dStr))] = .ok (.ow false (.dict (TN (srtL L) fun l => dStr (formS (srtL L) l)))) [none] := by
 have hp := srtL_perm L
 have hS : ∀ l ∈ srtL L, NmOk l := fun l h => hL l (hp.mem_iff.mp h)
 have hSn : (srtL L).Nodup := hp.nodup_iff.mpr hn
 have hSl : (srtL L).length ≤ 99 := by rw [hp.length_eq]; exact hl
 have hSs := srtL_le L
 have key : ∀ g : Fg, (g = .b ∨ g = .f) → rdT [some (g, PyData.list (L.map dStr)), none, none, none, none] (.sl 0) = some (.list (L.map dStr)) := fun g hg => by rcases hg with rfl | rfl <;> rfl
 rcases hg with rfl | rfl
 all_goals exact wf_eq (by
  unfold m_short_forms
  walk_at "fn"
  unfold r_short_forms
  walk_at "go"
  refine wl_map dStr (fun _ ρ => ρ = [some (_, .list (L.map dStr)), none, none, none, none]) rfl ?_ ?_
  ·rintro pre l post ρ hx rfl
   have hl1 : NmOk l := hL l (by rw [hx]; simp)
   unfold dStr
   walk_at "go"
   unfold b1_short_forms
   walk_at "go"
   refine c_dok ⟨rfl, rfl⟩ rfl (isname_eq hl1.1.ok (by have := hl1.2; omega)) inferInstance inferInstance ?_
   rw [nmB_iff.mpr hl1]
   walk_at "go"
   rfl
  ·rintro ρ rfl
   walk_at "go"
   refine o1_ rfl q_sortS inferInstance ?_
   walk_at "go"
   generalize srtL L = S at hS hSn hSl hSs
   refine wl_map dStr (fun pre ρ => ∃ C : List (List Nat), C.length ≤ pre.length ∧ (∀ st, st ∉ C → cntS pre st = 0) ∧ ρ = [some (_, .list (L.map dStr)), none, some (.o false false, .dict (TN pre fun l => dStr (formS S l))), some (.o false false, .dict (TN C fun st => .int (cntS pre st))), none]) ⟨[], Nat.le_refl _, fun _ _ => rfl, rfl⟩ ?_ ?_
   ·rintro pre l post ρ hx ⟨C, hC1, hC2, rfl⟩
    have hl1 : NmOk l := hS l (by rw [hx]; simp)
    have hl2 := hl1.2
    have hpl : pre.length ≤ 99 := by have := congrArg List.length hx; rw [List.length_append, List.length_cons] at this; omega
    have hnew : l ∉ pre := fun z => by
     rw [hx] at hSn
     exact (List.nodup_append.mp hSn).2.2 l z l List.mem_cons_self rfl
    walk_at "go"
    unfold b2_short_forms
    rw [dash_sL]
    unfold dStr
    walk_at "go"
    refine ite_b (fun e => ?_) (fun e => ?_)
    ·have e : l.length ≤ 6 := by have := of_decide_eq_true e; omega
     walk_at "go"
     refine wdp_of rfl rfl (rfl : keyOf false (dStr l) = some (kNm l)) (by rw [len_TN]; exact sz_lt' (by omega)) (putN_new hnew) inferInstance ?_
     walk_at "go"
     refine ⟨C, by rw [List.length_append]; omega, fun st hst => ?_, ?_⟩
     ·rw [cntS_snoc, hC2 st hst, if_neg]
      intro z
      have := z.1
      unfold lng at this
      have := of_decide_eq_true this
      omega
     ·have c1 : TN (pre ++ [l]) (fsetN (fun l => dStr (formS S l)) l (dStr l)) = TN (pre ++ [l]) fun l => dStr (formS S l) := TN_put (by unfold formS; rw [if_pos e])
      have c2 : TN C (fun st => PyData.int (cntS pre st)) = TN C fun st => .int (cntS (pre ++ [l]) st) := TN_congr fun st _ => by
       rw [cntS_snoc, if_neg]; rfl
       intro z
       have := z.1
       unfold lng at this
       have := of_decide_eq_true this
       omega
      exact two_arg (fun a b => [some (_, PyData.list (L.map dStr)), none, some (Fg.o false false, PyData.dict a), some (Fg.o false false, PyData.dict b), none]) c1 c2
    ·have e : 6 < l.length := by have := of_decide_eq_false e; omega
     have hlg : lng l = true := decide_eq_true e
     have hcnt := cnt_at (hx ▸ hSs) (hx ▸ hSn) hlg
     have hpc := cntS_le pre (l.take 3)
     have hcs : cntS (pre ++ [l]) (l.take 3) = cntS pre (l.take 3) + 1 := by rw [cntS_snoc, if_pos ⟨hlg, rfl⟩]
     obtain ⟨C', h1, h2, h3, h4⟩ := cnt_put pre C l hlg hC1 hC2
     walk_at "go"
     refine sl_ rfl (q_slSto (a := l) (n := 3) rfl (by omega)) inferInstance ?_
     walk_at "go"
     refine we_dget2 rfl ?_
     walk_at "go"
     refine wg2_of rfl rfl (l := l.take 3) (o := .int (cntS pre (l.take 3))) ?_ ?_
     ·by_cases h : l.take 3 ∈ C
      ·rw [if_pos h]
      ·rw [if_neg h, hC2 _ h]; rfl
     walk_at "go"
     refine wdp_of rfl rfl (rfl : keyOf false (dStr (l.take 3)) = some (kNm (l.take 3))) (by rw [len_TN]; exact sz_lt' (by omega)) h4 inferInstance ?_
     have hz := z2_len (cntS (pre ++ [l]) (l.take 3)) (by rw [hcs]; have := congrArg List.length hx; rw [List.length_append, List.length_cons] at this; omega)
     walk_at "go"
     refine o2_ rfl rfl (q_getN (S := C') (l := l.take 3) h3 rfl) inferInstance ?_
     walk_at "go"
     refine o1_ rfl (q_str (by omega)) inferInstance ?_
     walk_at "go"
     refine mt_ rfl q_zf inferInstance ?_
     walk_at "go"
     refine wdp_of rfl rfl (rfl : keyOf false (dStr l) = some (kNm l)) (by rw [len_TN]; exact sz_lt' (by omega)) (putN_new hnew) inferInstance ?_
     walk_at "go"
     refine ⟨C', by rw [List.length_append]; exact h1, h2, ?_⟩
     have c1 : TN (pre ++ [l]) (fsetN (fun l => dStr (formS S l)) l (dStr (l.take 3 ++ [45] ++ z2 (cntS (pre ++ [l]) (l.take 3))))) = TN (pre ++ [l]) fun l => dStr (formS S l) := TN_put (by
      unfold formS
      rw [if_neg (by omega), hcs, hx, hcnt])
     exact congrArg (fun a => [some (_, PyData.list (L.map dStr)), none, some (Fg.o false false, PyData.dict a), some (Fg.o false false, PyData.dict (TN C' fun st => .int (cntS (pre ++ [l]) st))), none]) c1
   ·rintro ρ ⟨C, hC1, hC2, rfl⟩
    walk_at "go"
    exact ⟨rfl, rfl⟩)
theorem any_eqv (x : List Nat) (M : List (List Nat)) : ((M.map dStr).any fun e => PyData.eqv e (dStr x)) = decide (x ∈ M) := by
 induction M with
 | nil => simp
 | cons m M ih =>
  rw [List.map_cons, List.any_cons, ih]
  have h : PyData.eqv (dStr m) (dStr x) = decide (m = x) := by
   unfold dStr
   show (sL m == sL x) = _
   by_cases e : m = x
   ·subst e; simp
   ·rw [decide_eq_false e]
    simp only [beq_eq_false_iff_ne, ne_eq]
    exact fun z => e (by rw [← sL_cps m, z, sL_cps])
  rw [h]
  by_cases e : m = x
  ·subst e; simp
  ·have : ¬ x = m := fun z => e z.symm
   simp [e, this]
theorem q_inL {ne : Bool} {x : List Nat} {M : List (List Nat)} : oIn ne (dStr x) (.list (M.map dStr)) = some (.fz (.bool (if ne then !decide (x ∈ M) else decide (x ∈ M)))) := by
 unfold oIn dStr
 dsimp only
 have h : (flatD (.str (sL x)) && (M.map dStr).all flatD) = true := by
  rw [Bool.and_eq_true]
  refine ⟨rfl, List.all_eq_true.mpr fun d hd => ?_⟩
  obtain ⟨m, _, rfl⟩ := List.mem_map.mp hd
  rfl
 have e := any_eqv x M
 unfold dStr at e h
 rw [if_pos h, e]
theorem lt_app {x y : List Nat} : ∀ {p q : List Nat}, p.length = q.length → p < q → p ++ x < q ++ y
 | [], [], _, h => absurd h (List.lt_irrefl [])
 | [], _ :: _, e, _ => nomatch e
 | _ :: _, [], e, _ => nomatch e
 | a :: p, b :: q, e, h => by
  rw [List.cons_append, List.cons_append, List.cons_lt_cons_iff]
  rcases List.cons_lt_cons_iff.mp h with h | ⟨h1, h2⟩
  ·exact .inl h
  ·exact .inr ⟨h1, lt_app (Nat.succ.inj e) h2⟩
theorem lt_same {x y : List Nat} : ∀ {p : List Nat}, p ++ x < p ++ y → x < y
 | [], h => h
 | a :: p, h => by
  rw [List.cons_append, List.cons_append, List.cons_lt_cons_iff] at h
  rcases h with h | ⟨_, h⟩
  ·exact absurd h (Nat.lt_irrefl _)
  ·exact lt_same h
theorem nmLe_iff {a b : List Nat} : nmLe a b = true ↔ ¬ b < a := by
 unfold nmLe
 rw [Bool.not_eq_true', decide_eq_false_iff_not]
theorem nmLe_take {a b : List Nat} (ha : 3 ≤ a.length) (hb : 3 ≤ b.length) (h : nmLe a b = true) : nmLe (a.take 3) (b.take 3) = true := by
 rw [nmLe_iff] at h ⊢
 intro z
 have := lt_app (x := b.drop 3) (y := a.drop 3) (by rw [List.length_take, List.length_take]; omega) z
 rw [List.take_append_drop, List.take_append_drop] at this
 exact h this
theorem z2_step : ∀ k : Nat, k < 100 → z2 k < z2 (k + 1) ∨ k = 99 := by decide +kernel
theorem z2_lt : ∀ (d i : Nat), i + d + 1 < 100 → z2 i < z2 (i + d + 1)
 | 0, i, h => (z2_step i (by omega)).resolve_right (by omega)
 | d + 1, i, h => List.lt_trans (z2_lt d i (by omega)) ((z2_step (i + d + 1) (by omega)).resolve_right (by omega))
theorem z2_inj {i j : Nat} (hi : i < 100) (hj : j < 100) (e : z2 i = z2 j) : i = j := by
 rcases Nat.lt_trichotomy i j with h | h | h
 ·have := z2_lt (j - i - 1) i (by omega)
  rw [show i + (j - i - 1) + 1 = j by omega, e] at this
  exact absurd this (List.lt_irrefl _)
 ·exact h
 ·have := z2_lt (i - j - 1) j (by omega)
  rw [show j + (i - j - 1) + 1 = i by omega, e] at this
  exact absurd this (List.lt_irrefl _)
theorem cntS_app (x y st : List (List Nat)) (l : List Nat) : cntS (x ++ y) l = cntS x l + cntS y l := by
 unfold cntS
 rw [List.filter_append, List.length_append]
theorem cnt_lt {pre post : List (List Nat)} {a b : List Nat} (hs : (pre ++ b :: post).Pairwise fun a b => nmLe a b = true) (hn : (pre ++ b :: post).Nodup) (ha : a ∈ pre) (la : lng a = true) (lb : lng b = true) (e : a.take 3 = b.take 3) : cntLe (pre ++ b :: post) a < cntLe (pre ++ b :: post) b := by
 obtain ⟨p1, p2, rfl⟩ := List.append_of_mem ha
 rw [cnt_at hs hn lb]
 rw [show p1 ++ a :: p2 ++ b :: post = p1 ++ a :: (p2 ++ b :: post) by simp] at hs hn ⊢
 rw [cnt_at hs hn la, ← e, show p1 ++ a :: p2 = (p1 ++ [a]) ++ p2 by simp, cntS_app _ _ [], cntS_snoc, if_pos ⟨la, rfl⟩]
 omega
theorem split_two {S : List (List Nat)} {a b : List Nat} (ha : a ∈ S) (hb : b ∈ S) (hn : a ≠ b) : (∃ pre post, S = pre ++ b :: post ∧ a ∈ pre) ∨ ∃ pre post, S = pre ++ a :: post ∧ b ∈ pre := by
 obtain ⟨pre, post, rfl⟩ := List.append_of_mem hb
 rcases List.mem_append.mp ha with h | h
 ·exact .inl ⟨pre, post, rfl, h⟩
 ·rcases List.mem_cons.mp h with h | h
  ·exact absurd h hn
  ·obtain ⟨q1, q2, rfl⟩ := List.append_of_mem h
   exact .inr ⟨pre ++ b :: q1, q2, by simp, by simp⟩
section
variable {S : List (List Nat)} (hs : S.Pairwise fun a b => nmLe a b = true) (hn : S.Nodup) (hl : S.length ≤ 99) (hS : ∀ l ∈ S, NmOk l)
include hs hn hl hS
theorem form_len {l : List Nat} (h : l ∈ S) : 1 ≤ (formS S l).length ∧ (formS S l).length ≤ 6 := by
 have h1 := (hS l h).2
 have hc := cntLe_le S l
 unfold formS
 split
 ·omega
 ·rw [List.length_append, List.length_append, List.length_take, List.length_singleton, z2_len _ (by omega)]; omega
omit hs hn hl in
theorem dash_no {l : List Nat} (h : l ∈ S) : 45 ∉ l := fun z => absurd ((hS l h).1 45 z) (by decide +kernel)
omit hs hn hl hS in
theorem dash_in {l : List Nat} (h : ¬ l.length ≤ 6) : 45 ∈ formS S l := by
 unfold formS
 rw [if_neg h]
 simp
omit hs hn hl hS in
theorem form_take {l : List Nat} (h : ¬ l.length ≤ 6) : (formS S l).take 3 = l.take 3 := by
 unfold formS
 rw [if_neg h, List.append_assoc, List.take_append_of_le_length (by rw [List.length_take]; omega), List.take_take]
 rfl
theorem form_inj {a b : List Nat} (ha : a ∈ S) (hb : b ∈ S) (e : formS S a = formS S b) : a = b := by
 have ca := cntLe_le S a
 have cb := cntLe_le S b
 by_cases la : a.length ≤ 6
 ·by_cases lb : b.length ≤ 6
  ·unfold formS at e
   rwa [if_pos la, if_pos lb] at e
  ·have := dash_in (S := S) lb
   rw [← e] at this
   unfold formS at this
   rw [if_pos la] at this
   exact absurd this (dash_no hS ha)
 ·by_cases lb : b.length ≤ 6
  ·have := dash_in (S := S) la
   rw [e] at this
   unfold formS at this
   rw [if_pos lb] at this
   exact absurd this (dash_no hS hb)
  ·have e3 : a.take 3 = b.take 3 := by rw [← form_take (S := S) la, ← form_take (S := S) lb, e]
   have e4 : cntLe S a = cntLe S b := by
    unfold formS at e
    rw [if_neg la, if_neg lb, e3] at e
    exact z2_inj (by omega) (by omega) (List.append_cancel_left e)
   have ga : lng a = true := decide_eq_true (by omega)
   have gb : lng b = true := decide_eq_true (by omega)
   by_cases hab : a = b
   ·exact hab
   ·exfalso
    rcases split_two ha hb hab with ⟨pre, post, rfl, hm⟩ | ⟨pre, post, rfl, hm⟩
    ·have := cnt_lt hs hn hm ga gb e3; omega
    ·have := cnt_lt hs hn hm gb ga e3.symm; omega
theorem form_mono {a b : List Nat} (ha : a ∈ S) (hb : b ∈ S) (la : ¬ a.length ≤ 6) (lb : ¬ b.length ≤ 6) (h : nmLe a b = true) : nmLe (formS S a) (formS S b) = true := by
 have ca := cntLe_le S a
 have cb := cntLe_le S b
 by_cases hab : a = b
 ·subst hab
  have := nmLe_tot (formS S a) (formS S a)
  simpa using this
 rw [nmLe_iff]
 intro z
 have ht := nmLe_take (by omega) (by omega) h
 have fa : formS S a = a.take 3 ++ ([45] ++ z2 (cntLe S a)) := by unfold formS; rw [if_neg la, List.append_assoc]
 have fb : formS S b = b.take 3 ++ ([45] ++ z2 (cntLe S b)) := by unfold formS; rw [if_neg lb, List.append_assoc]
 by_cases e3 : a.take 3 = b.take 3
 ·have ga : lng a = true := decide_eq_true (by omega)
  have gb : lng b = true := decide_eq_true (by omega)
  have hc : cntLe S a < cntLe S b := by
   rcases split_two ha hb hab with ⟨pre, post, rfl, hm⟩ | ⟨pre, post, rfl, hm⟩
   ·exact cnt_lt hs hn hm ga gb e3
   ·have := (List.pairwise_append.mp hs).2.2 b hm a List.mem_cons_self
    exact absurd (nmLe_anti h this) hab
  rw [fa, fb, e3] at z
  have z := lt_same (lt_same z)
  have := z2_lt (cntLe S b - cntLe S a - 1) (cntLe S a) (by omega)
  rw [show cntLe S a + (cntLe S b - cntLe S a - 1) + 1 = cntLe S b by omega] at this
  exact List.lt_irrefl _ (List.lt_trans this z)
 ·have hlt : a.take 3 < b.take 3 := Classical.byContradiction fun q => e3 (nmLe_anti ht (nmLe_iff.mpr q))
  rw [fa, fb] at z
  have := lt_app (x := [45] ++ z2 (cntLe S a)) (y := [45] ++ z2 (cntLe S b)) (by rw [List.length_take, List.length_take]; omega) hlt
  exact List.lt_irrefl _ (List.lt_trans this z)
end
theorem cnt_without {L : List (List Nat)} {x y : List Nat} (h : ¬ (lng x = true ∧ x.take 3 = y.take 3)) : cntLe (L.filter fun m => !decide (m = x)) y = cntLe L y := by
 unfold cntLe
 rw [List.filter_filter]
 congr 1
 refine List.filter_congr fun m _ => ?_
 by_cases e : m = x
 ·subst e
  have : (lng m && (decide (m.take 3 = y.take 3) && nmLe m y)) = false := by
   by_cases g : lng m = true
   ·rw [decide_eq_false (fun z => h ⟨g, z⟩), Bool.false_and, Bool.and_false]
   ·rw [Bool.not_eq_true] at g
    rw [g, Bool.false_and]
  rw [this, Bool.false_and]
 ·rw [decide_eq_false e, Bool.not_false, Bool.and_true]
theorem srtL_self {L : List (List Nat)} (h : L.Pairwise fun a b => nmLe a b = true) : srtL L = L := List.mergeSort_of_pairwise h
theorem cntLe_perm {X Y : List (List Nat)} (h : X.Perm Y) (l : List Nat) : cntLe X l = cntLe Y l := (h.filter _).length_eq
theorem form_without {L : List (List Nat)} {x y : List Nat} (h : y.length < 7 ∨ x.length < 7 ∨ y.take 3 ≠ x.take 3) : formS (srtL (L.filter fun m => !decide (m = x))) y = formS (srtL L) y := by
 by_cases hy : y.length ≤ 6
 ·unfold formS
  rw [if_pos hy, if_pos hy]
 ·unfold formS
  rw [if_neg hy, if_neg hy, cntLe_perm (srtL_perm _), cntLe_perm (srtL_perm _), cnt_without fun z => ?_]
  rcases h with h | h | h
  ·omega
  ·have := of_decide_eq_true (show decide (6 < x.length) = true from z.1)
   omega
  ·exact h z.2.symm
def kdD (w : Str) : D := .tuple [.str w]
theorem kind_name : m__law_kind [(.e, .tuple [.str "NoName"])] = .ok (.fz (kdD "name")) [none] := by kernel_rfl
theorem forms_er {L : List (List Nat)} (hT : ∀ l ∈ L, TOk (sL l) ∧ l.length ≤ 1000) {b : List Nat} (hb : b ∈ L) (hn : ¬ NmOk b) (hl : L.length ≤ 1000) {g : Fg} (hg : g = .b ∨ g = .f) : m_short_forms [(g, .list (L.map dStr))] = .er ⟨"NoName", none⟩ [none] := by
 rcases hg with rfl | rfl
 all_goals exact wf_eqE (by
  unfold m_short_forms
  walk_at "fn"
  unfold r_short_forms
  walk_at "go"
  refine wl_map dStr (fun pre ρ => b ∉ pre ∧ ρ = [some (_, .list (L.map dStr)), none, none, none, none]) ⟨(fun h => nomatch h), rfl⟩ ?_ ?_
  ·rintro pre l post ρ hx ⟨hp, rfl⟩
   obtain ⟨h1, h2⟩ := hT l (by rw [hx]; simp)
   unfold dStr
   walk_at "go"
   unfold b1_short_forms
   walk_at "go"
   refine c_dok ⟨rfl, rfl⟩ rfl (isname_eq h1 h2) inferInstance inferInstance ?_
   walk_at "go"
   refine ite_b (fun h => ?_) (fun h => ?_)
   ·walk_at "go"
    exact ⟨rfl, rfl⟩
   ·walk_at "go"
    refine ⟨fun hm => ?_, rfl⟩
    rcases List.mem_append.mp hm with hm | hm
    ·exact hp hm
    ·rw [List.mem_singleton] at hm; subst hm
     exact hn (nmB_iff.mp (by simpa using h))
  ·rintro ρ ⟨hp, rfl⟩
   exact absurd hb hp)
theorem refused_ok {L : List (List Nat)} (hT : ∀ l ∈ L, TOk (sL l) ∧ l.length ≤ 1000) {b : List Nat} (hb : b ∈ L) (hn : ¬ NmOk b) (hl : L.length ≤ 1000) {g : Fg} (hg : g = .b ∨ g = .f) : m__law_refused [(g, .list (L.map dStr))] = .ok (.fz (.bool true)) [none] := by
 have he := forms_er hT hb hn hl hg
 rcases hg with rfl | rfl
 all_goals exact wf_eq (by
  unfold m__law_refused
  walk_at "fn"
  unfold r__law_refused
  walk_at "go"
  refine c_er ⟨rfl, rfl⟩ rfl he inferInstance ?_
  refine wtry_t rfl rfl encX_n inferInstance ?_
  walk_at "go"
  refine we_callE rfl kind_name inferInstance ?_
  walk_at "go"
  refine o2_ rfl rfl (show oEqD (kdD "name") (.tuple [.str "name"]) = some (.fz (.bool true)) by kernel_rfl) inferInstance ?_
  walk_at "go"
  refine ⟨(fun j h => nomatch h), ?_⟩
  walk_at "go"
  exact ⟨rfl, rfl⟩)
def WDI (ng : Bool) (ρ : Vm.Env) (t1 t2 : Tp) (Q : Vm.Env → Tp → Prop) : Prop := ∃ kd kds kk, rdT ρ t1 = some kd ∧ dkOf ρ t2 = some kds ∧ key1 kd = some kk ∧ Q ρ (.fz (.bool (if ng then !(lookD kds (.inl kk)).isSome else (lookD kds (.inl kk)).isSome)))
theorem we_dinO {ρ : Vm.Env} {Q : Vm.Env → Tp → Prop} {E : XP} {ng : Bool} {a b : RE} (h : We a ρ (fun ρ1 t1 => We b ρ1 (fun ρ2 t2 => WDI ng ρ2 t1 t2 Q) E) E) : We (rDInO ng a b) ρ Q E := by
 have h0 : Wx (rCons a (rCons b rNil) ρ) (fun ρ2 ts => ∃ t1 t2, ts = [t1, t2] ∧ WDI ng ρ2 t1 t2 Q) E :=
  wx_bind (wx_mono h (fun ρ1 t1 h1 => wx_bind (wx_bind (wx_mono h1 (fun ρ2 t2 h2 => wx_bind (wxo (wxo (wxo ⟨t1, t2, rfl, h2⟩)))) (fun _ _ q => q)))) (fun _ _ q => q))
 refine wx_bind (wx_mono h0 (fun ρ2 ts ⟨t1, t2, et, kd, kds, kk, e1, e2, e3, q⟩ => ?_) (fun _ _ q => q))
 subst et
 unfold kDInO
 simp only [e1, e2, e3]
 exact wxo q
theorem wdi_TN {ρ : Vm.Env} {Q : Vm.Env → Tp → Prop} {ng : Bool} {tk td : Tp} {S : List (List Nat)} {f : List Nat → D} {l : List Nat} (h1 : rdT ρ tk = some (dStr l)) (h2 : dkOf ρ td = some (TN S f)) (q : Q ρ (.fz (.bool (if ng then !decide (l ∈ S) else decide (l ∈ S))))) : WDI ng ρ tk td Q := by
 refine ⟨_, _, _, h1, h2, rfl, ?_⟩
 have e : (lookD (TN S f) (.inl (.inr (sL l)))).isSome = decide (l ∈ S) := by
  rw [show (Sum.inl (Sum.inr (sL l)) : Key ⊕ List Key) = kNm l from rfl, look_TN]
  by_cases h : l ∈ S
  ·rw [if_pos h, decide_eq_true h]; rfl
  ·rw [if_neg h, decide_eq_false h]; rfl
 rw [e]
 exact q
theorem without_ok {L : List (List Nat)} (hL : ∀ l ∈ L, NmOk l) (hn : L.Nodup) (hl : L.length ≤ 99) {x : List Nat} (hx : x ∈ L) : m__law_without [(.f, .list (L.map dStr)), (.b, .dict (TN (srtL L) fun l => dStr (formS (srtL L) l))), (.f, dStr x)] = .ok (.fz (.bool true)) [none, none, none] := wf_eq (by
 have hx1 := (hL x hx).2
 have hL' : ∀ l ∈ L.filter fun m => !decide (m = x), NmOk l := fun l h => hL l (List.mem_filter.mp h).1
 have hl' : (L.filter fun m => !decide (m = x)).length ≤ 99 := Nat.le_trans (List.length_filter_le _ _) hl
 have hf := forms_ok hL' (hn.filter _) hl' (g := .f) (.inr rfl)
 unfold m__law_without
 walk_at "fn"
 unfold r__law_without
 walk_at "go"
 refine wx_lcf dStr (fun m => !decide (m = x)) dStr (by omega) inferInstance ?_ ?_
 ·intro m hm
  unfold dStr
  walk_at "go"
  refine ⟨rfl, ?_⟩
  refine ite_b (fun e => ?_) (fun e => ?_)
  ·walk_at "go"
   exact ⟨rfl, rfl⟩
  ·rfl
 ·walk_at "go"
  refine c_ok ⟨rfl, rfl⟩ rfl hf inferInstance inferInstance ?_
  walk_at "go"
  refine wl_map dStr (fun _ ρ => ρ = [some (.f, .list (L.map dStr)), some (.b, .dict (TN (srtL L) fun l => dStr (formS (srtL L) l))), some (.f, dStr x), some (.o false false, .dict (TN (srtL (L.filter fun m => !decide (m = x))) fun l => dStr (formS (srtL (L.filter fun m => !decide (m = x))) l))), none, none]) rfl ?_ ?_
  ·rintro pre y post ρ hy rfl
   have hyL : y ∈ L := by rw [hy]; simp
   have hy1 := (hL y hyL).2
   have hm : y ∈ srtL L := (srtL_perm _).mem_iff.mpr hyL
   unfold b1__law_without
   walk_at "go"
   refine ite_b (fun e1 => ?_) (fun e1 => ?_)
   ·have hs := form_without (L := L) (x := x) (y := y) (.inl (by have := of_decide_eq_true e1; omega))
    walk_at "go"
    refine ite_b (fun h1 => ?_) (fun h1 => ?_)
    ·have hyx : y ≠ x := by simpa using h1
     have hm' : y ∈ srtL (L.filter fun m => !decide (m = x)) := (srtL_perm _).mem_iff.mpr (List.mem_filter.mpr ⟨hyL, by simpa using hyx⟩)
     walk_at "go"
     refine o2_ rfl rfl (q_getN hm' (congrArg dStr hs)) inferInstance ?_
     walk_at "go"
     refine o2_ rfl rfl (q_getN hm rfl) inferInstance ?_
     walk_at "go"
     rfl
    ·walk_at "go"
     rfl
   ·walk_at "go"
    refine ite_b (fun e2 => ?_) (fun e2 => ?_)
    ·have hs := form_without (L := L) (x := x) (y := y) (.inr (.inl (by have := of_decide_eq_true e2; omega)))
     walk_at "go"
     refine ite_b (fun h1 => ?_) (fun h1 => ?_)
     ·have hyx : y ≠ x := by simpa using h1
      have hm' : y ∈ srtL (L.filter fun m => !decide (m = x)) := (srtL_perm _).mem_iff.mpr (List.mem_filter.mpr ⟨hyL, by simpa using hyx⟩)
      walk_at "go"
      refine o2_ rfl rfl (q_getN hm' (congrArg dStr hs)) inferInstance ?_
      walk_at "go"
      refine o2_ rfl rfl (q_getN hm rfl) inferInstance ?_
      walk_at "go"
      rfl
     ·walk_at "go"
      rfl
    ·have f1 := of_decide_eq_false e1
     have f2 := of_decide_eq_false e2
     walk_at "go"
     refine sl_ rfl (q_slSto (a := y) (n := 3) rfl (by omega)) inferInstance ?_
     walk_at "go"
     refine sl_ rfl (q_slSto (a := x) (n := 3) rfl (by omega)) inferInstance ?_
     walk_at "go"
     refine ite_b (fun h1 => ?_) (fun h1 => ?_)
     ·have hyx : y ≠ x := by simpa using h1
      have hm' : y ∈ srtL (L.filter fun m => !decide (m = x)) := (srtL_perm _).mem_iff.mpr (List.mem_filter.mpr ⟨hyL, by simpa using hyx⟩)
      walk_at "go"
      refine ite_b (fun h3 => ?_) (fun h3 => ?_)
      ·have hs := form_without (L := L) (x := x) (y := y) (.inr (.inr (by simpa using h3)))
       walk_at "go"
       refine o2_ rfl rfl (q_getN hm' (congrArg dStr hs)) inferInstance ?_
       walk_at "go"
       refine o2_ rfl rfl (q_getN hm rfl) inferInstance ?_
       walk_at "go"
       rfl
      ·walk_at "go"
       rfl
     ·walk_at "go"
      rfl
  ·rintro ρ rfl
   walk_at "go"
   refine we_dinO ?_
   walk_at "go"
   refine wdi_TN (l := x) rfl rfl ?_
   rw [decide_eq_false fun z => by
    have := (List.mem_filter.mp ((srtL_perm _).mem_iff.mp z)).2
    simp at this]
   walk_at "go"
   exact ⟨rfl, rfl⟩)
def odd83 : List (List Nat) := [(Str.ofString "").cps.toList, (Str.ofString "A").cps.toList, (Str.ofString "a b").cps.toList, (Str.ofString "abc-01").cps.toList, (Txt.mul (Str.ofString "a") 19).cps.toList, (Str.ofString "_").cps.toList]
theorem odd83_D : [PyData.str "", .str "A", .str "a b", .str "abc-01", .str (Txt.mul "a" 19), .str "_"] = odd83.map dStr := by
 unfold odd83
 simp only [List.map_cons, List.map_nil]
 unfold dStr
 simp only [sL_of]
theorem odd83_ok : ∀ l ∈ odd83, (TOk (sL l) ∧ l.length ≤ 1000) ∧ ¬ NmOk l := by
 have h : ∀ l ∈ odd83, (∀ c ∈ l, c < 1114112) ∧ l.length ≤ 1000 ∧ nmB l = false := by decide +kernel
 intro l hl
 obtain ⟨h1, h2, h3⟩ := h l hl
 refine ⟨⟨fun c hc => ?_, h2⟩, fun z => ?_⟩
 ·rw [sL_cps] at hc
  exact h1 c hc
 ·rw [nmB_iff.mpr z] at h3; exact nomatch h3
theorem q_mulA : oMulS (.str "a") (.int 19) = some (.fz (.str (Txt.mul "a" 19))) := by
 have h : (if (0 : Int) ≤ 19 ∧ (19 : Int) ≤ 1000 ∧ (Str.ofString "a").length ≤ 1000 then some (Rz.fz (.str (Txt.mul "a" 19))) else none) = some (Rz.fz (.str (Txt.mul "a" 19))) := if_pos ⟨by decide, by decide, by decide +kernel⟩
 exact h
theorem keysD_str : ∀ ls : List (List Nat), keysD (ls.map dStr) = some (ls.map fun l => Sum.inr (sL l))
 | [] => rfl
 | l :: ls => by
  rw [List.map_cons]
  unfold keysD
  rw [keysD_str ls, show key1 (dStr l) = some (.inr (sL l)) from rfl]
  rfl
theorem q_lenSet {ls : List (List Nat)} (nd : ls.Nodup) (hl : ls.length ≤ 4000) : oLenSetK (.list (ls.map dStr)) = some (.fz (.int (ls.length : Nat))) := by
 have nd2 : (ls.map fun l => (Sum.inr (sL l) : Key)).Nodup := by
  rw [List.nodup_iff_pairwise_ne, List.pairwise_map]
  exact (List.nodup_iff_pairwise_ne.mp nd).imp fun h e => h (sL_inj (Sum.inr.inj e))
 unfold oLenSetK
 dsimp only
 rw [keysD_str]
 dsimp only
 rw [if_pos ⟨by rw [List.length_map]; exact hl, nd2⟩, List.length_map]
theorem eqv_nm (a b : List Nat) : PyData.eqv (dStr a) (dStr b) = decide (a = b) := eqv_dstr a b
theorem q_neLs {A B : List (List Nat)} (hA : SeqAt.shaped (.list (A.map dStr)) = true) (hB : SeqAt.shaped (.list (B.map dStr)) = true) : oNeD (.list (A.map dStr)) (.list (B.map dStr)) = some (.fz (.bool (!decide (A = B)))) := q_neD hA hB (eqv_lst eqv_nm A B)
theorem q_dneT {S : List (List Nat)} {f : List Nat → List Nat} (h : S ≠ []) : oDNe (.dict (TN S fun l => dStr (f l))) (.dict (TN S fun l => dStr (f l))) = some (.fz (.bool false)) := by
 show (if sameD _ _ = true then _ else _) = _
 rw [if_pos]
 unfold sameD
 rw [kind_TN h, decide_eq_true rfl, decide_eq_true rfl, Bool.true_and, Bool.true_and, Bool.true_and, List.all_eq_true]
 intro p hp
 obtain ⟨l, hl, rfl⟩ := List.mem_map.mp hp
 show (match lookD (TN S fun l => dStr (f l)) (kNm l) with | some d => flEq (dStr (f l)) d | none => false) = true
 rw [look_TN, if_pos hl]
 show decide (sL (f l) = sL (f l)) = true
 exact decide_eq_true rfl
theorem q_slLfrom {α : Type} {f : α → D} {xs : List α} {i : Nat} {a : Int} (ha : a = (i : Int)) : oSlL (.list (xs.map f)) (some a) none = some (.ow false (.list ((xs.drop i).map f))) := by
 have h := q_slTfrom (f := f) (xs := xs) ha
 have h2 : cutL (xs.map f) (some a) none = (xs.drop i).map f := PyData.tuple.inj (Rz.fz.inj (Option.some.inj h))
 show some (Rz.ow false (.list (cutL (xs.map f) (some a) none))) = _
 rw [h2]
theorem shp_sub (zs : List {l : List Nat // NmOk l}) : SeqAt.shaped (.list (zs.map fun x => dStr x.1)) = true := by
 have := shp_strs (ls := zs.map (·.1)) fun l hl => by
  obtain ⟨x, _, rfl⟩ := List.mem_map.mp hl
  exact x.2.1.ok
 rw [List.map_map] at this
 exact this
theorem z2_tok : ∀ k : Nat, k < 100 → ∀ c ∈ z2 k, c < 1114112 := by decide +kernel
theorem form_tok {S : List (List Nat)} {l : List Nat} (hl : S.length ≤ 99) (h : NmOk l) : TOk (sL (formS S l)) := by
 have h1 : ∀ c ∈ l, c < 1114112 := fun c hc => h.1.ok c (by rw [sL_cps]; exact hc)
 intro c hc
 rw [sL_cps] at hc
 unfold formS at hc
 split at hc
 ·exact h1 c hc
 ·rcases List.mem_append.mp hc with hc | hc
  ·rcases List.mem_append.mp hc with hc | hc
   ·exact h1 c (List.mem_of_mem_take hc)
   ·rw [List.mem_singleton] at hc; subst hc; decide
  ·exact z2_tok _ (by have := cntLe_le S l; omega) c hc
theorem order_names (b : Int) {L : List (List Nat)} (hL : ∀ l ∈ L, NmOk l) (hl : L.length ≤ 1000) : ∃ (b2 : Int) (N : List (List Nat)), N.Perm L ∧ m__law_order [(.o false true, pvD b), (.f, .list (L.map dStr))] = .ok (.ow false (.list (N.map dStr))) [some (.o false true, pvD b2), none] := by
 obtain ⟨xs, hx⟩ : ∃ xs : List {l : List Nat // NmOk l}, xs.map (·.1) = L := ⟨L.attach.map fun x => ⟨x.1, hL x.1 x.2⟩, by
  rw [List.map_map]
  show L.attach.map (fun x => x.1) = L
  simp⟩
 have hd : xs.map (fun x => dStr x.1) = L.map dStr := by rw [← hx, List.map_map]; rfl
 obtain ⟨b2, M, hM, e3⟩ := order_ok (f := fun x : {l : List Nat // NmOk l} => dStr x.1) (fun zs => shp_sub zs) b (xs := xs) (g := .f) (.inl rfl) (by rw [← List.length_map (f := (·.1)), hx]; exact hl)
 rw [hd] at e3
 refine ⟨b2, M.map (·.1), hx ▸ hM.map (·.1), ?_⟩
 rw [e3, List.map_map]
 rfl
theorem law_holds (ns : List Int) (hl : ns.length ≤ 63) (hb : ∀ z ∈ ns, Builtin.Int.intBits z ≤ 1048576) : ∃ io, m_law [(.s, .list (ns.map PyData.int))] = .ok (.fz (.bool true)) io := by
 have key : Wf (m_law [(.s, .list (ns.map PyData.int))]) (fun z _ => z = .fz (.bool true)) (fun _ _ => False) := by
  unfold m_law
  walk_at "fn"
  unfold r_law
  walk_at "go"
  refine o2_ rfl rfl q_mulA inferInstance ?_
  walk_at "go"
  rw [odd83_D]
  refine wl_rng (fun _ ρ => ρ = [some (.s, .list (ns.map PyData.int)), some (.o false false, .list (odd83.map dStr)), none, none, none, none, none, none, none, none, none]) rfl ?_ ?_
  ·rintro k ρ hk rfl
   have hk2 : k ≤ 16 := by rw [List.length_map] at hk; omega
   walk_at "go"
   unfold b1_law
   walk_at "go"
   obtain ⟨a, e1⟩ := dig_ok ns (0 + (k : Int)) (by omega) (by omega)
   refine c_dok ⟨rfl, rfl⟩ rfl e1 inferInstance inferInstance ?_
   have g1 := pv_lt a (n := 16) (by decide)
   walk_at "go"
   obtain ⟨b, L, hLl, hL, hLn, e2⟩ := names_ok (a / 16) (n := 1 + a % 16) (by omega) (by omega)
   refine c_dok ⟨rfl, rfl⟩ rfl e2 inferInstance inferInstance ?_
   have hL1 : 1 ≤ L.length ∧ L.length ≤ 16 := by omega
   have hLk : ∀ l ∈ L, NmOk l := hL
   have hf := forms_ok hLk hLn (by omega) (g := .b) (.inl rfl)
   walk_at "go"
   refine c_dok ⟨rfl, rfl⟩ rfl hf inferInstance inferInstance ?_
   have hp := srtL_perm L
   have hs := srtL_le L
   have hSn : (srtL L).Nodup := hp.nodup_iff.mpr hLn
   have hSl : (srtL L).length ≤ 99 := by rw [hp.length_eq]; omega
   have hSk : ∀ l ∈ srtL L, NmOk l := fun l h => hLk l (hp.mem_iff.mp h)
   have hne : srtL L ≠ [] := fun z => by have := hp.length_eq; rw [z] at this; simp at this; omega
   walk_at "go"
   refine wx_lcm dStr (fun l => dStr (formS (srtL L) l)) (by omega) inferInstance ?_ ?_
   ·intro l hm
    walk_at "go"
    refine o2_ rfl rfl (q_getN (S := srtL L) (l := l) (hp.mem_iff.mpr hm) rfl) inferInstance ?_
    walk_at "go"
    exact ⟨rfl, rfl⟩
   have hfd : (L.map (formS (srtL L))).Nodup := by
    rw [List.nodup_iff_pairwise_ne, List.pairwise_map]
    exact (List.nodup_iff_pairwise_ne.mp hLn).imp_of_mem fun {x y} hx hy h e => h (form_inj hs hSn hSl hSk (hp.mem_iff.mpr hx) (hp.mem_iff.mpr hy) e)
   have hfl : ∀ l ∈ L.map (formS (srtL L)), 1 ≤ l.length ∧ l.length ≤ 6 := fun l h => by
    obtain ⟨m, hm, rfl⟩ := List.mem_map.mp h
    exact form_len hs hSn hSl hSk (hp.mem_iff.mpr hm)
   rw [show (L.map fun l => dStr (formS (srtL L) l)) = (L.map (formS (srtL L))).map dStr by rw [List.map_map]; rfl]
   walk_at "go"
   refine o1_ rfl (q_lenSet hfd (by rw [List.length_map]; omega)) inferInstance ?_
   walk_at "go"
   refine ite_F ?_ ?_
   ·rw [List.length_map]; exact decide_eq_false (by omega)
   walk_at "go"
   refine wx_lcf dStr (fun _ => false) dStr (by rw [List.length_map]; omega) inferInstance ?_ ?_
   ·intro l hm
    have hm1 := hfl l hm
    unfold dStr
    walk_at "go"
    refine ⟨?_, rfl⟩
    rw [decide_eq_true (by omega)]
    rfl
   rw [show (L.map (formS (srtL L))).filter (fun _ => false) = [] by simp]
   walk_at "go"
   refine o2_ rfl rfl (q_neNil (ds := []) rfl) inferInstance ?_
   walk_at "go"
   obtain ⟨b2, N, hN, e3⟩ := order_names b hLk (by omega)
   have hNe : srtL N = srtL L := srtL_eq hN (hN.nodup_iff.mpr hLn)
   have hNk : ∀ l ∈ N, NmOk l := fun l h => hLk l (hN.mem_iff.mp h)
   have hNl : N.length ≤ 99 := by rw [hN.length_eq]; omega
   have hf2 := forms_ok hNk (hN.nodup_iff.mpr hLn) hNl (g := .f) (.inr rfl)
   rw [hNe] at hf2
   refine c_dok ⟨rfl, rfl⟩ rfl e3 inferInstance inferInstance ?_
   walk_at "go"
   refine c_dok ⟨rfl, rfl⟩ rfl hf2 inferInstance inferInstance ?_
   walk_at "go"
   refine o2_ rfl rfl (q_dneT hne) inferInstance ?_
   walk_at "go"
   refine o1_ rfl q_rev inferInstance ?_
   walk_at "go"
   have hf3 := forms_ok (fun l h => hLk l (List.mem_reverse.mp h)) ((List.reverse_perm L).nodup_iff.mpr hLn) (by rw [List.length_reverse]; omega) (L := L.reverse) (g := .f) (.inr rfl)
   rw [srtL_eq (List.reverse_perm L) ((List.reverse_perm L).nodup_iff.mpr hLn)] at hf3
   refine c_dok ⟨rfl, rfl⟩ rfl hf3 inferInstance inferInstance ?_
   walk_at "go"
   refine o2_ rfl rfl (q_dneT hne) inferInstance ?_
   walk_at "go"
   refine wx_lcf dStr lng dStr (by omega) inferInstance ?_ ?_
   ·intro l hm
    have hl1 := (hLk l hm).2
    unfold dStr
    walk_at "go"
    refine ⟨by unfold lng; exact decide_eq_decide.mpr (by omega), ite_b (fun e => ?_) (fun e => ?_)⟩
    ·walk_at "go"
     exact ⟨rfl, rfl⟩
    ·rfl
   walk_at "go"
   refine o1_ rfl q_sortS inferInstance ?_
   have hG : ∀ l ∈ srtL (L.filter lng), l ∈ srtL L ∧ ¬ l.length ≤ 6 := fun l h => by
    obtain ⟨h1, h2⟩ := List.mem_filter.mp ((srtL_perm _).mem_iff.mp h)
    have := of_decide_eq_true (show decide (6 < l.length) = true from h2)
    exact ⟨hp.mem_iff.mpr h1, by omega⟩
   have hGs := srtL_le (L.filter lng)
   have hGl : (srtL (L.filter lng)).length ≤ 16 := by
    rw [(srtL_perm _).length_eq]
    exact Nat.le_trans (List.length_filter_le _ _) hL1.2
   generalize srtL (L.filter lng) = G at hG hGs hGl
   have hfs : ∀ l ∈ G, formS (srtL L) l ∉ L := fun l h z => by
    exact dash_no hLk z (dash_in (hG l h).2)
   have hGf : (G.map (formS (srtL L))).Pairwise fun a b => nmLe a b = true := by
    rw [List.pairwise_map]
    exact hGs.imp_of_mem fun {x y} hx hy h => form_mono hs hSn hSl hSk (hG x hx).1 (hG y hy).1 (hG x hx).2 (hG y hy).2 h
   have hGt : SeqAt.shaped (.list ((G.map (formS (srtL L))).map dStr)) = true := shp_strs fun l h => by
    obtain ⟨m, hm, rfl⟩ := List.mem_map.mp h
    exact form_tok hSl (hSk m (hG m hm).1)
   walk_at "go"
   refine wx_lcf dStr (fun _ => false) dStr (by omega) inferInstance ?_ ?_
   ·intro l hm
    obtain ⟨h1, h2⟩ := hG l hm
    have h3 := (hSk l h1).2
    have h4 := form_len hs hSn hSl hSk h1
    walk_at "go"
    refine o2_ rfl rfl (q_getN (S := srtL L) (l := l) h1 rfl) inferInstance ?_
    walk_at "go"
    refine sl_ rfl (q_slSto (a := formS (srtL L) l) (n := 3) rfl (by omega)) inferInstance ?_
    walk_at "go"
    refine sl_ rfl (q_slSto (a := l) (n := 3) rfl (by omega)) inferInstance ?_
    rw [form_take h2]
    walk_at "go"
    refine o2_ rfl rfl (q_getN (S := srtL L) (l := l) h1 rfl) inferInstance ?_
    walk_at "go"
    refine o2_ rfl rfl (q_inL (x := formS (srtL L) l) (M := L)) inferInstance ?_
    rw [if_neg Bool.false_ne_true, decide_eq_false (hfs l hm)]
    walk_at "go"
    exact ⟨rfl, rfl⟩
   rw [show G.filter (fun _ => false) = [] by simp]
   walk_at "go"
   refine o2_ rfl rfl (q_neNil (ds := []) rfl) inferInstance ?_
   walk_at "go"
   refine wx_lcm dStr (fun l => dStr (formS (srtL L) l)) (by omega) inferInstance ?_ ?_
   ·intro l hm
    walk_at "go"
    refine o2_ rfl rfl (q_getN (S := srtL L) (l := l) (hG l hm).1 rfl) inferInstance ?_
    walk_at "go"
    exact ⟨rfl, rfl⟩
   have hmm : (G.map fun l => dStr (formS (srtL L) l)) = (G.map (formS (srtL L))).map dStr := by rw [List.map_map]; rfl
   rw [hmm]
   walk_at "go"
   refine wx_lcm dStr (fun l => dStr (formS (srtL L) l)) (by omega) inferInstance ?_ ?_
   ·intro l hm
    walk_at "go"
    refine o2_ rfl rfl (q_getN (S := srtL L) (l := l) (hG l hm).1 rfl) inferInstance ?_
    walk_at "go"
    exact ⟨rfl, rfl⟩
   rw [hmm]
   walk_at "go"
   refine o1_ rfl q_sortS inferInstance ?_
   rw [srtL_self hGf]
   walk_at "go"
   refine o2_ rfl rfl (q_neLs hGt hGt) inferInstance ?_
   rw [decide_eq_true rfl]
   have g2 := pv_lt b2 (n := (L.length : Int)) (by omega)
   walk_at "go"
   obtain ⟨x, hx, ex⟩ := pick (l := L) dStr g2
   refine o2_ rfl rfl (q_ixL ex) inferInstance ?_
   walk_at "go"
   refine c_dok ⟨rfl, rfl⟩ rfl (without_ok hLk hLn (by omega) hx) inferInstance inferInstance ?_
   generalize b2 / (L.length : Int) = b3
   have g3 := pv_lt b3 (n := (L.length : Int) + 1) (by omega)
   have g4 := pv_lt (b3 / ((L.length : Int) + 1)) (n := 6) (by decide)
   walk_at "go"
   obtain ⟨j, hj⟩ : ∃ j : Nat, b3 % ((L.length : Int) + 1) = (j : Int) := ⟨(b3 % ((L.length : Int) + 1)).toNat, by omega⟩
   rw [hj]
   refine sl_ rfl (q_slLto (f := dStr) (xs := L) (j := j) rfl) inferInstance ?_
   walk_at "go"
   obtain ⟨o, ho, eo⟩ := pick (l := odd83) dStr g4
   refine o2_ rfl rfl (q_ixL eo) inferInstance ?_
   obtain ⟨ho1, ho2⟩ := odd83_ok o ho
   walk_at "go"
   refine sl_ rfl (q_slLfrom (f := dStr) (xs := L) (i := j) rfl) inferInstance ?_
   walk_at "go"
   rw [show (L.take j).map dStr ++ [dStr o] ++ (L.drop j).map dStr = (L.take j ++ [o] ++ L.drop j).map dStr by rw [List.map_append, List.map_append]; rfl]
   have hZ : ∀ l ∈ L.take j ++ [o] ++ L.drop j, TOk (sL l) ∧ l.length ≤ 1000 := fun l h => by
    have nk : ∀ m ∈ L, TOk (sL m) ∧ m.length ≤ 1000 := fun m hm => ⟨(hLk m hm).1.ok, by have := (hLk m hm).2; omega⟩
    rcases List.mem_append.mp h with h | h
    ·rcases List.mem_append.mp h with h | h
     ·exact nk l (List.mem_of_mem_take h)
     ·rw [List.mem_singleton] at h; subst h; exact ho1
    ·exact nk l (List.mem_of_mem_drop h)
   refine c_dok ⟨rfl, rfl⟩ rfl (refused_ok hZ (b := o) (by simp) ho2 (by rw [List.length_append, List.length_append, List.length_take, List.length_drop, List.length_singleton]; omega) (.inr rfl)) inferInstance inferInstance ?_
   walk_at "go"
   rfl
  ·rintro ρ rfl
   walk_at "go"
   rfl
 obtain ⟨z, io, e, rfl⟩ := wf_ex key
 exact ⟨io, e⟩
def topS (i : Nat) : Stmt := PySem.Challenge.pw_chaindisk_k83_whole_short_forms_are_unli.main.body.getD i (.Pass ⟨0, 0, 0, 0⟩)
abbrev s_is_name : Stmt := topS 4
theorem sc_is_name : FnScope ["text", "sign"] ["text"] (defScope s_is_name) := ⟨rfl, rfl, rfl, by decide +kernel, rfl, by decide +kernel, by decide +kernel⟩
abbrev s_short_forms : Stmt := topS 24
theorem sc_short_forms : FnScope ["names", "name", "forms", "counts", "stem"] ["names"] (defScope s_short_forms) := ⟨rfl, rfl, rfl, by decide +kernel, rfl, by decide +kernel, by decide +kernel⟩
abbrev s__law_digits : Stmt := topS 26
theorem sc__law_digits : FnScope ["_law_script", "_law_k", "_law_cell", "_law_total", "_law_number", "_law_turn"] ["_law_script", "_law_k"] (defScope s__law_digits) := ⟨rfl, rfl, rfl, by decide +kernel, rfl, by decide +kernel, by decide +kernel⟩
abbrev s__law_take : Stmt := topS 27
theorem sc__law_take : FnScope ["_law_held", "_law_many", "_law_drawn"] ["_law_held", "_law_many"] (defScope s__law_take) := ⟨rfl, rfl, rfl, by decide +kernel, rfl, by decide +kernel, by decide +kernel⟩
abbrev s__law_whole : Stmt := topS 28
theorem sc__law_whole : FnScope ["_law_thing"] ["_law_thing"] (defScope s__law_whole) := ⟨rfl, rfl, rfl, by decide +kernel, rfl, by decide +kernel, by decide +kernel⟩
abbrev s__law_signs : Stmt := topS 29
theorem sc__law_signs : FnScope [] [] (defScope s__law_signs) := ⟨rfl, rfl, rfl, by decide +kernel, rfl, by decide +kernel, by decide +kernel⟩
abbrev s__law_names : Stmt := topS 30
theorem sc__law_names : FnScope ["_law_held", "_law_many", "_law_base", "_law_first", "_law_ahead", "_law_names_here", "_law_k", "_law_sign", "_law_size"] ["_law_held", "_law_many"] (defScope s__law_names) := ⟨rfl, rfl, rfl, by decide +kernel, rfl, by decide +kernel, by decide +kernel⟩
abbrev s__law_order : Stmt := topS 31
theorem sc__law_order : FnScope ["_law_held", "_law_some", "_law_left", "_law_ordered"] ["_law_held", "_law_some"] (defScope s__law_order) := ⟨rfl, rfl, rfl, by decide +kernel, rfl, by decide +kernel, by decide +kernel⟩
abbrev s__law_kind : Stmt := topS 32
theorem sc__law_kind : FnScope ["_law_error", "_law_some", "_law_words", "_law_word"] ["_law_error"] (defScope s__law_kind) := ⟨rfl, rfl, rfl, by decide +kernel, rfl, by decide +kernel, by decide +kernel⟩
abbrev s__law_refused : Stmt := topS 33
theorem sc__law_refused : FnScope ["_law_names_here", "e"] ["_law_names_here"] (defScope s__law_refused) := ⟨rfl, rfl, rfl, by decide +kernel, rfl, by decide +kernel, by decide +kernel⟩
abbrev s__law_without : Stmt := topS 34
theorem sc__law_without : FnScope ["_law_names_here", "_law_forms", "_law_name", "_law_fewer", "_law_one", "_law_same"] ["_law_names_here", "_law_forms", "_law_name"] (defScope s__law_without) := ⟨rfl, rfl, rfl, by decide +kernel, rfl, by decide +kernel, by decide +kernel⟩
abbrev s_law : Stmt := topS 35
theorem sc_law : FnScope ["_law_script", "_law_odd", "_law_k", "_law_held", "_law_names_here", "_law_forms", "_law_some", "_law_longer", "_law_at", "_law_name", "_law_form"] ["_law_script"] (defScope s_law) := ⟨rfl, rfl, rfl, by decide +kernel, rfl, by decide +kernel, by decide +kernel⟩
structure Txt (K : PySem.W.Frag) (mg : Str → Option Value) (q_DiskError : Addr) (q_IsDrawer : Addr) (q_IsFile : Addr) (q_NoBlock : Addr) (q_NoChain : Addr) (q_NoCut : Addr) (q_NoLine : Addr) (q_NoName : Addr) (q_NoPath : Addr) (q_NoRoom : Addr) (q_NoSize : Addr) (q_NotBare : Addr) (q_Taken : Addr) (q_Unsound : Addr) (q_Within : Addr) : Prop where
 b_ValueError : mg "ValueError" = none
 b_bool : mg "bool" = none
 b_int : mg "int" = none
 b_isinstance : mg "isinstance" = none
 b_len : mg "len" = none
 b_list : mg "list" = none
 b_max : mg "max" = none
 b_min : mg "min" = none
 b_range : mg "range" = none
 b_set : mg "set" = none
 b_sorted : mg "sorted" = none
 b_str : mg "str" = none
 c_SIGNS : ∃ t, mg "SIGNS" = some (.str "abcdefghijklmnopqrstuvwxyz0123456789" t)
 c_MOST_SIGNS : ∃ t, mg "MOST_SIGNS" = some (.int 18 t)
 c_PIECE : ∃ t, mg "PIECE" = some (.int 6 t)
 c_STEM : ∃ t, mg "STEM" = some (.int 3 t)
 c_FIGURES : ∃ t, mg "FIGURES" = some (.int 2 t)
 k_DiskError : ClsX K mg "DiskError" q_DiskError
 k_IsDrawer : ClsX K mg "IsDrawer" q_IsDrawer
 k_IsFile : ClsX K mg "IsFile" q_IsFile
 k_NoBlock : ClsX K mg "NoBlock" q_NoBlock
 k_NoChain : ClsX K mg "NoChain" q_NoChain
 k_NoCut : ClsX K mg "NoCut" q_NoCut
 k_NoLine : ClsX K mg "NoLine" q_NoLine
 k_NoName : ClsX K mg "NoName" q_NoName
 k_NoPath : ClsX K mg "NoPath" q_NoPath
 k_NoRoom : ClsX K mg "NoRoom" q_NoRoom
 k_NoSize : ClsX K mg "NoSize" q_NoSize
 k_NotBare : ClsX K mg "NotBare" q_NotBare
 k_Taken : ClsX K mg "Taken" q_Taken
 k_Unsound : ClsX K mg "Unsound" q_Unsound
 k_Within : ClsX K mg "Within" q_Within
 x_NoName : PySem.W.excIn K q_NoName [.type "ValueError", .type "Exception", .type "BaseException", .type "object"] "ValueError.__new__" = true
 t_IsDrawer : TabOk K (.ref q_IsDrawer) (fun c => if c = "NoName" then some false else none)
 t_IsFile : TabOk K (.ref q_IsFile) (fun c => if c = "NoName" then some false else none)
 t_NoBlock : TabOk K (.ref q_NoBlock) (fun c => if c = "NoName" then some false else none)
 t_NoChain : TabOk K (.ref q_NoChain) (fun c => if c = "NoName" then some false else none)
 t_NoCut : TabOk K (.ref q_NoCut) (fun c => if c = "NoName" then some false else none)
 t_NoLine : TabOk K (.ref q_NoLine) (fun c => if c = "NoName" then some false else none)
 t_NoName : TabOk K (.ref q_NoName) (fun c => if c = "NoName" then some true else none)
 t_NoPath : TabOk K (.ref q_NoPath) (fun c => if c = "NoName" then some false else none)
 t_NoRoom : TabOk K (.ref q_NoRoom) (fun c => if c = "NoName" then some false else none)
 t_NoSize : TabOk K (.ref q_NoSize) (fun c => if c = "NoName" then some false else none)
 t_NotBare : TabOk K (.ref q_NotBare) (fun c => if c = "NoName" then some false else none)
 t_Taken : TabOk K (.ref q_Taken) (fun c => if c = "NoName" then some false else none)
 t_Unsound : TabOk K (.ref q_Unsound) (fun c => if c = "NoName" then some false else none)
 t_ValueError : TabOk K (.type "ValueError") (fun c => if c = "NoName" then some true else none)
 t_Within : TabOk K (.ref q_Within) (fun c => if c = "NoName" then some false else none)
 s_DiskError : SubOk K (.ref q_DiskError) (fun c => if c = "NoName" then some true else none)
 f_NoPath : XfC K q_NoPath ∧ PySem.W.findIn K (.ref q_NoPath) "place" = some none
section
variable {P : Program} {w : World} {K : PySem.W.Frag} {mg : Str → Option Value} {base : Heap} {T0 : List (Addr × Str)} {q_DiskError : Addr} {q_IsDrawer : Addr} {q_IsFile : Addr} {q_NoBlock : Addr} {q_NoChain : Addr} {q_NoCut : Addr} {q_NoLine : Addr} {q_NoName : Addr} {q_NoPath : Addr} {q_NoRoom : Addr} {q_NoSize : Addr} {q_NotBare : Addr} {q_Taken : Addr} {q_Unsound : Addr} {q_Within : Addr}
theorem ok_is_name {f : Addr} {fd : FuncData} (D : Def K mg "is_name" s_is_name ["text"] f fd) (T : Txt K mg q_DiskError q_IsDrawer q_IsFile q_NoBlock q_NoChain q_NoCut q_NoLine q_NoName q_NoPath q_NoRoom q_NoSize q_NotBare q_Taken q_Unsound q_Within) : Cal P w K mg base CX0 "is_name" 1 ["text"] (spM K T0 m_is_name) f fd := by
 refine ⟨?_, D.g, D.F.kp, D.b⟩
 have h := okM (P := P) (w := w) (mg := mg) (base := base) (T := T0) (k := 0) (r := r_is_name) D.F sc_is_name (fun cdv Ar outer s H E hr => ⟨_, (pss_cons (ps_if (pt_not (pt_chain op_le op_le pe_int (pe_callB call_len_str (by rfl) T.b_len PySem.boot_len (pa_cons (pv 0) pa_nil)) (pe_glob (v := .int 18) (by rfl) T.c_MOST_SIGNS.choose_spec ⟨_, rfl⟩)))
 (pss_one (ps_ret pe_bl)) pss_nil)
 (pss_one (ps_ret (pe_cmpR (op_eqD hr.units) (pe_lc (own := [("sign", 1)]) rfl sc_is_name.nd (pi_str (pv 0)) (blkOk_by (N := ["text", "sign"]) (sc := defScope s_is_name) (by decide +kernel)) (fun _ _ _ _ _ => (pg_name (i := 1) sc_is_name.nd rfl (Or.inl rfl) (Or.inr rfl))) (fun _ _ _ _ _ => (pts_one (pt_cmpR op_notIn_sign (pv 1) (pe_glob (v := .str "abcdefghijklmnopqrstuvwxyz0123456789") (by rfl) T.c_SIGNS.choose_spec ⟨_, rfl⟩) rfl))) (fun _ _ _ _ _ => (pv 1))) (pe_lst pa_nil) (nomark _))))), fun B => by
  try dsimp only [cxOf, Cx.nox, Cx.wish]
  exact (ss_seq (ss_if (st_not (st_test (se_chain op2_le op2_le se_int (se_cb1 op1_lenS se_var) se_int)))
 (ss_ret se_bl) ss_next)
 (ss_ret (se_op op2_eqD (se_lc (w1 := fun _ _ _ _ => False) (w2 := fun _ _ _ _ => False) (si_str se_var) (sgv_name (by decide)) (st_test (se_op op2_notInS se_var se_str)) se_var) (se_lst sa_nil))))⟩)
 exact h
theorem ok_short_forms {f : Addr} {fd : FuncData} (D : Def K mg "short_forms" s_short_forms ["names"] f fd) (T : Txt K mg q_DiskError q_IsDrawer q_IsFile q_NoBlock q_NoChain q_NoCut q_NoLine q_NoName q_NoPath q_NoRoom q_NoSize q_NotBare q_Taken q_Unsound q_Within) {f_is_name : Addr} {fd_is_name : FuncData} (c_is_name : Cal P w K mg base CX0 "is_name" 1 ["text"] (spM K T0 m_is_name) f_is_name fd_is_name) : Cal P w K mg base (L2.CX P w) "short_forms" 2 ["names"] (spM K T0 m_short_forms) f fd := by
 refine ⟨?_, D.g, D.F.kp, D.b⟩
 have h := okMX (P := P) (w := w) (mg := mg) (base := base) (T := T0) (k := 1) (r := r_short_forms) D.F sc_short_forms (fun cdv Ar outer s H E hr => ⟨_, (pss_cons (ps_for (passes_of rfl) rfl (pi_list (pv 0)) (pg_name (i := 1) sc_short_forms.nd rfl (by first | exact .inl rfl | exact .inr rfl))
 (pss_one (ps_if (pt_not (pt_val (pe_call c_is_name.G (hr.mono (by omega)) (by rfl) c_is_name.g c_is_name.kp c_is_name.b .nil pass0 (pa_cons (pv 1) pa_nil))))
 (pss_one (ps_raise rfl (takes_of rfl rfl rfl rfl) (pmk_own PySem.F.excBase_ValueError T.x_NoName T.k_NoName.g T.k_NoName.kp T.k_NoName.raises (by rfl)))) pss_nil)))
 (pss_cons (ps_set (i := 2) sc_short_forms.nd rfl (by first | exact .inl rfl | exact .inr rfl) pe_dnewK)
 (pss_cons (ps_set (i := 3) sc_short_forms.nd rfl (by first | exact .inl rfl | exact .inr rfl) pe_dnewK)
 (pss_cons (ps_for (passes_of rfl) rfl (pi_list (pe_callB (cr_sortedSA (hu65 hr)) (by rfl) T.b_sorted (by decide +kernel) (pa_cons (pv 0) pa_nil))) (pg_name (i := 1) sc_short_forms.nd rfl (by first | exact .inl rfl | exact .inr rfl))
 (pss_cons (ps_if (pt_cmpR op_le (pe_callB call_len_str (by rfl) T.b_len PySem.boot_len (pa_cons (pv 1) pa_nil)) (pe_glob (v := .int 6) (by rfl) T.c_PIECE.choose_spec ⟨_, rfl⟩) (nomark _))
 (pss_cons (ps_dput (hu_of hr) (pv 2) (pv 1) (pv 1) rfl)
 (pss_one ps_continue)) pss_nil)
 (pss_cons (ps_set (i := 4) sc_short_forms.nd rfl (by first | exact .inl rfl | exact .inr rfl) (pe_slice sl_str (pv 1) po_none (po_some (pe_glob (v := .int 3) (by rfl) T.c_STEM.choose_spec ⟨_, rfl⟩))))
 (pss_cons (ps_dput (hu_of hr) (pv 3) (pv 4) (pe_op op_add (pe_dget2 (hu_of hr) (pv 3) (pv 4) pe_int ⟨rfl, rfl, rfl, rfl⟩) pe_int) rfl)
 (pss_one (ps_dput (hu_of hr) (pv 2) (pv 1) (pe_op op_add_str (pe_op op_add_str (pv 4) pe_str) (pe_bm PySem.F.plainAttrs_str PySem.F.slot_str_zfill PySem.F.type_str_zfill mt_zfill (pe_callTy call_str_int (by rfl) T.b_str (by decide +kernel) (pa_cons (pe_dget (hu_of hr) (pv 3) (pv 4) (fun _ _ => rfl)) pa_nil)) (pa_cons (pe_glob (v := .int 2) (by rfl) T.c_FIGURES.choose_spec ⟨_, rfl⟩) pa_nil))) rfl))))))
 (pss_one (ps_ret (pv 2))))))), fun B => by
  try dsimp only [cxOf, Cx.nox, Cx.wish]
  exact (ss_seq (ss_for (si_list se_var) sg_name
 (ss_fgt (ss_if (st_not (st_B (se_call [false] (sa_cons se_var sa_nil))))
 (ss_raise T.k_NoName.o) ss_next)))
 (ss_seq (ss_asg se_dnewK)
 (ss_seq (ss_asg se_dnewK)
 (ss_seq (ss_fgt (ss_for (si_list (se_cb1 op1_sortS se_var)) sg_name
 (ss_fgtL (ss_seq (ss_if (st_test (se_op op2_le (se_cb1 op1_lenS se_var) se_int))
 (ss_seq (ss_fgt (ss_dput se_var se_var))
 ss_cont) ss_next)
 (ss_seq (ss_asg (se_sl slo_S se_var so_none (so_some se_int)))
 (ss_seq (ss_dput (se_op op2_add (se_dget2 se_var se_int) se_int) se_var)
 (ss_fgt (ss_dput (se_op op2_catS (se_op op2_catS se_var se_str) (se_meth mto_zfill (se_cb1 op1_str (se_dget se_var se_var)) (sa_cons se_int sa_nil))) se_var))))))))
 (ss_ret se_var)))))⟩)
 exact h
theorem ok__law_digits {f : Addr} {fd : FuncData} (D : Def K mg "_law_digits" s__law_digits ["_law_script", "_law_k"] f fd) (T : Txt K mg q_DiskError q_IsDrawer q_IsFile q_NoBlock q_NoChain q_NoCut q_NoLine q_NoName q_NoPath q_NoRoom q_NoSize q_NotBare q_Taken q_Unsound q_Within) : Cal P w K mg base CX0 "_law_digits" 1 ["_law_script", "_law_k"] (spM K T0 m__law_digits) f fd := by
 refine ⟨?_, D.g, D.F.kp, D.b⟩
 have h := okM (P := P) (w := w) (mg := mg) (base := base) (T := T0) (k := 0) (r := r__law_digits) D.F sc__law_digits (fun cdv Ar outer s H E hr => ⟨_, (pss_cons (ps_set (i := 2) sc__law_digits.nd rfl (by first | exact .inl rfl | exact .inr rfl) (pe_ifExp (pt_cmpR op_lt (pv 1) (pe_callB call_len_seq (by rfl) T.b_len PySem.boot_len (pa_cons (pv 0) pa_nil)) (nomark _)) (pe_ix ix_list (pv 0) (pv 1) (fun _ _ => rfl)) pe_int))
 (pss_cons (ps_if (pt_cmpR op_ge (pv 2) (pe_op op_pow pe_int pe_int) (nomark _))
 (pss_one (ps_ret (pe_lst (pa_cons (pe_op op_sub (pv 2) (pe_op op_pow pe_int pe_int)) pa_nil)))) pss_nil)
 (pss_cons (ps_set (i := 3) sc__law_digits.nd rfl (by first | exact .inl rfl | exact .inr rfl) pe_int)
 (pss_cons (ps_set (i := 4) sc__law_digits.nd rfl (by first | exact .inl rfl | exact .inr rfl) (pe_op op_mod (pe_op op_add (pe_op op_add (pe_op op_mul (pv 2) pe_int) (pe_op op_mul pe_int (pv 1))) pe_int) pe_int))
 (pss_cons (ps_for PassesOwn.never rfl (pi_range1 (by rfl) T.b_range (pa_cons pe_int pa_nil)) (pg_name (i := 5) sc__law_digits.nd rfl (by first | exact .inl rfl | exact .inr rfl))
 (pss_cons (ps_set (i := 4) sc__law_digits.nd rfl (by first | exact .inl rfl | exact .inr rfl) (pe_op op_mod (pe_op op_add (pe_op op_add (pe_op op_mul (pv 4) (pv 4)) (pe_op op_mul pe_int (pv 4))) (pv 5)) pe_int))
 (pss_one (ps_set (i := 3) sc__law_digits.nd rfl (by first | exact .inl rfl | exact .inr rfl) (pe_op op_add (pe_op op_mul (pv 3) pe_int) (pe_op op_mod (pe_op op_mul (pv 4) pe_int) pe_int))))))
 (pss_one (ps_ret (pe_lst (pa_cons (pv 3) pa_nil))))))))), fun B => by
  try dsimp only [cxOf, Cx.nox, Cx.wish]
  exact (ss_seq (ss_fgt (ss_asg (se_ifE (st_test (se_op op2_lt se_var se_lenSc)) (se_ixSc se_var) se_int)))
 (ss_seq (ss_if (st_test (se_op op2_ge se_var (se_op op2_pow se_int se_int)))
 (ss_ret (se_lst (sa_cons (se_op op2_sub se_var (se_op op2_pow se_int se_int)) sa_nil))) ss_next)
 (ss_seq (ss_asg se_int)
 (ss_seq (ss_fgt (ss_asg (se_op op2_mod (se_op op2_add (se_op op2_add (se_op op2_mul se_var se_int) (se_op op2_mul se_int se_var)) se_int) se_int)))
 (ss_seq (ss_fgt (ss_for (si_rng1 se_int) sg_name
 (ss_seq (ss_fgt (ss_asg (se_op op2_mod (se_op op2_add (se_op op2_add (se_op op2_mul se_var se_var) (se_op op2_mul se_int se_var)) se_var) se_int)))
 (ss_asg (se_op op2_add (se_op op2_mul se_var se_int) (se_op op2_mod (se_op op2_mul se_var se_int) se_int))))))
 (ss_ret (se_lst (sa_cons se_var sa_nil))))))))⟩)
 exact h
theorem ok__law_take {f : Addr} {fd : FuncData} (D : Def K mg "_law_take" s__law_take ["_law_held", "_law_many"] f fd) (T : Txt K mg q_DiskError q_IsDrawer q_IsFile q_NoBlock q_NoChain q_NoCut q_NoLine q_NoName q_NoPath q_NoRoom q_NoSize q_NotBare q_Taken q_Unsound q_Within) : Cal P w K mg base CX0 "_law_take" 1 ["_law_held", "_law_many"] (spM K T0 m__law_take) f fd := by
 refine ⟨?_, D.g, D.F.kp, D.b⟩
 have h := okM (P := P) (w := w) (mg := mg) (base := base) (T := T0) (k := 0) (r := r__law_take) D.F sc__law_take (fun cdv Ar outer s H E hr => ⟨_, (pss_cons (ps_set (i := 2) sc__law_take.nd rfl (by first | exact .inl rfl | exact .inr rfl) (pe_op op_mod (pe_ix ix_list (pv 0) pe_int (fun _ _ => rfl)) (pv 1)))
 (pss_cons (ps_asg (pe_op op_fdivW (pe_ix ix_list (pv 0) pe_int (fun _ _ => rfl)) (pv 1)) (pg_sub (pv 0) pe_int set_list))
 (pss_one (ps_ret (pv 2))))), fun B => by
  try dsimp only [cxOf, Cx.nox, Cx.wish]
  exact (ss_seq (ss_asg (se_op op2_mod (se_op op2_ixL se_var se_int) se_var))
 (ss_seq (ss_fgt (ss_setI (se_op op2_div (se_op op2_ixL se_var se_int) se_var) se_int))
 (ss_ret se_var)))⟩)
 exact h
theorem okP__law_whole {f : Addr} {fd : FuncData} (D : Def K mg "_law_whole" s__law_whole ["_law_thing"] f fd) (T : Txt K mg q_DiskError q_IsDrawer q_IsFile q_NoBlock q_NoChain q_NoCut q_NoLine q_NoName q_NoPath q_NoRoom q_NoSize q_NotBare q_Taken q_Unsound q_Within) : CalP P w K mg base "_law_whole" 1 ["_law_thing"] (fun _ _ _ => spM K T0 m__law_whole) f fd := by
 refine ⟨?_, D.g, D.F.kp, D.b⟩
 have h := okP (P := P) (w := w) (mg := mg) (base := base) (T := T0) (k := 0) (r := r__law_whole) D.F sc__law_whole (fun cdv Ar outer s H E a oe cls d hz hf hr => ⟨_, (pss_one (ps_ret (pe_and (pe_callB call_isi (by rfl) T.b_isinstance (by decide +kernel) (pa_cons (pv 0) (pa_cons (pe_bltn (v := .ty "int") (u := .type "int") (by rfl) T.b_int (by decide +kernel) rfl) pa_nil))) (pe_one (pe_not (pe_callB call_isi (by rfl) T.b_isinstance (by decide +kernel) (pa_cons (pv 0) (pa_cons (pe_bltn (v := .ty "bool") (u := .type "bool") (by rfl) T.b_bool (by decide +kernel) rfl) pa_nil)))))))), fun B => by
  try dsimp only [cxOf, Cx.nox, Cx.wish, Cx.suite]
  exact (ss_ret (se_andV (se_isi se_var) (se_notV (se_isi se_var))))⟩)
 exact h
theorem ok__law_whole {f : Addr} {fd : FuncData} (D : Def K mg "_law_whole" s__law_whole ["_law_thing"] f fd) (T : Txt K mg q_DiskError q_IsDrawer q_IsFile q_NoBlock q_NoChain q_NoCut q_NoLine q_NoName q_NoPath q_NoRoom q_NoSize q_NotBare q_Taken q_Unsound q_Within) : Cal P w K mg base CX0 "_law_whole" 1 ["_law_thing"] (spM K T0 m__law_whole) f fd := by
 refine ⟨?_, D.g, D.F.kp, D.b⟩
 have h := okM (P := P) (w := w) (mg := mg) (base := base) (T := T0) (k := 0) (r := r__law_whole) D.F sc__law_whole (fun cdv Ar outer s H E hr => ⟨_, (pss_one (ps_ret (pe_and (pe_callB call_isi (by rfl) T.b_isinstance (by decide +kernel) (pa_cons (pv 0) (pa_cons (pe_bltn (v := .ty "int") (u := .type "int") (by rfl) T.b_int (by decide +kernel) rfl) pa_nil))) (pe_one (pe_not (pe_callB call_isi (by rfl) T.b_isinstance (by decide +kernel) (pa_cons (pv 0) (pa_cons (pe_bltn (v := .ty "bool") (u := .type "bool") (by rfl) T.b_bool (by decide +kernel) rfl) pa_nil)))))))), fun B => by
  try dsimp only [cxOf, Cx.nox, Cx.wish]
  exact (ss_ret (se_andV (se_isi se_var) (se_notV (se_isi se_var))))⟩)
 exact h
theorem ok__law_signs {f : Addr} {fd : FuncData} (D : Def K mg "_law_signs" s__law_signs [] f fd) (T : Txt K mg q_DiskError q_IsDrawer q_IsFile q_NoBlock q_NoChain q_NoCut q_NoLine q_NoName q_NoPath q_NoRoom q_NoSize q_NotBare q_Taken q_Unsound q_Within) : Cal P w K mg base CX0 "_law_signs" 1 [] (spM K T0 m__law_signs) f fd := by
 refine ⟨?_, D.g, D.F.kp, D.b⟩
 have h := okM (P := P) (w := w) (mg := mg) (base := base) (T := T0) (k := 0) (r := r__law_signs) D.F sc__law_signs (fun cdv Ar outer s H E hr => ⟨_, (pss_one (ps_ret pe_str)), fun B => by
  try dsimp only [cxOf, Cx.nox, Cx.wish]
  exact (ss_ret se_str)⟩)
 exact h
theorem ok__law_names {f : Addr} {fd : FuncData} (D : Def K mg "_law_names" s__law_names ["_law_held", "_law_many"] f fd) (T : Txt K mg q_DiskError q_IsDrawer q_IsFile q_NoBlock q_NoChain q_NoCut q_NoLine q_NoName q_NoPath q_NoRoom q_NoSize q_NotBare q_Taken q_Unsound q_Within) {f__law_take : Addr} {fd__law_take : FuncData} (c__law_take : Cal P w K mg base CX0 "_law_take" 1 ["_law_held", "_law_many"] (spM K T0 m__law_take) f__law_take fd__law_take) {f__law_signs : Addr} {fd__law_signs : FuncData} (c__law_signs : Cal P w K mg base CX0 "_law_signs" 1 [] (spM K T0 m__law_signs) f__law_signs fd__law_signs) : Cal P w K mg base CX0 "_law_names" 2 ["_law_held", "_law_many"] (spM K T0 m__law_names) f fd := by
 refine ⟨?_, D.g, D.F.kp, D.b⟩
 have h := okM (P := P) (w := w) (mg := mg) (base := base) (T := T0) (k := 1) (r := r__law_names) D.F sc__law_names (fun cdv Ar outer s H E hr => ⟨_, (pss_cons (ps_set (i := 2) sc__law_names.nd rfl (by first | exact .inl rfl | exact .inr rfl) (pe_bm PySem.F.plainAttrs_str PySem.F.slot_str_join PySem.F.type_str_join mt_join pe_str (pa_cons (pe_lc (own := [("_law_k", 6)]) rfl sc__law_names.nd (pi_range1 (by rfl) T.b_range (pa_cons pe_int pa_nil)) (blkOk_by (N := ["_law_held", "_law_many", "_law_base", "_law_first", "_law_ahead", "_law_names_here", "_law_k", "_law_sign", "_law_size"]) (sc := defScope s__law_names) (by decide +kernel)) (fun _ _ _ _ _ => (pg_name (i := 6) sc__law_names.nd rfl (Or.inl rfl) (Or.inr rfl))) (fun _ _ _ _ _ => pts_nil) (fun _ _ _ _ _ => (pe_ix ix_str (pe_call0 c__law_signs.G (hr.mono (by omega)) (by rfl) c__law_signs.g c__law_signs.kp c__law_signs.b .nil pass0) (pe_call c__law_take.G (hr.mono (by omega)) (by rfl) c__law_take.g c__law_take.kp c__law_take.b .nil pass0 (pa_cons (pv 0) (pa_cons pe_int pa_nil))) (fun _ _ => rfl)))) pa_nil)))
 (pss_cons (ps_set (i := 3) sc__law_names.nd rfl (by first | exact .inl rfl | exact .inr rfl) (pe_call c__law_take.G (hr.mono (by omega)) (by rfl) c__law_take.g c__law_take.kp c__law_take.b .nil pass0 (pa_cons (pv 0) (pa_cons pe_int pa_nil))))
 (pss_cons (ps_set (i := 4) sc__law_names.nd rfl (by first | exact .inl rfl | exact .inr rfl) (pe_cmpR op_eq (pe_call c__law_take.G (hr.mono (by omega)) (by rfl) c__law_take.g c__law_take.kp c__law_take.b .nil pass0 (pa_cons (pv 0) (pa_cons pe_int pa_nil))) pe_int (nomark _)))
 (pss_cons (ps_set (i := 5) sc__law_names.nd rfl (by first | exact .inl rfl | exact .inr rfl) (pe_lst pa_nil))
 (pss_cons (ps_for PassesOwn.never rfl (pi_range1 (by rfl) T.b_range (pa_cons (pv 1) pa_nil)) (pg_name (i := 6) sc__law_names.nd rfl (by first | exact .inl rfl | exact .inr rfl))
 (pss_cons (ps_set (i := 7) sc__law_names.nd rfl (by first | exact .inl rfl | exact .inr rfl) (pe_ix ix_str (pe_call0 c__law_signs.G (hr.mono (by omega)) (by rfl) c__law_signs.g c__law_signs.kp c__law_signs.b .nil pass0) (pe_op op_mod (pe_op op_add (pv 3) (pe_op op_mul pe_int (pv 6))) pe_int) (fun _ _ => rfl)))
 (pss_cons (ps_set (i := 8) sc__law_names.nd rfl (by first | exact .inl rfl | exact .inr rfl) (pe_ix ix_list (pe_lst (pa_cons (pe_call c__law_take.G (hr.mono (by omega)) (by rfl) c__law_take.g c__law_take.kp c__law_take.b .nil pass0 (pa_cons (pv 0) (pa_cons pe_int pa_nil))) (pa_cons (pe_ix ix_list (pe_lst (pa_cons pe_int (pa_cons pe_int (pa_cons pe_int (pa_cons pe_int (pa_cons pe_int (pa_cons pe_int (pa_cons pe_int (pa_cons pe_int pa_nil))))))))) (pe_call c__law_take.G (hr.mono (by omega)) (by rfl) c__law_take.g c__law_take.kp c__law_take.b .nil pass0 (pa_cons (pv 0) (pa_cons pe_int pa_nil))) (fun _ _ => rfl)) pa_nil))) (pe_call c__law_take.G (hr.mono (by omega)) (by rfl) c__law_take.g c__law_take.kp c__law_take.b .nil pass0 (pa_cons (pv 0) (pa_cons pe_int pa_nil))) (fun _ _ => rfl)))
 (pss_one (ps_if (pt_val (pv 4))
 (pss_one (ps_expr (pe_bm PySem.F.plainAttrs_list PySem.F.slot_list_append PySem.F.type_list_append mt_append (pv 5) (pa_cons (pe_op op_add_str (pv 7) (pe_slice sl_str (pv 2) po_none (po_some (pe_ix ix_list (pe_lst (pa_cons pe_int (pa_cons pe_int (pa_cons pe_int (pa_cons pe_int pa_nil))))) (pe_op op_mod (pv 8) pe_int) (fun _ _ => rfl))))) pa_nil)))) (pss_one (ps_expr (pe_bm PySem.F.plainAttrs_list PySem.F.slot_list_append PySem.F.type_list_append mt_append (pv 5) (pa_cons (pe_op op_add_str (pe_slice sl_str (pv 2) po_none (po_some (pv 8))) (pv 7)) pa_nil)))))))))
 (pss_one (ps_ret (pv 5)))))))), fun B => by
  try dsimp only [cxOf, Cx.nox, Cx.wish]
  exact (ss_seq (ss_asg (se_meth mto_join se_str (sa_cons (se_lc (w1 := fun _ _ _ _ => False) (w2 := fun _ _ _ _ => False) (si_rng1 se_int) (sgv_name (by decide)) st_yes (se_op op2_ixS (se_call [] sa_nil) (se_call [true, false] (sa_cons se_var (sa_cons se_int sa_nil))))) sa_nil)))
 (ss_seq (ss_asg (se_call [true, false] (sa_cons se_var (sa_cons se_int sa_nil))))
 (ss_seq (ss_asg (se_op op2_eq (se_call [true, false] (sa_cons se_var (sa_cons se_int sa_nil))) se_int))
 (ss_seq (ss_asg (se_lst sa_nil))
 (ss_seq (ss_fgt (ss_for (si_rng1 se_var) sg_name
 (ss_seq (ss_fgt (ss_asg (se_op op2_ixS (se_call [] sa_nil) (se_op op2_mod (se_op op2_add se_var (se_op op2_mul se_int se_var)) se_int))))
 (ss_seq (ss_asg (se_op op2_ixL (se_lst (sa_cons (se_call [true, false] (sa_cons se_var (sa_cons se_int sa_nil))) (sa_cons (se_op op2_ixL (se_lst (sa_cons se_int (sa_cons se_int (sa_cons se_int (sa_cons se_int (sa_cons se_int (sa_cons se_int (sa_cons se_int (sa_cons se_int sa_nil))))))))) (se_call [true, false] (sa_cons se_var (sa_cons se_int sa_nil)))) sa_nil))) (se_call [true, false] (sa_cons se_var (sa_cons se_int sa_nil)))))
 (ss_fgt (ss_if (st_B se_var)
 (ss_fgt (ss_drop (se_methL mut_append (sa_cons (se_op op2_catS se_var (se_sl slo_S se_var so_none (so_some (se_op op2_ixL (se_lst (sa_cons se_int (sa_cons se_int (sa_cons se_int (sa_cons se_int sa_nil))))) (se_op op2_mod se_var se_int))))) sa_nil)))) (ss_fgt (ss_drop (se_methL mut_append (sa_cons (se_op op2_catS (se_sl slo_S se_var so_none (so_some se_var)) se_var) sa_nil))))))))))
 (ss_ret se_var))))))⟩)
 exact h
theorem ok__law_order {f : Addr} {fd : FuncData} (D : Def K mg "_law_order" s__law_order ["_law_held", "_law_some"] f fd) (T : Txt K mg q_DiskError q_IsDrawer q_IsFile q_NoBlock q_NoChain q_NoCut q_NoLine q_NoName q_NoPath q_NoRoom q_NoSize q_NotBare q_Taken q_Unsound q_Within) {f__law_take : Addr} {fd__law_take : FuncData} (c__law_take : Cal P w K mg base CX0 "_law_take" 1 ["_law_held", "_law_many"] (spM K T0 m__law_take) f__law_take fd__law_take) : Cal P w K mg base CX0 "_law_order" 2 ["_law_held", "_law_some"] (spM K T0 m__law_order) f fd := by
 refine ⟨?_, D.g, D.F.kp, D.b⟩
 have h := okM (P := P) (w := w) (mg := mg) (base := base) (T := T0) (k := 1) (r := r__law_order) D.F sc__law_order (fun cdv Ar outer s H E hr => ⟨_, (pss_cons (ps_set (i := 2) sc__law_order.nd rfl (by first | exact .inl rfl | exact .inr rfl) (pe_callTy call_list_of (by rfl) T.b_list (by decide +kernel) (pa_cons (pv 1) pa_nil)))
 (pss_cons (ps_set (i := 3) sc__law_order.nd rfl (by first | exact .inl rfl | exact .inr rfl) (pe_lst pa_nil))
 (pss_cons (ps_while PassesOwn.never (pt_cmpR (op_neD hr.units) (pv 2) (pe_lst pa_nil) (nomark _))
 (pss_one (ps_expr (pe_bm PySem.F.plainAttrs_list PySem.F.slot_list_append PySem.F.type_list_append mt_append (pv 3) (pa_cons (pe_bm PySem.F.plainAttrs_list PySem.F.slot_list_pop PySem.F.type_list_pop mt_popAt (pv 2) (pa_cons (pe_call c__law_take.G (hr.mono (by omega)) (by rfl) c__law_take.g c__law_take.kp c__law_take.b .nil pass0 (pa_cons (pv 0) (pa_cons (pe_callB call_len_seq (by rfl) T.b_len PySem.boot_len (pa_cons (pv 2) pa_nil)) pa_nil))) pa_nil)) pa_nil)))))
 (pss_one (ps_ret (pv 3)))))), fun B => by
  try dsimp only [cxOf, Cx.nox, Cx.wish]
  exact (ss_seq (ss_fgt (ss_asg (se_cb1 op1_list se_var)))
 (ss_seq (ss_asg (se_lst sa_nil))
 (ss_seq (ss_fgt (ss_while (st_test (se_op op2_neD se_var (se_lst sa_nil)))
 (ss_drop (se_methL mut_append (sa_cons (se_methL mut_popAt (sa_cons (se_call [true, false] (sa_cons se_var (sa_cons (se_cb1 op1_len se_var) sa_nil))) sa_nil)) sa_nil)))))
 (ss_ret se_var))))⟩)
 exact h
theorem ok__law_kind {f : Addr} {fd : FuncData} (D : Def K mg "_law_kind" s__law_kind ["_law_error"] f fd) (T : Txt K mg q_DiskError q_IsDrawer q_IsFile q_NoBlock q_NoChain q_NoCut q_NoLine q_NoName q_NoPath q_NoRoom q_NoSize q_NotBare q_Taken q_Unsound q_Within) {f__law_whole : Addr} {fd__law_whole : FuncData} (p__law_whole : CalP P w K mg base "_law_whole" 1 ["_law_thing"] (fun _ _ _ => spM K T0 m__law_whole) f__law_whole fd__law_whole) : CalP P w K mg base "_law_kind" 2 ["_law_error"] (spE K T0 m__law_kind) f fd := by
 refine ⟨?_, D.g, D.F.kp, D.b⟩
 have h := okE (P := P) (w := w) (mg := mg) (base := base) (T := T0) (k := 1) (r := r__law_kind) D.F sc__law_kind (fun cdv Ar outer s H E a oe cls d hz hf hr => ⟨_, (pss_cons (ps_if (pt_not (pt_val (pe_callB (r := Fz.rIsX K a cls d) (Fz.call_isX hz hf) (by rfl) T.b_isinstance (by decide +kernel) (pa_cons (pv 0) (pa_cons (pe_bltn (v := .ty "ValueError") (u := .type "ValueError") (by rfl) T.b_ValueError (by decide +kernel) rfl) pa_nil)))))
 (pss_one (ps_ret (pe_tup (pa_cons pe_str pa_nil)))) pss_nil)
 (pss_cons (ps_set (i := 1) sc__law_kind.nd rfl (by first | exact .inl rfl | exact .inr rfl) (pe_lst (pa_cons (pe_callB (r := Fz.rIsX K a cls d) (Fz.call_isX hz hf) (by rfl) T.b_isinstance (by decide +kernel) (pa_cons (pv 0) (pa_cons (pe_glob (v := .ref q_NoSize) (by rfl) T.k_NoSize.g rfl) pa_nil))) (pa_cons (pe_callB (r := Fz.rIsX K a cls d) (Fz.call_isX hz hf) (by rfl) T.b_isinstance (by decide +kernel) (pa_cons (pv 0) (pa_cons (pe_glob (v := .ref q_NoBlock) (by rfl) T.k_NoBlock.g rfl) pa_nil))) (pa_cons (pe_callB (r := Fz.rIsX K a cls d) (Fz.call_isX hz hf) (by rfl) T.b_isinstance (by decide +kernel) (pa_cons (pv 0) (pa_cons (pe_glob (v := .ref q_NoChain) (by rfl) T.k_NoChain.g rfl) pa_nil))) pa_nil)))))
 (pss_cons (ps_expr (pe_bm PySem.F.plainAttrs_list PySem.F.slot_list_extend PySem.F.type_list_extend mt_extend (pv 1) (pa_cons (pe_lst (pa_cons (pe_callB (r := Fz.rIsX K a cls d) (Fz.call_isX hz hf) (by rfl) T.b_isinstance (by decide +kernel) (pa_cons (pv 0) (pa_cons (pe_glob (v := .ref q_NoRoom) (by rfl) T.k_NoRoom.g rfl) pa_nil))) (pa_cons (pe_callB (r := Fz.rIsX K a cls d) (Fz.call_isX hz hf) (by rfl) T.b_isinstance (by decide +kernel) (pa_cons (pv 0) (pa_cons (pe_glob (v := .ref q_NoName) (by rfl) T.k_NoName.g rfl) pa_nil))) (pa_cons (pe_callB (r := Fz.rIsX K a cls d) (Fz.call_isX hz hf) (by rfl) T.b_isinstance (by decide +kernel) (pa_cons (pv 0) (pa_cons (pe_glob (v := .ref q_NoPath) (by rfl) T.k_NoPath.g rfl) pa_nil))) pa_nil)))) pa_nil)))
 (pss_cons (ps_expr (pe_bm PySem.F.plainAttrs_list PySem.F.slot_list_extend PySem.F.type_list_extend mt_extend (pv 1) (pa_cons (pe_lst (pa_cons (pe_callB (r := Fz.rIsX K a cls d) (Fz.call_isX hz hf) (by rfl) T.b_isinstance (by decide +kernel) (pa_cons (pv 0) (pa_cons (pe_glob (v := .ref q_IsFile) (by rfl) T.k_IsFile.g rfl) pa_nil))) (pa_cons (pe_callB (r := Fz.rIsX K a cls d) (Fz.call_isX hz hf) (by rfl) T.b_isinstance (by decide +kernel) (pa_cons (pv 0) (pa_cons (pe_glob (v := .ref q_IsDrawer) (by rfl) T.k_IsDrawer.g rfl) pa_nil))) (pa_cons (pe_callB (r := Fz.rIsX K a cls d) (Fz.call_isX hz hf) (by rfl) T.b_isinstance (by decide +kernel) (pa_cons (pv 0) (pa_cons (pe_glob (v := .ref q_Taken) (by rfl) T.k_Taken.g rfl) pa_nil))) pa_nil)))) pa_nil)))
 (pss_cons (ps_expr (pe_bm PySem.F.plainAttrs_list PySem.F.slot_list_extend PySem.F.type_list_extend mt_extend (pv 1) (pa_cons (pe_lst (pa_cons (pe_callB (r := Fz.rIsX K a cls d) (Fz.call_isX hz hf) (by rfl) T.b_isinstance (by decide +kernel) (pa_cons (pv 0) (pa_cons (pe_glob (v := .ref q_NotBare) (by rfl) T.k_NotBare.g rfl) pa_nil))) (pa_cons (pe_callB (r := Fz.rIsX K a cls d) (Fz.call_isX hz hf) (by rfl) T.b_isinstance (by decide +kernel) (pa_cons (pv 0) (pa_cons (pe_glob (v := .ref q_Within) (by rfl) T.k_Within.g rfl) pa_nil))) (pa_cons (pe_callB (r := Fz.rIsX K a cls d) (Fz.call_isX hz hf) (by rfl) T.b_isinstance (by decide +kernel) (pa_cons (pv 0) (pa_cons (pe_glob (v := .ref q_NoCut) (by rfl) T.k_NoCut.g rfl) pa_nil))) pa_nil)))) pa_nil)))
 (pss_cons (ps_expr (pe_bm PySem.F.plainAttrs_list PySem.F.slot_list_extend PySem.F.type_list_extend mt_extend (pv 1) (pa_cons (pe_lst (pa_cons (pe_callB (r := Fz.rIsX K a cls d) (Fz.call_isX hz hf) (by rfl) T.b_isinstance (by decide +kernel) (pa_cons (pv 0) (pa_cons (pe_glob (v := .ref q_Unsound) (by rfl) T.k_Unsound.g rfl) pa_nil))) (pa_cons (pe_callB (r := Fz.rIsX K a cls d) (Fz.call_isX hz hf) (by rfl) T.b_isinstance (by decide +kernel) (pa_cons (pv 0) (pa_cons (pe_glob (v := .ref q_NoLine) (by rfl) T.k_NoLine.g rfl) pa_nil))) pa_nil))) pa_nil)))
 (pss_cons (ps_set (i := 2) sc__law_kind.nd rfl (by first | exact .inl rfl | exact .inr rfl) (pe_lst (pa_cons pe_str (pa_cons pe_str (pa_cons pe_str (pa_cons pe_str (pa_cons pe_str (pa_cons pe_str (pa_cons pe_str (pa_cons pe_str (pa_cons pe_str (pa_cons pe_str (pa_cons pe_str (pa_cons pe_str pa_nil))))))))))))))
 (pss_cons (ps_expr (pe_bm PySem.F.plainAttrs_list PySem.F.slot_list_extend PySem.F.type_list_extend mt_extend (pv 2) (pa_cons (pe_lst (pa_cons pe_str (pa_cons pe_str pa_nil))) pa_nil)))
 (pss_cons (ps_if (pt_cmpR op_ne (pe_bm PySem.F.plainAttrs_list PySem.F.slot_list_count PySem.F.type_list_count mt_lcountB (pv 1) (pa_cons pe_bl pa_nil)) pe_int (nomark _))
 (pss_one (ps_ret (pe_tup (pa_cons pe_str pa_nil)))) pss_nil)
 (pss_cons (ps_set (i := 3) sc__law_kind.nd rfl (by first | exact .inl rfl | exact .inr rfl) (pe_ix ix_list (pv 2) (pe_bm PySem.F.plainAttrs_list PySem.F.slot_list_index PySem.F.type_list_index mt_index (pv 1) (pa_cons pe_bl pa_nil)) (fun _ _ => rfl)))
 (pss_cons (ps_if (pw_and (pt_cmpR op_eq (pv 3) pe_str (nomark _)) (pw_and1 (pt_val (pe_callP p__law_whole.G hz hf (hr.mono (by omega)) (by rfl) p__law_whole.g p__law_whole.kp p__law_whole.b (pa_cons (pe_xf T.f_NoPath.1 T.f_NoPath.2 hz hf (pv 0)) pa_nil))))).pt
 (pss_one (ps_ret (pe_tup (pa_cons pe_str (pa_cons (pe_xf T.f_NoPath.1 T.f_NoPath.2 hz hf (pv 0)) pa_nil))))) pss_nil)
 (pss_one (ps_ret (pe_tup (pa_cons (pv 3) pa_nil))))))))))))))), fun B hx => by
  try dsimp only [cxOf, Cx.nox, Cx.wish, Cx.suite]
  exact (ss_seq (ss_if (st_not (st_B (se_isE hx (.ty _) T.t_ValueError)))
 (ss_ret (se_tup (sa_cons se_str sa_nil))) ss_next)
 (ss_seq (ss_asg (se_lst (sa_cons (se_isE hx (.own _) T.t_NoSize) (sa_cons (se_isE hx (.own _) T.t_NoBlock) (sa_cons (se_isE hx (.own _) T.t_NoChain) sa_nil)))))
 (ss_seq (ss_drop (se_methL mut_extendL (sa_cons (se_lst (sa_cons (se_isE hx (.own _) T.t_NoRoom) (sa_cons (se_isE hx (.own _) T.t_NoName) (sa_cons (se_isE hx (.own _) T.t_NoPath) sa_nil)))) sa_nil)))
 (ss_seq (ss_drop (se_methL mut_extendL (sa_cons (se_lst (sa_cons (se_isE hx (.own _) T.t_IsFile) (sa_cons (se_isE hx (.own _) T.t_IsDrawer) (sa_cons (se_isE hx (.own _) T.t_Taken) sa_nil)))) sa_nil)))
 (ss_seq (ss_drop (se_methL mut_extendL (sa_cons (se_lst (sa_cons (se_isE hx (.own _) T.t_NotBare) (sa_cons (se_isE hx (.own _) T.t_Within) (sa_cons (se_isE hx (.own _) T.t_NoCut) sa_nil)))) sa_nil)))
 (ss_seq (ss_drop (se_methL mut_extendL (sa_cons (se_lst (sa_cons (se_isE hx (.own _) T.t_Unsound) (sa_cons (se_isE hx (.own _) T.t_NoLine) sa_nil))) sa_nil)))
 (ss_seq (ss_asg (se_lst (sa_cons se_str (sa_cons se_str (sa_cons se_str (sa_cons se_str (sa_cons se_str (sa_cons se_str (sa_cons se_str (sa_cons se_str (sa_cons se_str (sa_cons se_str (sa_cons se_str (sa_cons se_str sa_nil))))))))))))))
 (ss_seq (ss_drop (se_methL mut_extendL (sa_cons (se_lst (sa_cons se_str (sa_cons se_str sa_nil))) sa_nil)))
 (ss_seq (ss_if (st_test (se_op op2_ne (se_meth mto_countB se_var (sa_cons se_bl sa_nil)) se_int))
 (ss_ret (se_tup (sa_cons se_str sa_nil))) ss_next)
 (ss_seq (ss_fgt (ss_asg (se_op op2_ixL se_var (se_meth mto_indexB se_var (sa_cons se_bl sa_nil)))))
 (ss_seq (ss_fgt (ss_if (st_and (st_test (se_op op2_eq se_var se_str)) (st_B (se_callH [false] (sa_cons (se_fldE hx T.k_NoPath.o) sa_nil))))
 (ss_ret (se_tup (sa_cons se_str (sa_cons (se_fldE hx T.k_NoPath.o) sa_nil)))) ss_next))
 (ss_ret (se_tup (sa_cons se_var sa_nil))))))))))))))⟩)
 exact h
theorem ok__law_refused {f : Addr} {fd : FuncData} (D : Def K mg "_law_refused" s__law_refused ["_law_names_here"] f fd) (T : Txt K mg q_DiskError q_IsDrawer q_IsFile q_NoBlock q_NoChain q_NoCut q_NoLine q_NoName q_NoPath q_NoRoom q_NoSize q_NotBare q_Taken q_Unsound q_Within) {f_short_forms : Addr} {fd_short_forms : FuncData} (c_short_forms : Cal P w K mg base (L2.CX P w) "short_forms" 2 ["names"] (spM K T0 m_short_forms) f_short_forms fd_short_forms) {f__law_kind : Addr} {fd__law_kind : FuncData} (c__law_kind : CalP P w K mg base "_law_kind" 2 ["_law_error"] (spE K T0 m__law_kind) f__law_kind fd__law_kind) : Cal P w K mg base CX0 "_law_refused" 3 ["_law_names_here"] (spM K T0 m__law_refused) f fd := by
 refine ⟨?_, D.g, D.F.kp, D.b⟩
 have h := okM (P := P) (w := w) (mg := mg) (base := base) (T := T0) (k := 2) (r := r__law_refused) D.F sc__law_refused (fun cdv Ar outer s H E hr => ⟨_, (pss_cons (ps_try_as (i := 1) (c := .ref q_DiskError) (Wout := fun _ _ _ _ => False) rfl rfl sc__law_refused.nd rfl rfl ⟨by rfl, by decide, .inl T.k_DiskError.g⟩ takes0 (fun W pn xe tk _ => (pss_one (ps_expr (pe_callS c_short_forms.G (hr.mono (by omega)) (by rfl) c_short_forms.g c_short_forms.kp c_short_forms.b (fun σ => passAt tk σ) (pa_cons (pv 0) pa_nil))))) (fun a oe cls d pn hz hf => (pss_one (ps_ret (pe_cmpR (r := rEqD K) (op_eqD hr.units) (pe_callP c__law_kind.G hz hf (L2H.roomH_of (hr.mono (by omega))) (by rfl) c__law_kind.g c__law_kind.kp c__law_kind.b (pa_cons (pv 1) pa_nil)) (pe_tup (pa_cons pe_str pa_nil)) (nomark _))))))
 (pss_one (ps_ret pe_bl))), fun B => by
  try dsimp only [cxOf, Cx.nox, Cx.wish]
  exact (ss_seq (ss_fgt (ss_tryAs (fun W => (ss_fgt (ss_drop (se_callS [false] (sa_cons se_var sa_nil))))) T.s_DiskError (fun B a cls d hx => (ss_ret (se_op op2_eqD (se_callE hx) (se_tup (sa_cons se_str sa_nil)))))))
 (ss_ret se_bl))⟩)
 exact h
theorem ok__law_without {f : Addr} {fd : FuncData} (D : Def K mg "_law_without" s__law_without ["_law_names_here", "_law_forms", "_law_name"] f fd) (T : Txt K mg q_DiskError q_IsDrawer q_IsFile q_NoBlock q_NoChain q_NoCut q_NoLine q_NoName q_NoPath q_NoRoom q_NoSize q_NotBare q_Taken q_Unsound q_Within) {f_short_forms : Addr} {fd_short_forms : FuncData} (c_short_forms : Cal P w K mg base (L2.CX P w) "short_forms" 2 ["names"] (spM K T0 m_short_forms) f_short_forms fd_short_forms) : Cal P w K mg base (L2.CX P w) "_law_without" 3 ["_law_names_here", "_law_forms", "_law_name"] (spM K T0 m__law_without) f fd := by
 refine ⟨?_, D.g, D.F.kp, D.b⟩
 have h := okMX (P := P) (w := w) (mg := mg) (base := base) (T := T0) (k := 2) (r := r__law_without) D.F sc__law_without (fun cdv Ar outer s H E hr => ⟨_, (pss_cons (ps_set (i := 3) sc__law_without.nd rfl (by first | exact .inl rfl | exact .inr rfl) (pe_callS c_short_forms.G (hr.mono (by omega)) (by rfl) c_short_forms.g c_short_forms.kp c_short_forms.b (fun σ => passAt (takes_of rfl rfl rfl rfl) σ) (pa_cons (pe_lc (own := [("_law_one", 4)]) rfl sc__law_without.nd (pi_list (pv 0)) (blkOk_by (N := ["_law_names_here", "_law_forms", "_law_name", "_law_fewer", "_law_one", "_law_same"]) (sc := defScope s__law_without) (by decide +kernel)) (fun _ _ _ _ _ => (pg_name (i := 4) sc__law_without.nd rfl (Or.inl rfl) (Or.inr rfl))) (fun _ _ _ _ _ => (pts_one (pt_cmpR op_ne (pv 4) (pv 2) (nomark _)))) (fun _ _ _ _ _ => (pv 4))) pa_nil)))
 (pss_cons (ps_for (passes_of rfl) rfl (pi_list (pv 0)) (pg_name (i := 4) sc__law_without.nd rfl (by first | exact .inl rfl | exact .inr rfl))
 (pss_cons (ps_set (i := 5) sc__law_without.nd rfl (by first | exact .inl rfl | exact .inr rfl) (pe_or (pe_cmpR op_lt (pe_callB call_len_str (by rfl) T.b_len PySem.boot_len (pa_cons (pv 4) pa_nil)) pe_int (nomark _)) (pe_or (pe_cmpR op_lt (pe_callB call_len_str (by rfl) T.b_len PySem.boot_len (pa_cons (pv 2) pa_nil)) pe_int (nomark _)) (pe_one (pe_cmpR op_ne (pe_slice sl_str (pv 4) po_none (po_some pe_int)) (pe_slice sl_str (pv 2) po_none (po_some pe_int)) (nomark _))))))
 (pss_one (ps_if (pw_and (pt_cmpR op_ne (pv 4) (pv 2) (nomark _)) (pw_and (pt_val (pv 5)) (pw_and1 (pt_cmpR op_ne (pe_dget (hu_of hr) (pv 3) (pv 4) (fun _ _ => rfl)) (pe_dget (hu_of hr) (pv 1) (pv 4) (fun _ _ => rfl)) (nomark _))))).pt
 (pss_one (ps_ret pe_bl)) pss_nil))))
 (pss_one (ps_ret (pe_cmp (pc_dnotin (hu_of hr) (pv 2) (pv 3))))))), fun B => by
  try dsimp only [cxOf, Cx.nox, Cx.wish]
  exact (ss_seq (ss_asg (se_callS [false] (sa_cons (se_lc (w1 := fun _ _ _ _ => False) (w2 := fun _ _ _ _ => False) (si_list se_var) (sgv_name (by decide)) (st_test (se_op op2_ne se_var se_var)) se_var) sa_nil)))
 (ss_seq (ss_fgt (ss_for (si_list se_var) sg_name
 (ss_seq (ss_asg (se_orV (se_op op2_lt (se_cb1 op1_lenS se_var) se_int) (se_orV (se_op op2_lt (se_cb1 op1_lenS se_var) se_int) (se_op op2_ne (se_sl slo_S se_var so_none (so_some se_int)) (se_sl slo_S se_var so_none (so_some se_int))))))
 (ss_fgt (ss_if (st_and (st_test (se_op op2_ne se_var se_var)) (st_and (st_B se_var) (st_test (se_op op2_ne (se_dget se_var se_var) (se_dget se_var se_var)))))
 (ss_ret se_bl) ss_next)))))
 (ss_ret (se_dnotinO se_var se_var))))⟩)
 exact h
theorem ok_law {f : Addr} {fd : FuncData} (D : Def K mg "law" s_law ["_law_script"] f fd) (T : Txt K mg q_DiskError q_IsDrawer q_IsFile q_NoBlock q_NoChain q_NoCut q_NoLine q_NoName q_NoPath q_NoRoom q_NoSize q_NotBare q_Taken q_Unsound q_Within) {f_short_forms : Addr} {fd_short_forms : FuncData} (c_short_forms : Cal P w K mg base (L2.CX P w) "short_forms" 2 ["names"] (spM K T0 m_short_forms) f_short_forms fd_short_forms) {f__law_digits : Addr} {fd__law_digits : FuncData} (c__law_digits : Cal P w K mg base CX0 "_law_digits" 1 ["_law_script", "_law_k"] (spM K T0 m__law_digits) f__law_digits fd__law_digits) {f__law_take : Addr} {fd__law_take : FuncData} (c__law_take : Cal P w K mg base CX0 "_law_take" 1 ["_law_held", "_law_many"] (spM K T0 m__law_take) f__law_take fd__law_take) {f__law_names : Addr} {fd__law_names : FuncData} (c__law_names : Cal P w K mg base CX0 "_law_names" 2 ["_law_held", "_law_many"] (spM K T0 m__law_names) f__law_names fd__law_names) {f__law_order : Addr} {fd__law_order : FuncData} (c__law_order : Cal P w K mg base CX0 "_law_order" 2 ["_law_held", "_law_some"] (spM K T0 m__law_order) f__law_order fd__law_order) {f__law_refused : Addr} {fd__law_refused : FuncData} (c__law_refused : Cal P w K mg base CX0 "_law_refused" 3 ["_law_names_here"] (spM K T0 m__law_refused) f__law_refused fd__law_refused) {f__law_without : Addr} {fd__law_without : FuncData} (c__law_without : Cal P w K mg base (L2.CX P w) "_law_without" 3 ["_law_names_here", "_law_forms", "_law_name"] (spM K T0 m__law_without) f__law_without fd__law_without) : Cal P w K mg base CX0 "law" 4 ["_law_script"] (spM K T0 m_law) f fd := by
 refine ⟨?_, D.g, D.F.kp, D.b⟩
 have h := okM (P := P) (w := w) (mg := mg) (base := base) (T := T0) (k := 3) (r := r_law) D.F sc_law (fun cdv Ar outer s H E hr => ⟨_, (pss_cons (ps_set (i := 1) sc_law.nd rfl (by first | exact .inl rfl | exact .inr rfl) (pe_lst (pa_cons pe_str (pa_cons pe_str (pa_cons pe_str (pa_cons pe_str (pa_cons (pe_op Fz.op_mulS pe_str pe_int) (pa_cons pe_str pa_nil))))))))
 (pss_cons (ps_for PassesOwn.never rfl (pi_range1 (by rfl) T.b_range (pa_cons (pe_callB (call_max2 rfl) (by rfl) T.b_max (by decide +kernel) (pa_cons pe_int (pa_cons (pe_callB (call_min2 rfl) (by rfl) T.b_min (by decide +kernel) (pa_cons (pe_callB call_len_seq (by rfl) T.b_len PySem.boot_len (pa_cons (pv 0) pa_nil)) (pa_cons pe_int pa_nil))) pa_nil))) pa_nil)) (pg_name (i := 2) sc_law.nd rfl (by first | exact .inl rfl | exact .inr rfl))
 (pss_cons (ps_set (i := 3) sc_law.nd rfl (by first | exact .inl rfl | exact .inr rfl) (pe_call c__law_digits.G (hr.mono (by omega)) (by rfl) c__law_digits.g c__law_digits.kp c__law_digits.b .nil pass0 (pa_cons (pv 0) (pa_cons (pv 2) pa_nil))))
 (pss_cons (ps_set (i := 4) sc_law.nd rfl (by first | exact .inl rfl | exact .inr rfl) (pe_call c__law_names.G (hr.mono (by omega)) (by rfl) c__law_names.g c__law_names.kp c__law_names.b .nil pass0 (pa_cons (pv 3) (pa_cons (pe_op op_add pe_int (pe_call c__law_take.G (hr.mono (by omega)) (by rfl) c__law_take.g c__law_take.kp c__law_take.b .nil pass0 (pa_cons (pv 3) (pa_cons pe_int pa_nil)))) pa_nil))))
 (pss_cons (ps_set (i := 5) sc_law.nd rfl (by first | exact .inl rfl | exact .inr rfl) (pe_call c_short_forms.G (hr.mono (by omega)) (by rfl) c_short_forms.g c_short_forms.kp c_short_forms.b .nil Fz.passX0 (pa_cons (pv 4) pa_nil)))
 (pss_cons (ps_setLc (i := 6) (own := [("_law_name", 9)]) rfl sc_law.nd rfl rfl (sw_true rfl rfl rfl (by decide +kernel)) (pi_list (pv 4)) (blkOk_by (N := ["_law_script", "_law_odd", "_law_k", "_law_held", "_law_names_here", "_law_forms", "_law_some", "_law_longer", "_law_at", "_law_name", "_law_form"]) (sc := defScope s_law) (by decide +kernel)) (fun _ _ _ _ _ => (pg_name (i := 9) sc_law.nd rfl (Or.inl rfl) (Or.inr rfl))) (fun _ _ _ _ _ => pts_nil) (fun _ _ _ _ _ => (pe_dget (hu_of hr) (pv 5) (pv 9) (fun _ _ => rfl))))
 (pss_cons (ps_if (pw_or (pt_cmpR op_lt (Vm.pe_lenSetK (by rfl) T.b_len (by rfl) T.b_set (pv 6)) (pe_callB call_len_seq (by rfl) T.b_len PySem.boot_len (pa_cons (pv 4) pa_nil)) (nomark _)) (pw_or1 (pt_cmpR (op_neD hr.units) (pe_lc (own := [("_law_form", 10)]) rfl sc_law.nd (pi_list (pv 6)) (blkOk_by (N := ["_law_script", "_law_odd", "_law_k", "_law_held", "_law_names_here", "_law_forms", "_law_some", "_law_longer", "_law_at", "_law_name", "_law_form"]) (sc := defScope s_law) (by decide +kernel)) (fun _ _ _ _ _ => (pg_name (i := 10) sc_law.nd rfl (Or.inl rfl) (Or.inr rfl))) (fun _ _ _ _ _ => (pts_one (pt_not (pt_chain op_lt op_lt pe_int (pe_callB call_len_str (by rfl) T.b_len PySem.boot_len (pa_cons (pv 10) pa_nil)) pe_int)))) (fun _ _ _ _ _ => (pv 10))) (pe_lst pa_nil) (nomark _)))).pt
 (pss_one (ps_ret pe_bl)) pss_nil)
 (pss_cons (ps_if (pw_or (pt_cmpR (Vm.op_neDR (Nat.lt_of_le_of_lt (Nat.le_add_right _ 64) hr.units)) (pe_call c_short_forms.G (hr.mono (by omega)) (by rfl) c_short_forms.g c_short_forms.kp c_short_forms.b .nil Fz.passX0 (pa_cons (pe_call c__law_order.G (hr.mono (by omega)) (by rfl) c__law_order.g c__law_order.kp c__law_order.b .nil pass0 (pa_cons (pv 3) (pa_cons (pv 4) pa_nil))) pa_nil)) (pv 5) (nomark _)) (pw_or1 (pt_cmpR (Vm.op_neDR (Nat.lt_of_le_of_lt (Nat.le_add_right _ 64) hr.units)) (pe_call c_short_forms.G (hr.mono (by omega)) (by rfl) c_short_forms.g c_short_forms.kp c_short_forms.b .nil Fz.passX0 (pa_cons (pe_revL (pv 4)) pa_nil)) (pv 5) (nomark _)))).pt
 (pss_one (ps_ret pe_bl)) pss_nil)
 (pss_cons (ps_set (i := 7) sc_law.nd rfl (by first | exact .inl rfl | exact .inr rfl) (pe_callB (cr_sortedSA (hu65 hr)) (by rfl) T.b_sorted (by decide +kernel) (pa_cons (pe_lc (own := [("_law_name", 9)]) rfl sc_law.nd (pi_list (pv 4)) (blkOk_by (N := ["_law_script", "_law_odd", "_law_k", "_law_held", "_law_names_here", "_law_forms", "_law_some", "_law_longer", "_law_at", "_law_name", "_law_form"]) (sc := defScope s_law) (by decide +kernel)) (fun _ _ _ _ _ => (pg_name (i := 9) sc_law.nd rfl (Or.inl rfl) (Or.inr rfl))) (fun _ _ _ _ _ => (pts_one (pt_cmpR op_gt (pe_callB call_len_str (by rfl) T.b_len PySem.boot_len (pa_cons (pv 9) pa_nil)) pe_int (nomark _)))) (fun _ _ _ _ _ => (pv 9))) pa_nil)))
 (pss_cons (ps_if (pt_cmpR (op_neD hr.units) (pe_lc (own := [("_law_name", 9)]) rfl sc_law.nd (pi_list (pv 7)) (blkOk_by (N := ["_law_script", "_law_odd", "_law_k", "_law_held", "_law_names_here", "_law_forms", "_law_some", "_law_longer", "_law_at", "_law_name", "_law_form"]) (sc := defScope s_law) (by decide +kernel)) (fun _ _ _ _ _ => (pg_name (i := 9) sc_law.nd rfl (Or.inl rfl) (Or.inr rfl))) (fun _ _ _ _ _ => (pts_one (pw_or (pt_cmpR op_ne (pe_slice sl_str (pe_dget (hu_of hr) (pv 5) (pv 9) (fun _ _ => rfl)) po_none (po_some pe_int)) (pe_slice sl_str (pv 9) po_none (po_some pe_int)) (nomark _)) (pw_or1 (pt_cmpR (r := rIn K false) op_in_seq (pe_dget (hu_of hr) (pv 5) (pv 9) (fun _ _ => rfl)) (pv 4) (by rfl)))).pt)) (fun _ _ _ _ _ => (pv 9))) (pe_lst pa_nil) (nomark _))
 (pss_one (ps_ret pe_bl)) pss_nil)
 (pss_cons (ps_if (pt_cmpR (op_neD hr.units) (pe_lc (own := [("_law_name", 9)]) rfl sc_law.nd (pi_list (pv 7)) (blkOk_by (N := ["_law_script", "_law_odd", "_law_k", "_law_held", "_law_names_here", "_law_forms", "_law_some", "_law_longer", "_law_at", "_law_name", "_law_form"]) (sc := defScope s_law) (by decide +kernel)) (fun _ _ _ _ _ => (pg_name (i := 9) sc_law.nd rfl (Or.inl rfl) (Or.inr rfl))) (fun _ _ _ _ _ => pts_nil) (fun _ _ _ _ _ => (pe_dget (hu_of hr) (pv 5) (pv 9) (fun _ _ => rfl)))) (pe_callB (cr_sortedSA (hu65 hr)) (by rfl) T.b_sorted (by decide +kernel) (pa_cons (pe_lc (own := [("_law_name", 9)]) rfl sc_law.nd (pi_list (pv 7)) (blkOk_by (N := ["_law_script", "_law_odd", "_law_k", "_law_held", "_law_names_here", "_law_forms", "_law_some", "_law_longer", "_law_at", "_law_name", "_law_form"]) (sc := defScope s_law) (by decide +kernel)) (fun _ _ _ _ _ => (pg_name (i := 9) sc_law.nd rfl (Or.inl rfl) (Or.inr rfl))) (fun _ _ _ _ _ => pts_nil) (fun _ _ _ _ _ => (pe_dget (hu_of hr) (pv 5) (pv 9) (fun _ _ => rfl)))) pa_nil)) (nomark _))
 (pss_one (ps_ret pe_bl)) pss_nil)
 (pss_cons (ps_if (pt_not (pt_val (pe_call c__law_without.G (hr.mono (by omega)) (by rfl) c__law_without.g c__law_without.kp c__law_without.b .nil Fz.passX0 (pa_cons (pv 4) (pa_cons (pv 5) (pa_cons (pe_ix ix_list (pv 4) (pe_call c__law_take.G (hr.mono (by omega)) (by rfl) c__law_take.g c__law_take.kp c__law_take.b .nil pass0 (pa_cons (pv 3) (pa_cons (pe_callB call_len_seq (by rfl) T.b_len PySem.boot_len (pa_cons (pv 4) pa_nil)) pa_nil))) (fun _ _ => rfl)) pa_nil))))))
 (pss_one (ps_ret pe_bl)) pss_nil)
 (pss_cons (ps_set (i := 8) sc_law.nd rfl (by first | exact .inl rfl | exact .inr rfl) (pe_call c__law_take.G (hr.mono (by omega)) (by rfl) c__law_take.g c__law_take.kp c__law_take.b .nil pass0 (pa_cons (pv 3) (pa_cons (pe_op op_add (pe_callB call_len_seq (by rfl) T.b_len PySem.boot_len (pa_cons (pv 4) pa_nil)) pe_int) pa_nil))))
 (pss_one (ps_if (pt_not (pt_val (pe_call c__law_refused.G (hr.mono (by omega)) (by rfl) c__law_refused.g c__law_refused.kp c__law_refused.b .nil pass0 (pa_cons (pe_op op_cat (pe_op op_cat (pe_slice sl_list (pv 4) po_none (po_some (pv 8))) (pe_lst (pa_cons (pe_ix ix_list (pv 1) (pe_call c__law_take.G (hr.mono (by omega)) (by rfl) c__law_take.g c__law_take.kp c__law_take.b .nil pass0 (pa_cons (pv 3) (pa_cons pe_int pa_nil))) (fun _ _ => rfl)) pa_nil))) (pe_slice sl_list (pv 4) (po_some (pv 8)) po_none)) pa_nil))))
 (pss_one (ps_ret pe_bl)) pss_nil))))))))))))))
 (pss_one (ps_ret pe_bl)))), fun B => by
  try dsimp only [cxOf, Cx.nox, Cx.wish]
  exact (ss_seq (ss_asg (se_lst (sa_cons se_str (sa_cons se_str (sa_cons se_str (sa_cons se_str (sa_cons (se_op op2_mulS se_str se_int) (sa_cons se_str sa_nil))))))))
 (ss_seq (ss_fgt (ss_for (si_rng1 (se_cb2 op2_max se_int (se_cb2 op2_min se_lenSc se_int))) sg_name
 (ss_seq (ss_fgt (ss_asg (se_call [false, false] (sa_cons se_var (sa_cons se_var sa_nil)))))
 (ss_seq (ss_asg (se_call [true, false] (sa_cons se_var (sa_cons (se_op op2_add se_int (se_call [true, false] (sa_cons se_var (sa_cons se_int sa_nil)))) sa_nil))))
 (ss_seq (ss_asg (se_call [false] (sa_cons se_var sa_nil)))
 (ss_seq (ss_asg (se_lc (w1 := fun _ _ _ _ => False) (w2 := fun _ _ _ _ => False) (si_list se_var) (sgv_name (by decide)) st_yes (se_dget se_var se_var)))
 (ss_seq (ss_fgt (ss_if (st_or (st_test (se_op op2_lt (se_lenSetK se_var) (se_cb1 op1_len se_var))) (st_test (se_op op2_neD (se_lc (w1 := fun _ _ _ _ => False) (w2 := fun _ _ _ _ => False) (si_list se_var) (sgv_name (by decide)) (st_not (st_test (se_chain op2_lt op2_lt se_int (se_cb1 op1_lenS se_var) se_int))) se_var) (se_lst sa_nil))))
 (ss_ret se_bl) ss_next))
 (ss_seq (ss_if (st_or (st_test (se_op op2_dne (se_call [false] (sa_cons (se_call [true, false] (sa_cons se_var (sa_cons se_var sa_nil))) sa_nil)) se_var)) (st_test (se_op op2_dne (se_call [false] (sa_cons (se_revL se_var) sa_nil)) se_var)))
 (ss_ret se_bl) ss_next)
 (ss_seq (ss_asg (se_cb1 op1_sortS (se_lc (w1 := fun _ _ _ _ => False) (w2 := fun _ _ _ _ => False) (si_list se_var) (sgv_name (by decide)) (st_test (se_op op2_gt (se_cb1 op1_lenS se_var) se_int)) se_var)))
 (ss_seq (ss_if (st_test (se_op op2_neD (se_lc (w1 := fun _ _ _ _ => False) (w2 := fun _ _ _ _ => False) (si_list se_var) (sgv_name (by decide)) (st_or (st_test (se_op op2_ne (se_sl slo_S (se_dget se_var se_var) so_none (so_some se_int)) (se_sl slo_S se_var so_none (so_some se_int)))) (st_test (se_op op2_in (se_dget se_var se_var) se_var))) se_var) (se_lst sa_nil)))
 (ss_ret se_bl) ss_next)
 (ss_seq (ss_fgt (ss_if (st_test (se_op op2_neD (se_lc (w1 := fun _ _ _ _ => False) (w2 := fun _ _ _ _ => False) (si_list se_var) (sgv_name (by decide)) st_yes (se_dget se_var se_var)) (se_cb1 op1_sortS (se_lc (w1 := fun _ _ _ _ => False) (w2 := fun _ _ _ _ => False) (si_list se_var) (sgv_name (by decide)) st_yes (se_dget se_var se_var)))))
 (ss_ret se_bl) ss_next))
 (ss_seq (ss_fgt (ss_if (st_not (st_B (se_call [false, false, false] (sa_cons se_var (sa_cons se_var (sa_cons (se_op op2_ixL se_var (se_call [true, false] (sa_cons se_var (sa_cons (se_cb1 op1_len se_var) sa_nil)))) sa_nil))))))
 (ss_ret se_bl) ss_next))
 (ss_seq (ss_asg (se_call [true, false] (sa_cons se_var (sa_cons (se_op op2_add (se_cb1 op1_len se_var) se_int) sa_nil))))
 (ss_fgt (ss_if (st_not (st_B (se_call [false] (sa_cons (se_op op2_catL (se_op op2_catL (se_sl slo_L se_var so_none (so_some se_var)) (se_lst (sa_cons (se_op op2_ixL se_var (se_call [true, false] (sa_cons se_var (sa_cons se_int sa_nil)))) sa_nil))) (se_sl slo_L se_var (so_some se_var) so_none)) sa_nil))))
 (ss_ret se_bl) ss_next)))))))))))))))
 (ss_ret se_bl)))⟩)
 exact h
end
theorem all_mk {l : PySem.W.OpenLaw} {w : World} {K : PySem.W.Frag} {h : Heap} {mg : Str → Option Value} {fa : Addr} (X : K.In h) (G : h.Ns mainGlobals mg) (hfa : mg "law" = some (.ref fa))
  {f0 : Addr} {od0 an0 : Option Addr} {sl0 : Array (Option Value)} {oc0 kV0 dc0 pm0 cd0 ct0 : Value}
  {f1 : Addr} {od1 an1 : Option Addr} {sl1 : Array (Option Value)} {oc1 kV1 dc1 pm1 cd1 ct1 : Value}
  {f2 : Addr} {od2 an2 : Option Addr} {sl2 : Array (Option Value)} {oc2 kV2 dc2 pm2 cd2 ct2 : Value}
  {f3 : Addr} {od3 an3 : Option Addr} {sl3 : Array (Option Value)} {oc3 kV3 dc3 pm3 cd3 ct3 : Value}
  {f4 : Addr} {od4 an4 : Option Addr} {sl4 : Array (Option Value)} {oc4 kV4 dc4 pm4 cd4 ct4 : Value}
  {f5 : Addr} {od5 an5 : Option Addr} {sl5 : Array (Option Value)} {oc5 kV5 dc5 pm5 cd5 ct5 : Value}
  {f6 : Addr} {od6 an6 : Option Addr} {sl6 : Array (Option Value)} {oc6 kV6 dc6 pm6 cd6 ct6 : Value}
  {f7 : Addr} {od7 an7 : Option Addr} {sl7 : Array (Option Value)} {oc7 kV7 dc7 pm7 cd7 ct7 : Value}
  {f8 : Addr} {od8 an8 : Option Addr} {sl8 : Array (Option Value)} {oc8 kV8 dc8 pm8 cd8 ct8 : Value}
  {f9 : Addr} {od9 an9 : Option Addr} {sl9 : Array (Option Value)} {oc9 kV9 dc9 pm9 cd9 ct9 : Value}
  {f10 : Addr} {od10 an10 : Option Addr} {sl10 : Array (Option Value)} {oc10 kV10 dc10 pm10 cd10 ct10 : Value}
  {f11 : Addr} {od11 an11 : Option Addr} {sl11 : Array (Option Value)} {oc11 kV11 dc11 pm11 cd11 ct11 : Value}
  {t_SIGNS : Tok}
  {t_MOST_SIGNS : Tok}
  {t_PIECE : Tok}
  {t_STEM : Tok}
  {t_FIGURES : Tok}
  {r_DiskError : Addr}
  {r_IsDrawer : Addr}
  {r_IsFile : Addr}
  {r_NoBlock : Addr}
  {r_NoChain : Addr}
  {r_NoCut : Addr}
  {r_NoLine : Addr}
  {r_NoName : Addr}
  {r_NoPath : Addr}
  {r_NoRoom : Addr}
  {r_NoSize : Addr}
  {r_NotBare : Addr}
  {r_Taken : Addr}
  {r_Unsound : Addr}
  {r_Within : Addr}
  (a0 : PySem.W.nsIn K mainGlobals "is_name" = some (some (.ref f0)))
  (l0 : K.lookup f0 = some ⟨oc0, od0, .func (PySem.W.fnOf "is_name" "is_name" (defArgs s_is_name) (defBody s_is_name) (defScope s_is_name) .none kV0 dc0 pm0 an0 cd0 ct0), sl0⟩)
  (e0 : PySem.W.codeIn K cd0 "is_name" = true)
  (k0 : PySem.W.keepIn K (.ref f0) = true)
  (a1 : PySem.W.nsIn K mainGlobals "short_forms" = some (some (.ref f1)))
  (l1 : K.lookup f1 = some ⟨oc1, od1, .func (PySem.W.fnOf "short_forms" "short_forms" (defArgs s_short_forms) (defBody s_short_forms) (defScope s_short_forms) .none kV1 dc1 pm1 an1 cd1 ct1), sl1⟩)
  (e1 : PySem.W.codeIn K cd1 "short_forms" = true)
  (k1 : PySem.W.keepIn K (.ref f1) = true)
  (a2 : PySem.W.nsIn K mainGlobals "_law_digits" = some (some (.ref f2)))
  (l2 : K.lookup f2 = some ⟨oc2, od2, .func (PySem.W.fnOf "_law_digits" "_law_digits" (defArgs s__law_digits) (defBody s__law_digits) (defScope s__law_digits) .none kV2 dc2 pm2 an2 cd2 ct2), sl2⟩)
  (e2 : PySem.W.codeIn K cd2 "_law_digits" = true)
  (k2 : PySem.W.keepIn K (.ref f2) = true)
  (a3 : PySem.W.nsIn K mainGlobals "_law_take" = some (some (.ref f3)))
  (l3 : K.lookup f3 = some ⟨oc3, od3, .func (PySem.W.fnOf "_law_take" "_law_take" (defArgs s__law_take) (defBody s__law_take) (defScope s__law_take) .none kV3 dc3 pm3 an3 cd3 ct3), sl3⟩)
  (e3 : PySem.W.codeIn K cd3 "_law_take" = true)
  (k3 : PySem.W.keepIn K (.ref f3) = true)
  (a4 : PySem.W.nsIn K mainGlobals "_law_whole" = some (some (.ref f4)))
  (l4 : K.lookup f4 = some ⟨oc4, od4, .func (PySem.W.fnOf "_law_whole" "_law_whole" (defArgs s__law_whole) (defBody s__law_whole) (defScope s__law_whole) .none kV4 dc4 pm4 an4 cd4 ct4), sl4⟩)
  (e4 : PySem.W.codeIn K cd4 "_law_whole" = true)
  (k4 : PySem.W.keepIn K (.ref f4) = true)
  (a5 : PySem.W.nsIn K mainGlobals "_law_signs" = some (some (.ref f5)))
  (l5 : K.lookup f5 = some ⟨oc5, od5, .func (PySem.W.fnOf "_law_signs" "_law_signs" (defArgs s__law_signs) (defBody s__law_signs) (defScope s__law_signs) .none kV5 dc5 pm5 an5 cd5 ct5), sl5⟩)
  (e5 : PySem.W.codeIn K cd5 "_law_signs" = true)
  (k5 : PySem.W.keepIn K (.ref f5) = true)
  (a6 : PySem.W.nsIn K mainGlobals "_law_names" = some (some (.ref f6)))
  (l6 : K.lookup f6 = some ⟨oc6, od6, .func (PySem.W.fnOf "_law_names" "_law_names" (defArgs s__law_names) (defBody s__law_names) (defScope s__law_names) .none kV6 dc6 pm6 an6 cd6 ct6), sl6⟩)
  (e6 : PySem.W.codeIn K cd6 "_law_names" = true)
  (k6 : PySem.W.keepIn K (.ref f6) = true)
  (a7 : PySem.W.nsIn K mainGlobals "_law_order" = some (some (.ref f7)))
  (l7 : K.lookup f7 = some ⟨oc7, od7, .func (PySem.W.fnOf "_law_order" "_law_order" (defArgs s__law_order) (defBody s__law_order) (defScope s__law_order) .none kV7 dc7 pm7 an7 cd7 ct7), sl7⟩)
  (e7 : PySem.W.codeIn K cd7 "_law_order" = true)
  (k7 : PySem.W.keepIn K (.ref f7) = true)
  (a8 : PySem.W.nsIn K mainGlobals "_law_kind" = some (some (.ref f8)))
  (l8 : K.lookup f8 = some ⟨oc8, od8, .func (PySem.W.fnOf "_law_kind" "_law_kind" (defArgs s__law_kind) (defBody s__law_kind) (defScope s__law_kind) .none kV8 dc8 pm8 an8 cd8 ct8), sl8⟩)
  (e8 : PySem.W.codeIn K cd8 "_law_kind" = true)
  (k8 : PySem.W.keepIn K (.ref f8) = true)
  (a9 : PySem.W.nsIn K mainGlobals "_law_refused" = some (some (.ref f9)))
  (l9 : K.lookup f9 = some ⟨oc9, od9, .func (PySem.W.fnOf "_law_refused" "_law_refused" (defArgs s__law_refused) (defBody s__law_refused) (defScope s__law_refused) .none kV9 dc9 pm9 an9 cd9 ct9), sl9⟩)
  (e9 : PySem.W.codeIn K cd9 "_law_refused" = true)
  (k9 : PySem.W.keepIn K (.ref f9) = true)
  (a10 : PySem.W.nsIn K mainGlobals "_law_without" = some (some (.ref f10)))
  (l10 : K.lookup f10 = some ⟨oc10, od10, .func (PySem.W.fnOf "_law_without" "_law_without" (defArgs s__law_without) (defBody s__law_without) (defScope s__law_without) .none kV10 dc10 pm10 an10 cd10 ct10), sl10⟩)
  (e10 : PySem.W.codeIn K cd10 "_law_without" = true)
  (k10 : PySem.W.keepIn K (.ref f10) = true)
  (a11 : PySem.W.nsIn K mainGlobals "law" = some (some (.ref f11)))
  (l11 : K.lookup f11 = some ⟨oc11, od11, .func (PySem.W.fnOf "law" "law" (defArgs s_law) (defBody s_law) (defScope s_law) .none kV11 dc11 pm11 an11 cd11 ct11), sl11⟩)
  (e11 : PySem.W.codeIn K cd11 "law" = true)
  (k11 : PySem.W.keepIn K (.ref f11) = true)
  (z_ValueError : PySem.W.nsIn K mainGlobals "ValueError" = some none)
  (z_bool : PySem.W.nsIn K mainGlobals "bool" = some none)
  (z_int : PySem.W.nsIn K mainGlobals "int" = some none)
  (z_isinstance : PySem.W.nsIn K mainGlobals "isinstance" = some none)
  (z_len : PySem.W.nsIn K mainGlobals "len" = some none)
  (z_list : PySem.W.nsIn K mainGlobals "list" = some none)
  (z_max : PySem.W.nsIn K mainGlobals "max" = some none)
  (z_min : PySem.W.nsIn K mainGlobals "min" = some none)
  (z_range : PySem.W.nsIn K mainGlobals "range" = some none)
  (z_set : PySem.W.nsIn K mainGlobals "set" = some none)
  (z_sorted : PySem.W.nsIn K mainGlobals "sorted" = some none)
  (z_str : PySem.W.nsIn K mainGlobals "str" = some none)
  (g_SIGNS : PySem.W.nsIn K mainGlobals "SIGNS" = some (some (.str "abcdefghijklmnopqrstuvwxyz0123456789" t_SIGNS)))
  (g_MOST_SIGNS : PySem.W.nsIn K mainGlobals "MOST_SIGNS" = some (some (.int 18 t_MOST_SIGNS)))
  (g_PIECE : PySem.W.nsIn K mainGlobals "PIECE" = some (some (.int 6 t_PIECE)))
  (g_STEM : PySem.W.nsIn K mainGlobals "STEM" = some (some (.int 3 t_STEM)))
  (g_FIGURES : PySem.W.nsIn K mainGlobals "FIGURES" = some (some (.int 2 t_FIGURES)))
  (g_DiskError : PySem.W.nsIn K mainGlobals "DiskError" = some (some (.ref r_DiskError)))
  (ka_DiskError : PySem.W.keepIn K (.ref r_DiskError) = true)
  (kb_DiskError : PySem.W.typeIn K (.ref r_DiskError) = some (.type "type"))
  (kc_DiskError : PySem.W.isClsIn K r_DiskError = true)
  (kd_DiskError : PySem.W.findIn K (.ref r_DiskError) "__getattribute__" = some (some (.builtin "BaseException.__getattribute__")))
  (ke_DiskError : PySem.W.findIn K (.ref r_DiskError) "__getattr__" = some none)
  (kf_DiskError : PySem.W.subIn K (.ref r_DiskError) (.type "BaseException") = some true)
  (kg_DiskError : PySem.W.findIn K (.ref r_DiskError) "__class__" = some (some (.builtin "object.__class__")))
  (kh_DiskError : PySem.W.mroIn K r_DiskError (.type "object") = some true)
  (g_IsDrawer : PySem.W.nsIn K mainGlobals "IsDrawer" = some (some (.ref r_IsDrawer)))
  (ka_IsDrawer : PySem.W.keepIn K (.ref r_IsDrawer) = true)
  (kb_IsDrawer : PySem.W.typeIn K (.ref r_IsDrawer) = some (.type "type"))
  (kc_IsDrawer : PySem.W.isClsIn K r_IsDrawer = true)
  (kd_IsDrawer : PySem.W.findIn K (.ref r_IsDrawer) "__getattribute__" = some (some (.builtin "BaseException.__getattribute__")))
  (ke_IsDrawer : PySem.W.findIn K (.ref r_IsDrawer) "__getattr__" = some none)
  (kf_IsDrawer : PySem.W.subIn K (.ref r_IsDrawer) (.type "BaseException") = some true)
  (kg_IsDrawer : PySem.W.findIn K (.ref r_IsDrawer) "__class__" = some (some (.builtin "object.__class__")))
  (kh_IsDrawer : PySem.W.mroIn K r_IsDrawer (.type "object") = some true)
  (g_IsFile : PySem.W.nsIn K mainGlobals "IsFile" = some (some (.ref r_IsFile)))
  (ka_IsFile : PySem.W.keepIn K (.ref r_IsFile) = true)
  (kb_IsFile : PySem.W.typeIn K (.ref r_IsFile) = some (.type "type"))
  (kc_IsFile : PySem.W.isClsIn K r_IsFile = true)
  (kd_IsFile : PySem.W.findIn K (.ref r_IsFile) "__getattribute__" = some (some (.builtin "BaseException.__getattribute__")))
  (ke_IsFile : PySem.W.findIn K (.ref r_IsFile) "__getattr__" = some none)
  (kf_IsFile : PySem.W.subIn K (.ref r_IsFile) (.type "BaseException") = some true)
  (kg_IsFile : PySem.W.findIn K (.ref r_IsFile) "__class__" = some (some (.builtin "object.__class__")))
  (kh_IsFile : PySem.W.mroIn K r_IsFile (.type "object") = some true)
  (g_NoBlock : PySem.W.nsIn K mainGlobals "NoBlock" = some (some (.ref r_NoBlock)))
  (ka_NoBlock : PySem.W.keepIn K (.ref r_NoBlock) = true)
  (kb_NoBlock : PySem.W.typeIn K (.ref r_NoBlock) = some (.type "type"))
  (kc_NoBlock : PySem.W.isClsIn K r_NoBlock = true)
  (kd_NoBlock : PySem.W.findIn K (.ref r_NoBlock) "__getattribute__" = some (some (.builtin "BaseException.__getattribute__")))
  (ke_NoBlock : PySem.W.findIn K (.ref r_NoBlock) "__getattr__" = some none)
  (kf_NoBlock : PySem.W.subIn K (.ref r_NoBlock) (.type "BaseException") = some true)
  (kg_NoBlock : PySem.W.findIn K (.ref r_NoBlock) "__class__" = some (some (.builtin "object.__class__")))
  (kh_NoBlock : PySem.W.mroIn K r_NoBlock (.type "object") = some true)
  (g_NoChain : PySem.W.nsIn K mainGlobals "NoChain" = some (some (.ref r_NoChain)))
  (ka_NoChain : PySem.W.keepIn K (.ref r_NoChain) = true)
  (kb_NoChain : PySem.W.typeIn K (.ref r_NoChain) = some (.type "type"))
  (kc_NoChain : PySem.W.isClsIn K r_NoChain = true)
  (kd_NoChain : PySem.W.findIn K (.ref r_NoChain) "__getattribute__" = some (some (.builtin "BaseException.__getattribute__")))
  (ke_NoChain : PySem.W.findIn K (.ref r_NoChain) "__getattr__" = some none)
  (kf_NoChain : PySem.W.subIn K (.ref r_NoChain) (.type "BaseException") = some true)
  (kg_NoChain : PySem.W.findIn K (.ref r_NoChain) "__class__" = some (some (.builtin "object.__class__")))
  (kh_NoChain : PySem.W.mroIn K r_NoChain (.type "object") = some true)
  (g_NoCut : PySem.W.nsIn K mainGlobals "NoCut" = some (some (.ref r_NoCut)))
  (ka_NoCut : PySem.W.keepIn K (.ref r_NoCut) = true)
  (kb_NoCut : PySem.W.typeIn K (.ref r_NoCut) = some (.type "type"))
  (kc_NoCut : PySem.W.isClsIn K r_NoCut = true)
  (kd_NoCut : PySem.W.findIn K (.ref r_NoCut) "__getattribute__" = some (some (.builtin "BaseException.__getattribute__")))
  (ke_NoCut : PySem.W.findIn K (.ref r_NoCut) "__getattr__" = some none)
  (kf_NoCut : PySem.W.subIn K (.ref r_NoCut) (.type "BaseException") = some true)
  (kg_NoCut : PySem.W.findIn K (.ref r_NoCut) "__class__" = some (some (.builtin "object.__class__")))
  (kh_NoCut : PySem.W.mroIn K r_NoCut (.type "object") = some true)
  (g_NoLine : PySem.W.nsIn K mainGlobals "NoLine" = some (some (.ref r_NoLine)))
  (ka_NoLine : PySem.W.keepIn K (.ref r_NoLine) = true)
  (kb_NoLine : PySem.W.typeIn K (.ref r_NoLine) = some (.type "type"))
  (kc_NoLine : PySem.W.isClsIn K r_NoLine = true)
  (kd_NoLine : PySem.W.findIn K (.ref r_NoLine) "__getattribute__" = some (some (.builtin "BaseException.__getattribute__")))
  (ke_NoLine : PySem.W.findIn K (.ref r_NoLine) "__getattr__" = some none)
  (kf_NoLine : PySem.W.subIn K (.ref r_NoLine) (.type "BaseException") = some true)
  (kg_NoLine : PySem.W.findIn K (.ref r_NoLine) "__class__" = some (some (.builtin "object.__class__")))
  (kh_NoLine : PySem.W.mroIn K r_NoLine (.type "object") = some true)
  (g_NoName : PySem.W.nsIn K mainGlobals "NoName" = some (some (.ref r_NoName)))
  (ka_NoName : PySem.W.keepIn K (.ref r_NoName) = true)
  (kb_NoName : PySem.W.typeIn K (.ref r_NoName) = some (.type "type"))
  (kc_NoName : PySem.W.isClsIn K r_NoName = true)
  (kd_NoName : PySem.W.findIn K (.ref r_NoName) "__getattribute__" = some (some (.builtin "BaseException.__getattribute__")))
  (ke_NoName : PySem.W.findIn K (.ref r_NoName) "__getattr__" = some none)
  (kf_NoName : PySem.W.subIn K (.ref r_NoName) (.type "BaseException") = some true)
  (kg_NoName : PySem.W.findIn K (.ref r_NoName) "__class__" = some (some (.builtin "object.__class__")))
  (kh_NoName : PySem.W.mroIn K r_NoName (.type "object") = some true)
  (g_NoPath : PySem.W.nsIn K mainGlobals "NoPath" = some (some (.ref r_NoPath)))
  (ka_NoPath : PySem.W.keepIn K (.ref r_NoPath) = true)
  (kb_NoPath : PySem.W.typeIn K (.ref r_NoPath) = some (.type "type"))
  (kc_NoPath : PySem.W.isClsIn K r_NoPath = true)
  (kd_NoPath : PySem.W.findIn K (.ref r_NoPath) "__getattribute__" = some (some (.builtin "BaseException.__getattribute__")))
  (ke_NoPath : PySem.W.findIn K (.ref r_NoPath) "__getattr__" = some none)
  (kf_NoPath : PySem.W.subIn K (.ref r_NoPath) (.type "BaseException") = some true)
  (kg_NoPath : PySem.W.findIn K (.ref r_NoPath) "__class__" = some (some (.builtin "object.__class__")))
  (kh_NoPath : PySem.W.mroIn K r_NoPath (.type "object") = some true)
  (g_NoRoom : PySem.W.nsIn K mainGlobals "NoRoom" = some (some (.ref r_NoRoom)))
  (ka_NoRoom : PySem.W.keepIn K (.ref r_NoRoom) = true)
  (kb_NoRoom : PySem.W.typeIn K (.ref r_NoRoom) = some (.type "type"))
  (kc_NoRoom : PySem.W.isClsIn K r_NoRoom = true)
  (kd_NoRoom : PySem.W.findIn K (.ref r_NoRoom) "__getattribute__" = some (some (.builtin "BaseException.__getattribute__")))
  (ke_NoRoom : PySem.W.findIn K (.ref r_NoRoom) "__getattr__" = some none)
  (kf_NoRoom : PySem.W.subIn K (.ref r_NoRoom) (.type "BaseException") = some true)
  (kg_NoRoom : PySem.W.findIn K (.ref r_NoRoom) "__class__" = some (some (.builtin "object.__class__")))
  (kh_NoRoom : PySem.W.mroIn K r_NoRoom (.type "object") = some true)
  (g_NoSize : PySem.W.nsIn K mainGlobals "NoSize" = some (some (.ref r_NoSize)))
  (ka_NoSize : PySem.W.keepIn K (.ref r_NoSize) = true)
  (kb_NoSize : PySem.W.typeIn K (.ref r_NoSize) = some (.type "type"))
  (kc_NoSize : PySem.W.isClsIn K r_NoSize = true)
  (kd_NoSize : PySem.W.findIn K (.ref r_NoSize) "__getattribute__" = some (some (.builtin "BaseException.__getattribute__")))
  (ke_NoSize : PySem.W.findIn K (.ref r_NoSize) "__getattr__" = some none)
  (kf_NoSize : PySem.W.subIn K (.ref r_NoSize) (.type "BaseException") = some true)
  (kg_NoSize : PySem.W.findIn K (.ref r_NoSize) "__class__" = some (some (.builtin "object.__class__")))
  (kh_NoSize : PySem.W.mroIn K r_NoSize (.type "object") = some true)
  (g_NotBare : PySem.W.nsIn K mainGlobals "NotBare" = some (some (.ref r_NotBare)))
  (ka_NotBare : PySem.W.keepIn K (.ref r_NotBare) = true)
  (kb_NotBare : PySem.W.typeIn K (.ref r_NotBare) = some (.type "type"))
  (kc_NotBare : PySem.W.isClsIn K r_NotBare = true)
  (kd_NotBare : PySem.W.findIn K (.ref r_NotBare) "__getattribute__" = some (some (.builtin "BaseException.__getattribute__")))
  (ke_NotBare : PySem.W.findIn K (.ref r_NotBare) "__getattr__" = some none)
  (kf_NotBare : PySem.W.subIn K (.ref r_NotBare) (.type "BaseException") = some true)
  (kg_NotBare : PySem.W.findIn K (.ref r_NotBare) "__class__" = some (some (.builtin "object.__class__")))
  (kh_NotBare : PySem.W.mroIn K r_NotBare (.type "object") = some true)
  (g_Taken : PySem.W.nsIn K mainGlobals "Taken" = some (some (.ref r_Taken)))
  (ka_Taken : PySem.W.keepIn K (.ref r_Taken) = true)
  (kb_Taken : PySem.W.typeIn K (.ref r_Taken) = some (.type "type"))
  (kc_Taken : PySem.W.isClsIn K r_Taken = true)
  (kd_Taken : PySem.W.findIn K (.ref r_Taken) "__getattribute__" = some (some (.builtin "BaseException.__getattribute__")))
  (ke_Taken : PySem.W.findIn K (.ref r_Taken) "__getattr__" = some none)
  (kf_Taken : PySem.W.subIn K (.ref r_Taken) (.type "BaseException") = some true)
  (kg_Taken : PySem.W.findIn K (.ref r_Taken) "__class__" = some (some (.builtin "object.__class__")))
  (kh_Taken : PySem.W.mroIn K r_Taken (.type "object") = some true)
  (g_Unsound : PySem.W.nsIn K mainGlobals "Unsound" = some (some (.ref r_Unsound)))
  (ka_Unsound : PySem.W.keepIn K (.ref r_Unsound) = true)
  (kb_Unsound : PySem.W.typeIn K (.ref r_Unsound) = some (.type "type"))
  (kc_Unsound : PySem.W.isClsIn K r_Unsound = true)
  (kd_Unsound : PySem.W.findIn K (.ref r_Unsound) "__getattribute__" = some (some (.builtin "BaseException.__getattribute__")))
  (ke_Unsound : PySem.W.findIn K (.ref r_Unsound) "__getattr__" = some none)
  (kf_Unsound : PySem.W.subIn K (.ref r_Unsound) (.type "BaseException") = some true)
  (kg_Unsound : PySem.W.findIn K (.ref r_Unsound) "__class__" = some (some (.builtin "object.__class__")))
  (kh_Unsound : PySem.W.mroIn K r_Unsound (.type "object") = some true)
  (g_Within : PySem.W.nsIn K mainGlobals "Within" = some (some (.ref r_Within)))
  (ka_Within : PySem.W.keepIn K (.ref r_Within) = true)
  (kb_Within : PySem.W.typeIn K (.ref r_Within) = some (.type "type"))
  (kc_Within : PySem.W.isClsIn K r_Within = true)
  (kd_Within : PySem.W.findIn K (.ref r_Within) "__getattribute__" = some (some (.builtin "BaseException.__getattribute__")))
  (ke_Within : PySem.W.findIn K (.ref r_Within) "__getattr__" = some none)
  (kf_Within : PySem.W.subIn K (.ref r_Within) (.type "BaseException") = some true)
  (kg_Within : PySem.W.findIn K (.ref r_Within) "__class__" = some (some (.builtin "object.__class__")))
  (kh_Within : PySem.W.mroIn K r_Within (.type "object") = some true)
  (kX1 : PySem.W.specialIn K (.builtin "object.__class__") "__get__" = some (some (.builtin "getset_descriptor.__get__")))
  (kX2 : PySem.W.takesIn K (.builtin "object.__class__") = some true)
  (x_NoName : PySem.W.excIn K r_NoName [.type "ValueError", .type "Exception", .type "BaseException", .type "object"] "ValueError.__new__" = true)
  (t_IsDrawer_NoName : PySem.W.kitOne K (.ref r_NoName) (.ref r_IsDrawer) = some false)
  (t_IsFile_NoName : PySem.W.kitOne K (.ref r_NoName) (.ref r_IsFile) = some false)
  (t_NoBlock_NoName : PySem.W.kitOne K (.ref r_NoName) (.ref r_NoBlock) = some false)
  (t_NoChain_NoName : PySem.W.kitOne K (.ref r_NoName) (.ref r_NoChain) = some false)
  (t_NoCut_NoName : PySem.W.kitOne K (.ref r_NoName) (.ref r_NoCut) = some false)
  (t_NoLine_NoName : PySem.W.kitOne K (.ref r_NoName) (.ref r_NoLine) = some false)
  (t_NoName_NoName : PySem.W.kitOne K (.ref r_NoName) (.ref r_NoName) = some true)
  (t_NoPath_NoName : PySem.W.kitOne K (.ref r_NoName) (.ref r_NoPath) = some false)
  (t_NoRoom_NoName : PySem.W.kitOne K (.ref r_NoName) (.ref r_NoRoom) = some false)
  (t_NoSize_NoName : PySem.W.kitOne K (.ref r_NoName) (.ref r_NoSize) = some false)
  (t_NotBare_NoName : PySem.W.kitOne K (.ref r_NoName) (.ref r_NotBare) = some false)
  (t_Taken_NoName : PySem.W.kitOne K (.ref r_NoName) (.ref r_Taken) = some false)
  (t_Unsound_NoName : PySem.W.kitOne K (.ref r_NoName) (.ref r_Unsound) = some false)
  (t_ValueError_NoName : PySem.W.kitOne K (.ref r_NoName) (.type "ValueError") = some true)
  (t_Within_NoName : PySem.W.kitOne K (.ref r_NoName) (.ref r_Within) = some false)
  (u_DiskError_NoName : PySem.W.subIn K (.ref r_NoName) (.ref r_DiskError) = some true)
  (fa_NoPath : PySem.W.hasDictIn K r_NoPath = true)
  (fb_NoPath : PySem.W.findIn K (.ref r_NoPath) "place" = some none) :
  ∃ fd : FuncData, (∀ (s : Shared) (v : Value), BindsTo s fd ⟨[v], []⟩ [("_law_script", v)]) ∧ ∀ base : Heap, K.In base → base.Ns mainGlobals mg → FnOk l.prog w K mg base CX0 4 fa fd ["_law_script"] (spM K [] m_law) := by
 have e := hfa.symm.trans (PySem.W.mg_of X G a11)
 cases e
 have k_DiskError : ClsX K mg "DiskError" r_DiskError := ⟨PySem.W.mg_of X G g_DiskError, clsOf_eq g_DiskError, ka_DiskError, kb_DiskError, kc_DiskError, ⟨kc_DiskError, kd_DiskError, ke_DiskError, kf_DiskError, kg_DiskError, kX1, kX2, kh_DiskError⟩⟩
 have k_IsDrawer : ClsX K mg "IsDrawer" r_IsDrawer := ⟨PySem.W.mg_of X G g_IsDrawer, clsOf_eq g_IsDrawer, ka_IsDrawer, kb_IsDrawer, kc_IsDrawer, ⟨kc_IsDrawer, kd_IsDrawer, ke_IsDrawer, kf_IsDrawer, kg_IsDrawer, kX1, kX2, kh_IsDrawer⟩⟩
 have k_IsFile : ClsX K mg "IsFile" r_IsFile := ⟨PySem.W.mg_of X G g_IsFile, clsOf_eq g_IsFile, ka_IsFile, kb_IsFile, kc_IsFile, ⟨kc_IsFile, kd_IsFile, ke_IsFile, kf_IsFile, kg_IsFile, kX1, kX2, kh_IsFile⟩⟩
 have k_NoBlock : ClsX K mg "NoBlock" r_NoBlock := ⟨PySem.W.mg_of X G g_NoBlock, clsOf_eq g_NoBlock, ka_NoBlock, kb_NoBlock, kc_NoBlock, ⟨kc_NoBlock, kd_NoBlock, ke_NoBlock, kf_NoBlock, kg_NoBlock, kX1, kX2, kh_NoBlock⟩⟩
 have k_NoChain : ClsX K mg "NoChain" r_NoChain := ⟨PySem.W.mg_of X G g_NoChain, clsOf_eq g_NoChain, ka_NoChain, kb_NoChain, kc_NoChain, ⟨kc_NoChain, kd_NoChain, ke_NoChain, kf_NoChain, kg_NoChain, kX1, kX2, kh_NoChain⟩⟩
 have k_NoCut : ClsX K mg "NoCut" r_NoCut := ⟨PySem.W.mg_of X G g_NoCut, clsOf_eq g_NoCut, ka_NoCut, kb_NoCut, kc_NoCut, ⟨kc_NoCut, kd_NoCut, ke_NoCut, kf_NoCut, kg_NoCut, kX1, kX2, kh_NoCut⟩⟩
 have k_NoLine : ClsX K mg "NoLine" r_NoLine := ⟨PySem.W.mg_of X G g_NoLine, clsOf_eq g_NoLine, ka_NoLine, kb_NoLine, kc_NoLine, ⟨kc_NoLine, kd_NoLine, ke_NoLine, kf_NoLine, kg_NoLine, kX1, kX2, kh_NoLine⟩⟩
 have k_NoName : ClsX K mg "NoName" r_NoName := ⟨PySem.W.mg_of X G g_NoName, clsOf_eq g_NoName, ka_NoName, kb_NoName, kc_NoName, ⟨kc_NoName, kd_NoName, ke_NoName, kf_NoName, kg_NoName, kX1, kX2, kh_NoName⟩⟩
 have k_NoPath : ClsX K mg "NoPath" r_NoPath := ⟨PySem.W.mg_of X G g_NoPath, clsOf_eq g_NoPath, ka_NoPath, kb_NoPath, kc_NoPath, ⟨kc_NoPath, kd_NoPath, ke_NoPath, kf_NoPath, kg_NoPath, kX1, kX2, kh_NoPath⟩⟩
 have k_NoRoom : ClsX K mg "NoRoom" r_NoRoom := ⟨PySem.W.mg_of X G g_NoRoom, clsOf_eq g_NoRoom, ka_NoRoom, kb_NoRoom, kc_NoRoom, ⟨kc_NoRoom, kd_NoRoom, ke_NoRoom, kf_NoRoom, kg_NoRoom, kX1, kX2, kh_NoRoom⟩⟩
 have k_NoSize : ClsX K mg "NoSize" r_NoSize := ⟨PySem.W.mg_of X G g_NoSize, clsOf_eq g_NoSize, ka_NoSize, kb_NoSize, kc_NoSize, ⟨kc_NoSize, kd_NoSize, ke_NoSize, kf_NoSize, kg_NoSize, kX1, kX2, kh_NoSize⟩⟩
 have k_NotBare : ClsX K mg "NotBare" r_NotBare := ⟨PySem.W.mg_of X G g_NotBare, clsOf_eq g_NotBare, ka_NotBare, kb_NotBare, kc_NotBare, ⟨kc_NotBare, kd_NotBare, ke_NotBare, kf_NotBare, kg_NotBare, kX1, kX2, kh_NotBare⟩⟩
 have k_Taken : ClsX K mg "Taken" r_Taken := ⟨PySem.W.mg_of X G g_Taken, clsOf_eq g_Taken, ka_Taken, kb_Taken, kc_Taken, ⟨kc_Taken, kd_Taken, ke_Taken, kf_Taken, kg_Taken, kX1, kX2, kh_Taken⟩⟩
 have k_Unsound : ClsX K mg "Unsound" r_Unsound := ⟨PySem.W.mg_of X G g_Unsound, clsOf_eq g_Unsound, ka_Unsound, kb_Unsound, kc_Unsound, ⟨kc_Unsound, kd_Unsound, ke_Unsound, kf_Unsound, kg_Unsound, kX1, kX2, kh_Unsound⟩⟩
 have k_Within : ClsX K mg "Within" r_Within := ⟨PySem.W.mg_of X G g_Within, clsOf_eq g_Within, ka_Within, kb_Within, kc_Within, ⟨kc_Within, kd_Within, ke_Within, kf_Within, kg_Within, kX1, kX2, kh_Within⟩⟩
 have T : Txt K mg r_DiskError r_IsDrawer r_IsFile r_NoBlock r_NoChain r_NoCut r_NoLine r_NoName r_NoPath r_NoRoom r_NoSize r_NotBare r_Taken r_Unsound r_Within := { b_ValueError := PySem.W.mg_none_of X G z_ValueError, b_bool := PySem.W.mg_none_of X G z_bool, b_int := PySem.W.mg_none_of X G z_int, b_isinstance := PySem.W.mg_none_of X G z_isinstance, b_len := PySem.W.mg_none_of X G z_len, b_list := PySem.W.mg_none_of X G z_list, b_max := PySem.W.mg_none_of X G z_max, b_min := PySem.W.mg_none_of X G z_min, b_range := PySem.W.mg_none_of X G z_range, b_set := PySem.W.mg_none_of X G z_set, b_sorted := PySem.W.mg_none_of X G z_sorted, b_str := PySem.W.mg_none_of X G z_str, c_SIGNS := ⟨_, PySem.W.mg_of X G g_SIGNS⟩, c_MOST_SIGNS := ⟨_, PySem.W.mg_of X G g_MOST_SIGNS⟩, c_PIECE := ⟨_, PySem.W.mg_of X G g_PIECE⟩, c_STEM := ⟨_, PySem.W.mg_of X G g_STEM⟩, c_FIGURES := ⟨_, PySem.W.mg_of X G g_FIGURES⟩, k_DiskError := k_DiskError, k_IsDrawer := k_IsDrawer, k_IsFile := k_IsFile, k_NoBlock := k_NoBlock, k_NoChain := k_NoChain, k_NoCut := k_NoCut, k_NoLine := k_NoLine, k_NoName := k_NoName, k_NoPath := k_NoPath, k_NoRoom := k_NoRoom, k_NoSize := k_NoSize, k_NotBare := k_NotBare, k_Taken := k_Taken, k_Unsound := k_Unsound, k_Within := k_Within, x_NoName := x_NoName, t_IsDrawer := tab_cons k_NoName.o k_NoName.ex t_IsDrawer_NoName (tab_nil), t_IsFile := tab_cons k_NoName.o k_NoName.ex t_IsFile_NoName (tab_nil), t_NoBlock := tab_cons k_NoName.o k_NoName.ex t_NoBlock_NoName (tab_nil), t_NoChain := tab_cons k_NoName.o k_NoName.ex t_NoChain_NoName (tab_nil), t_NoCut := tab_cons k_NoName.o k_NoName.ex t_NoCut_NoName (tab_nil), t_NoLine := tab_cons k_NoName.o k_NoName.ex t_NoLine_NoName (tab_nil), t_NoName := tab_cons k_NoName.o k_NoName.ex t_NoName_NoName (tab_nil), t_NoPath := tab_cons k_NoName.o k_NoName.ex t_NoPath_NoName (tab_nil), t_NoRoom := tab_cons k_NoName.o k_NoName.ex t_NoRoom_NoName (tab_nil), t_NoSize := tab_cons k_NoName.o k_NoName.ex t_NoSize_NoName (tab_nil), t_NotBare := tab_cons k_NoName.o k_NoName.ex t_NotBare_NoName (tab_nil), t_Taken := tab_cons k_NoName.o k_NoName.ex t_Taken_NoName (tab_nil), t_Unsound := tab_cons k_NoName.o k_NoName.ex t_Unsound_NoName (tab_nil), t_ValueError := tab_cons k_NoName.o k_NoName.ex t_ValueError_NoName (tab_nil), t_Within := tab_cons k_NoName.o k_NoName.ex t_Within_NoName (tab_nil), s_DiskError := sub_cons k_NoName.o (exm_own k_DiskError.ex.hs k_DiskError.ic k_DiskError.ty u_DiskError_NoName) (sub_nil), f_NoPath := ⟨⟨kd_NoPath, ke_NoPath, kf_NoPath, fa_NoPath⟩, fb_NoPath⟩ }
 have F0 := fun_mk (st := s_is_name) l0 e0 k0
 have b0 := F0.binds (ps := ["text"]) fun _ _ _ _ _ _ us hl => match us, hl with | [_], _ => rfl
 have F1 := fun_mk (st := s_short_forms) l1 e1 k1
 have b1 := F1.binds (ps := ["names"]) fun _ _ _ _ _ _ us hl => match us, hl with | [_], _ => rfl
 have F2 := fun_mk (st := s__law_digits) l2 e2 k2
 have b2 := F2.binds (ps := ["_law_script", "_law_k"]) fun _ _ _ _ _ _ us hl => match us, hl with | [_, _], _ => rfl
 have F3 := fun_mk (st := s__law_take) l3 e3 k3
 have b3 := F3.binds (ps := ["_law_held", "_law_many"]) fun _ _ _ _ _ _ us hl => match us, hl with | [_, _], _ => rfl
 have F4 := fun_mk (st := s__law_whole) l4 e4 k4
 have b4 := F4.binds (ps := ["_law_thing"]) fun _ _ _ _ _ _ us hl => match us, hl with | [_], _ => rfl
 have F5 := fun_mk (st := s__law_signs) l5 e5 k5
 have b5 := F5.binds (ps := []) fun _ _ _ _ _ _ us hl => match us, hl with | [], _ => rfl
 have F6 := fun_mk (st := s__law_names) l6 e6 k6
 have b6 := F6.binds (ps := ["_law_held", "_law_many"]) fun _ _ _ _ _ _ us hl => match us, hl with | [_, _], _ => rfl
 have F7 := fun_mk (st := s__law_order) l7 e7 k7
 have b7 := F7.binds (ps := ["_law_held", "_law_some"]) fun _ _ _ _ _ _ us hl => match us, hl with | [_, _], _ => rfl
 have F8 := fun_mk (st := s__law_kind) l8 e8 k8
 have b8 := F8.binds (ps := ["_law_error"]) fun _ _ _ _ _ _ us hl => match us, hl with | [_], _ => rfl
 have F9 := fun_mk (st := s__law_refused) l9 e9 k9
 have b9 := F9.binds (ps := ["_law_names_here"]) fun _ _ _ _ _ _ us hl => match us, hl with | [_], _ => rfl
 have F10 := fun_mk (st := s__law_without) l10 e10 k10
 have b10 := F10.binds (ps := ["_law_names_here", "_law_forms", "_law_name"]) fun _ _ _ _ _ _ us hl => match us, hl with | [_, _, _], _ => rfl
 have F11 := fun_mk (st := s_law) l11 e11 k11
 have b11 := F11.binds (ps := ["_law_script"]) fun _ _ _ _ _ _ us hl => match us, hl with | [_], _ => rfl
 refine ⟨PySem.W.fnOf "law" "law" (defArgs s_law) (defBody s_law) (defScope s_law) .none kV11 dc11 pm11 an11 cd11 ct11, fun s v => .of_eq rfl, fun base _ _ => ?_⟩
 have C0 := ok_is_name (P := l.prog) (w := w) (base := base) (T0 := []) ⟨F0, PySem.W.mg_of X G a0, b0⟩ T
 have C1 := ok_short_forms (P := l.prog) (w := w) (base := base) (T0 := []) ⟨F1, PySem.W.mg_of X G a1, b1⟩ T C0
 have C2 := ok__law_digits (P := l.prog) (w := w) (base := base) (T0 := []) ⟨F2, PySem.W.mg_of X G a2, b2⟩ T
 have C3 := ok__law_take (P := l.prog) (w := w) (base := base) (T0 := []) ⟨F3, PySem.W.mg_of X G a3, b3⟩ T
 have C4 := ok__law_whole (P := l.prog) (w := w) (base := base) (T0 := []) ⟨F4, PySem.W.mg_of X G a4, b4⟩ T
 have CP4 := okP__law_whole (P := l.prog) (w := w) (base := base) (T0 := []) ⟨F4, PySem.W.mg_of X G a4, b4⟩ T
 have C5 := ok__law_signs (P := l.prog) (w := w) (base := base) (T0 := []) ⟨F5, PySem.W.mg_of X G a5, b5⟩ T
 have C6 := ok__law_names (P := l.prog) (w := w) (base := base) (T0 := []) ⟨F6, PySem.W.mg_of X G a6, b6⟩ T C3 C5
 have C7 := ok__law_order (P := l.prog) (w := w) (base := base) (T0 := []) ⟨F7, PySem.W.mg_of X G a7, b7⟩ T C3
 have C8 := ok__law_kind (P := l.prog) (w := w) (base := base) (T0 := []) ⟨F8, PySem.W.mg_of X G a8, b8⟩ T CP4
 have C9 := ok__law_refused (P := l.prog) (w := w) (base := base) (T0 := []) ⟨F9, PySem.W.mg_of X G a9, b9⟩ T C1 C8
 have C10 := ok__law_without (P := l.prog) (w := w) (base := base) (T0 := []) ⟨F10, PySem.W.mg_of X G a10, b10⟩ T C1
 have C11 := ok_law (P := l.prog) (w := w) (base := base) (T0 := []) ⟨F11, PySem.W.mg_of X G a11, b11⟩ T C1 C2 C3 C6 C7 C9 C10
 exact C11.G
end Cd
open PySem PySem.W PyProof.Rows
set_option maxHeartbeats 0 in
theorem PySem.Challenge.cw_chaindisk_k83_whole_short_forms_are_unli_holds : PySem.Challenge.rw_chaindisk_k83_whole_short_forms_are_unli.Holds := by
 w_on; o_law; k_head; (case hw => w_witness2)
 k_fill
 refine L2.walk_ofB (l := PySem.Challenge.rw_chaindisk_k83_whole_short_forms_are_unli) (n := 63) (k := 4) (x := "_law_script") (CX := fun _ => L2.CX0) (sp := fun w => Vm.spM _ [] Cd.m_law) rfl (by decide) (by first | rfl | kernel_rfl) ⟨rfl, by decide, by decide⟩ (fun w h Y => PySem.W.kIn_of Y) ?F (fun w H a ns hl hbits _ hS => let ⟨_, hm⟩ := Cd.law_holds ns hl hbits; Vm.law_start (fun _ h => nomatch h) hS hm) (fun _ _ _ _ _ h => h)
 case F =>
  intro w mg fa h KX G hmg
  refine' Cd.all_mk KX G hmg ?a0 ?l0 ?e0 ?k0 ?a1 ?l1 ?e1 ?k1 ?a2 ?l2 ?e2 ?k2 ?a3 ?l3 ?e3 ?k3 ?a4 ?l4 ?e4 ?k4 ?a5 ?l5 ?e5 ?k5 ?a6 ?l6 ?e6 ?k6 ?a7 ?l7 ?e7 ?k7 ?a8 ?l8 ?e8 ?k8 ?a9 ?l9 ?e9 ?k9 ?a10 ?l10 ?e10 ?k10 ?a11 ?l11 ?e11 ?k11 ?z_ValueError ?z_bool ?z_int ?z_isinstance ?z_len ?z_list ?z_max ?z_min ?z_range ?z_set ?z_sorted ?z_str ?g_SIGNS ?g_MOST_SIGNS ?g_PIECE ?g_STEM ?g_FIGURES ?g_DiskError ?ka_DiskError ?kb_DiskError ?kc_DiskError ?kd_DiskError ?ke_DiskError ?kf_DiskError ?kg_DiskError ?kh_DiskError ?g_IsDrawer ?ka_IsDrawer ?kb_IsDrawer ?kc_IsDrawer ?kd_IsDrawer ?ke_IsDrawer ?kf_IsDrawer ?kg_IsDrawer ?kh_IsDrawer ?g_IsFile ?ka_IsFile ?kb_IsFile ?kc_IsFile ?kd_IsFile ?ke_IsFile ?kf_IsFile ?kg_IsFile ?kh_IsFile ?g_NoBlock ?ka_NoBlock ?kb_NoBlock ?kc_NoBlock ?kd_NoBlock ?ke_NoBlock ?kf_NoBlock ?kg_NoBlock ?kh_NoBlock ?g_NoChain ?ka_NoChain ?kb_NoChain ?kc_NoChain ?kd_NoChain ?ke_NoChain ?kf_NoChain ?kg_NoChain ?kh_NoChain ?g_NoCut ?ka_NoCut ?kb_NoCut ?kc_NoCut ?kd_NoCut ?ke_NoCut ?kf_NoCut ?kg_NoCut ?kh_NoCut ?g_NoLine ?ka_NoLine ?kb_NoLine ?kc_NoLine ?kd_NoLine ?ke_NoLine ?kf_NoLine ?kg_NoLine ?kh_NoLine ?g_NoName ?ka_NoName ?kb_NoName ?kc_NoName ?kd_NoName ?ke_NoName ?kf_NoName ?kg_NoName ?kh_NoName ?g_NoPath ?ka_NoPath ?kb_NoPath ?kc_NoPath ?kd_NoPath ?ke_NoPath ?kf_NoPath ?kg_NoPath ?kh_NoPath ?g_NoRoom ?ka_NoRoom ?kb_NoRoom ?kc_NoRoom ?kd_NoRoom ?ke_NoRoom ?kf_NoRoom ?kg_NoRoom ?kh_NoRoom ?g_NoSize ?ka_NoSize ?kb_NoSize ?kc_NoSize ?kd_NoSize ?ke_NoSize ?kf_NoSize ?kg_NoSize ?kh_NoSize ?g_NotBare ?ka_NotBare ?kb_NotBare ?kc_NotBare ?kd_NotBare ?ke_NotBare ?kf_NotBare ?kg_NotBare ?kh_NotBare ?g_Taken ?ka_Taken ?kb_Taken ?kc_Taken ?kd_Taken ?ke_Taken ?kf_Taken ?kg_Taken ?kh_Taken ?g_Unsound ?ka_Unsound ?kb_Unsound ?kc_Unsound ?kd_Unsound ?ke_Unsound ?kf_Unsound ?kg_Unsound ?kh_Unsound ?g_Within ?ka_Within ?kb_Within ?kc_Within ?kd_Within ?ke_Within ?kf_Within ?kg_Within ?kh_Within ?kX1 ?kX2 ?x_NoName ?t_IsDrawer_NoName ?t_IsFile_NoName ?t_NoBlock_NoName ?t_NoChain_NoName ?t_NoCut_NoName ?t_NoLine_NoName ?t_NoName_NoName ?t_NoPath_NoName ?t_NoRoom_NoName ?t_NoSize_NoName ?t_NotBare_NoName ?t_Taken_NoName ?t_Unsound_NoName ?t_ValueError_NoName ?t_Within_NoName ?u_DiskError_NoName ?fa_NoPath ?fb_NoPath
  (case a0 => k_is); (case l0 => k_is); (case e0 => k_is); (case k0 => k_is); (case a1 => k_is); (case l1 => k_is); (case e1 => k_is); (case k1 => k_is); (case a2 => k_is); (case l2 => k_is); (case e2 => k_is); (case k2 => k_is); (case a3 => k_is); (case l3 => k_is); (case e3 => k_is); (case k3 => k_is); (case a4 => k_is); (case l4 => k_is); (case e4 => k_is); (case k4 => k_is); (case a5 => k_is); (case l5 => k_is); (case e5 => k_is); (case k5 => k_is); (case a6 => k_is); (case l6 => k_is); (case e6 => k_is); (case k6 => k_is); (case a7 => k_is); (case l7 => k_is); (case e7 => k_is); (case k7 => k_is); (case a8 => k_is); (case l8 => k_is); (case e8 => k_is); (case k8 => k_is); (case a9 => k_is); (case l9 => k_is); (case e9 => k_is); (case k9 => k_is); (case a10 => k_is); (case l10 => k_is); (case e10 => k_is); (case k10 => k_is); (case a11 => k_is); (case l11 => k_is); (case e11 => k_is); (case k11 => k_is); (case z_ValueError => k_is); (case z_bool => k_is); (case z_int => k_is); (case z_isinstance => k_is); (case z_len => k_is); (case z_list => k_is); (case z_max => k_is); (case z_min => k_is); (case z_range => k_is); (case z_set => k_is); (case z_sorted => k_is); (case z_str => k_is); (case g_SIGNS => k_is); (case g_MOST_SIGNS => k_is); (case g_PIECE => k_is); (case g_STEM => k_is); (case g_FIGURES => k_is); (case g_DiskError => k_is); (case ka_DiskError => k_is); (case kb_DiskError => k_is); (case kc_DiskError => k_is); (case kd_DiskError => k_is); (case ke_DiskError => k_is); (case kf_DiskError => k_is); (case kg_DiskError => k_is); (case kh_DiskError => k_is); (case g_IsDrawer => k_is); (case ka_IsDrawer => k_is); (case kb_IsDrawer => k_is); (case kc_IsDrawer => k_is); (case kd_IsDrawer => k_is); (case ke_IsDrawer => k_is); (case kf_IsDrawer => k_is); (case kg_IsDrawer => k_is); (case kh_IsDrawer => k_is); (case g_IsFile => k_is); (case ka_IsFile => k_is); (case kb_IsFile => k_is); (case kc_IsFile => k_is); (case kd_IsFile => k_is); (case ke_IsFile => k_is); (case kf_IsFile => k_is); (case kg_IsFile => k_is); (case kh_IsFile => k_is); (case g_NoBlock => k_is); (case ka_NoBlock => k_is); (case kb_NoBlock => k_is); (case kc_NoBlock => k_is); (case kd_NoBlock => k_is); (case ke_NoBlock => k_is); (case kf_NoBlock => k_is); (case kg_NoBlock => k_is); (case kh_NoBlock => k_is); (case g_NoChain => k_is); (case ka_NoChain => k_is); (case kb_NoChain => k_is); (case kc_NoChain => k_is); (case kd_NoChain => k_is); (case ke_NoChain => k_is); (case kf_NoChain => k_is); (case kg_NoChain => k_is); (case kh_NoChain => k_is); (case g_NoCut => k_is); (case ka_NoCut => k_is); (case kb_NoCut => k_is); (case kc_NoCut => k_is); (case kd_NoCut => k_is); (case ke_NoCut => k_is); (case kf_NoCut => k_is); (case kg_NoCut => k_is); (case kh_NoCut => k_is); (case g_NoLine => k_is); (case ka_NoLine => k_is); (case kb_NoLine => k_is); (case kc_NoLine => k_is); (case kd_NoLine => k_is); (case ke_NoLine => k_is); (case kf_NoLine => k_is); (case kg_NoLine => k_is); (case kh_NoLine => k_is); (case g_NoName => k_is); (case ka_NoName => k_is); (case kb_NoName => k_is); (case kc_NoName => k_is); (case kd_NoName => k_is); (case ke_NoName => k_is); (case kf_NoName => k_is); (case kg_NoName => k_is); (case kh_NoName => k_is); (case g_NoPath => k_is); (case ka_NoPath => k_is); (case kb_NoPath => k_is); (case kc_NoPath => k_is); (case kd_NoPath => k_is); (case ke_NoPath => k_is); (case kf_NoPath => k_is); (case kg_NoPath => k_is); (case kh_NoPath => k_is); (case g_NoRoom => k_is); (case ka_NoRoom => k_is); (case kb_NoRoom => k_is); (case kc_NoRoom => k_is); (case kd_NoRoom => k_is); (case ke_NoRoom => k_is); (case kf_NoRoom => k_is); (case kg_NoRoom => k_is); (case kh_NoRoom => k_is); (case g_NoSize => k_is); (case ka_NoSize => k_is); (case kb_NoSize => k_is); (case kc_NoSize => k_is); (case kd_NoSize => k_is); (case ke_NoSize => k_is); (case kf_NoSize => k_is); (case kg_NoSize => k_is); (case kh_NoSize => k_is); (case g_NotBare => k_is); (case ka_NotBare => k_is); (case kb_NotBare => k_is); (case kc_NotBare => k_is); (case kd_NotBare => k_is); (case ke_NotBare => k_is); (case kf_NotBare => k_is); (case kg_NotBare => k_is); (case kh_NotBare => k_is); (case g_Taken => k_is); (case ka_Taken => k_is); (case kb_Taken => k_is); (case kc_Taken => k_is); (case kd_Taken => k_is); (case ke_Taken => k_is); (case kf_Taken => k_is); (case kg_Taken => k_is); (case kh_Taken => k_is); (case g_Unsound => k_is); (case ka_Unsound => k_is); (case kb_Unsound => k_is); (case kc_Unsound => k_is); (case kd_Unsound => k_is); (case ke_Unsound => k_is); (case kf_Unsound => k_is); (case kg_Unsound => k_is); (case kh_Unsound => k_is); (case g_Within => k_is); (case ka_Within => k_is); (case kb_Within => k_is); (case kc_Within => k_is); (case kd_Within => k_is); (case ke_Within => k_is); (case kf_Within => k_is); (case kg_Within => k_is); (case kh_Within => k_is); (case kX1 => k_is); (case kX2 => k_is); (case x_NoName => k_exc); (case t_IsDrawer_NoName => first | k_is | kit_is); (case t_IsFile_NoName => first | k_is | kit_is); (case t_NoBlock_NoName => first | k_is | kit_is); (case t_NoChain_NoName => first | k_is | kit_is); (case t_NoCut_NoName => first | k_is | kit_is); (case t_NoLine_NoName => first | k_is | kit_is); (case t_NoName_NoName => first | k_is | kit_is); (case t_NoPath_NoName => first | k_is | kit_is); (case t_NoRoom_NoName => first | k_is | kit_is); (case t_NoSize_NoName => first | k_is | kit_is); (case t_NotBare_NoName => first | k_is | kit_is); (case t_Taken_NoName => first | k_is | kit_is); (case t_Unsound_NoName => first | k_is | kit_is); (case t_ValueError_NoName => first | k_is | kit_is); (case t_Within_NoName => first | k_is | kit_is); (case u_DiskError_NoName => k_is); (case fa_NoPath => k_is); (case fb_NoPath => k_is)
