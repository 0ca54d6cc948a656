import PyProof.Rows.All
import Wide.All
import OpenK.AllK
import Wide.FinOn
import HandS.ForMost
import HandS.ForExc
import HandS.Walk
import HandS.EndBits
import HandS.Wide
import HandS.TupAny
import HandS.TupMul
import HandS.IsInst
import HandS.Zip
import HandS.Replace
import HandS.StrMore
import HandS.ExcIs
import HandS.WordsExc
import HandS.TryOnly
import HandS.ExcOwn
import KE.KExcIs
import HandS.Conv
import HandS.Finally
import HandS.WordsDict
import HandS.DictComp
import HandS.ListItems
import HandS.ExcField
import HandS.ExcInit
import HandS.SetFor
import HandS.SortInts
import HandS.WideBits
import HandS.Style
import HandS.Lambda
import HandS.EndTab
import HandS.EndOwn
import HandS.SortKw
import HandS.Finally
import HandS.Deep
import HandS.Sort
import PyProof.Rows.TupDisplay
import KE.KDictDisplayH
import KE.SortKeyHeap
import KE.GoesEnum
import KE.SortUse
import KE.KSortTupG
import HandS.HotCalls
import HandS.TupLen
import KE.KEqNest
import KE.KDictPairs
import HandS.SetKeys
import PyProof.Rows.SetFrom
import PySem.Challenge.RW_chaindisk_k23_whole_names_by_their_words
set_option Elab.async false
set_option linter.all false
set_option maxRecDepth 100000
set_option maxHeartbeats 2000000
namespace Fz
open PySem PySem.Spec PyProof.Rows L2
mutual
theorem XQ {K : PySem.W.Frag} {M M' : Hp} (e : Same M M') : ∀ {v : V} {d : PyData}, Dp K M v d → Dp K M' v d
 | _, _, .non => .non
 | _, _, .bl b => .bl b
 | _, _, .int i => .int i
 | _, _, .str x => .str x
 | _, _, .lst h a => .lst (e.seq h) (dpAll_mono e a)
 | _, _, .tup h a => .tup (by
   rcases h with (h | ⟨o, h⟩) | h
   ·exact .inl (.inl (e _ _ h))
   ·exact .inl (.inr ⟨o, e _ _ h⟩)
   ·exact .inr h) (dpAll_mono e a)
theorem dpAll_mono {K : PySem.W.Frag} {M M' : Hp} (e : Same M M') : ∀ {vs : List V} {ds : List PyData}, DpAll K M vs ds → DpAll K M' vs ds
 | _, _, .nil => .nil
 | _, _, .cons h t => .cons (XQ e h) (dpAll_mono e t)
end
theorem wB {K : PySem.W.Frag} {M M' : Hp} (e : Same M M') {a : Addr} {xs : List V} (h : SqT K M a xs) : SqT K M' a xs := by
 rcases h with (h | ⟨o, h⟩) | h
 ·exact .inl (.inl (e _ _ h))
 ·exact .inl (.inr ⟨o, e _ _ h⟩)
 ·exact .inr h
structure Pd where
 p : Hp → V → Prop
 mono : ∀ {M M' : Hp} {v : V}, Same M M' → p M v → p M' v
def pD (K : PySem.W.Frag) (d : PyData) : Pd := ⟨fun M v => Dp K M v d, fun e h => XQ e h⟩
def pV (x : V) : Pd := ⟨fun _ v => v = x, fun _ h => h⟩
abbrev zbk (a : Addr) : Pd := pV (.ref a)
def jk (K : PySem.W.Frag) (M : Hp) : List (Key × PyData) → List (Key × V) → Prop
 | [], [] => True
 | (k, d) :: r, (k', v) :: s => k' = k ∧ Dp K M v d ∧ jk K M r s
 | _, _ => False
theorem qT {K : PySem.W.Frag} {M M' : Hp} (e : Same M M') : ∀ {kds : List (Key × PyData)} {kvs : List (Key × V)}, jk K M kds kvs → jk K M' kds kvs
 | [], [], _ => trivial
 | (_, _) :: _, (_, _) :: _, ⟨h1, h2, h3⟩ => ⟨h1, XQ e h2, qT e h3⟩
def zbj (K : PySem.W.Frag) (kds : List (Key × PyData)) (M : Hp) (v : V) : Prop := ∃ (a : Addr) (kvs : List (Key × V)), v = .ref a ∧ M a = some (.dK kvs) ∧ jk K M kds kvs
def zbi (K : PySem.W.Frag) (kds : List (Key × PyData)) : Pd := ⟨zbj K kds, fun e ⟨a, kvs, h1, h2, h3⟩ => ⟨a, kvs, h1, e _ _ h2, qT e h3⟩⟩
inductive ZV where
 | lst (ds : List PyData)
 | dic (kds : List (Key × PyData))
 | ins (C dx : Addr) (fs : List (Str × Pd))
 | own (x : Addr)
 | lstP (ps : List Pd)
 | dicP (kps : List (Key × Pd))
abbrev Cs := Addr → Option ZV
def qO (C : Cs) (a : Addr) (c : ZV) : Cs := fun b => if b = a then some c else C b
theorem ZW {C : Cs} {a : Addr} {c : ZV} : qO C a c a = some c := by unfold qO; rw [if_pos rfl]
theorem XJ {C : Cs} {a b : Addr} {c : ZV} (h : b ≠ a) : qO C a c b = C b := by unfold qO; rw [if_neg h]
theorem Jf {C : Cs} {a : Addr} {c c' : ZV} : qO (qO C a c) a c' = qO C a c' := by
 funext b; unfold qO; split <;> rfl
theorem V1 {C : Cs} {a : Addr} {c : ZV} (h : C a = some c) : qO C a c = C := by
 funext b; unfold qO; split
 ·rename_i e; rw [e, h]
 ·rfl
theorem K6 {C : Cs} {a b : Addr} {c : ZV} (h : C a = some c) (h' : C b = none) : a ≠ b := by
 intro e; subst e; rw [h] at h'; cases h'
def JD (M : Hp) : List Pd → List V → Prop
 | [], [] => True
 | p :: ps, v :: vs => p.p M v ∧ JD M ps vs
 | _, _ => False
theorem QG {M M' : Hp} (e : Same M M') : ∀ {ps : List Pd} {vs : List V}, JD M ps vs → JD M' ps vs
 | [], [], _ => trivial
 | p :: _, _ :: _, ⟨h, t⟩ => ⟨p.mono e h, QG e t⟩
def qK (K : PySem.W.Frag) (M : Hp) : ZV → HO → Prop
 | .lst ds, .lst xs => DpAll K M xs ds
 | .dic kds, .dK kvs => jk K M kds kvs
 | .ins C dx fs, .ins C' dx' gs => C' = C ∧ dx' = dx ∧ gs.map (·.1) = fs.map (·.1) ∧ JD M (fs.map (·.2)) (gs.map (·.2))
 | .own x, .own y => y = x
 | .lstP ps, .lst xs => JD M ps xs
 | .dicP kps, .dK kvs => kvs.map (·.1) = kps.map (·.1) ∧ JD M (kps.map (·.2)) (kvs.map (·.2))
 | _, _ => False
theorem KC {K : PySem.W.Frag} {M M' : Hp} (e : Same M M') {c : ZV} {o : HO} (h : qK K M c o) : qK K M' c o := by
 cases c <;> cases o <;> first
  | exact False.elim h
  | exact dpAll_mono e h
  | exact qT e h
  | exact ⟨h.1, h.2.1, h.2.2.1, QG e h.2.2.2⟩
  | exact ⟨h.1, QG e h.2⟩
  | exact QG e h
  | exact h
structure Ok (K : PySem.W.Frag) (M : Hp) (C : Cs) (H : Hp) : Prop where
 fz : Same M H
 cs : ∀ a c, C a = some c → M a = none ∧ ∃ o, H a = some o ∧ qK K M c o
section
variable {K : PySem.W.Frag} {M M' H H' : Hp} {C C' : Cs} {a p : Addr} {c : ZV} {o : HO}
theorem Ok.free (k : Ok K M C H) (h : H p = none) : M p = none ∧ C p = none := by
 refine ⟨k.fz.free h, ?_⟩
 cases e : C p with
 | none => rfl
 | some c =>
  obtain ⟨_, o, h2, _⟩ := k.cs p c e
  rw [h] at h2; cases h2
theorem Ok.cell (k : Ok K M C H) (h : H p = none) (ho : qK K M c o) : C p = none ∧ Ok K M (qO C p c) (upd H p o) := by
 obtain ⟨hM, hC⟩ := k.free h
 refine ⟨hC, fun b u e => ?_, fun a d e => ?_⟩
 ·rw [upd_ne (ne_of_none e hM)]; exact k.fz _ _ e
 ·by_cases ha : a = p
  ·subst ha; rw [ZW] at e; cases e
   exact ⟨hM, o, upd_same, ho⟩
  ·rw [XJ ha] at e
   obtain ⟨h1, u, h2, h3⟩ := k.cs a d e
   exact ⟨h1, u, by rw [upd_ne ha]; exact h2, h3⟩
theorem Ok.set {c' : ZV} (k : Ok K M C H) (h : C a = some c) (ho : qK K M c' o) : Ok K M (qO C a c') (upd H a o) := by
 obtain ⟨hM, _⟩ := k.cs a c h
 refine ⟨fun b u e => ?_, fun b d e => ?_⟩
 ·rw [upd_ne (ne_of_none e hM)]; exact k.fz _ _ e
 ·by_cases hb : b = a
  ·subst hb; rw [ZW] at e; cases e
   exact ⟨hM, o, upd_same, ho⟩
  ·rw [XJ hb] at e
   obtain ⟨h1, u, h2, h3⟩ := k.cs b d e
   exact ⟨h1, u, by rw [upd_ne hb]; exact h2, h3⟩
theorem Ok.freeze (k : Ok K M (qO C a c) H) (h : C a = none) : ∃ o, H a = some o ∧ qK K M c o ∧ Same M (upd M a o) ∧ Ok K (upd M a o) C H := by
 obtain ⟨hM, o, h1, h2⟩ := k.cs a c ZW
 have s : Same M (upd M a o) := fun b u e => by rw [upd_ne (ne_of_none e hM)]; exact e
 refine ⟨o, h1, h2, s, fun b u e => ?_, fun b d e => ?_⟩
 ·by_cases hb : b = a
  ·subst hb; rw [upd_same] at e; cases e; exact h1
  ·rw [upd_ne hb] at e; exact k.fz _ _ e
 ·have hb : b ≠ a := K6 e h
  obtain ⟨q1, u, q2, q3⟩ := k.cs b d (by rw [XJ hb]; exact e)
  exact ⟨by rw [upd_ne hb]; exact q1, u, q2, KC s q3⟩
end
abbrev En := List (Option Pd)
def EnvOk (M : Hp) : En → L2.St → Prop
 | [], [] => True
 | none :: ρ, _ :: σ => EnvOk M ρ σ
 | some p :: ρ, some v :: σ => p.p M v ∧ EnvOk M ρ σ
 | _, _ => False
theorem EnvOk.mono {M M' : Hp} (e : Same M M') : ∀ {ρ : En} {σ : L2.St}, EnvOk M ρ σ → EnvOk M' ρ σ
 | [], [], _ => trivial
 | none :: ρ, _ :: σ, h => EnvOk.mono (ρ := ρ) (σ := σ) e h
 | some p :: ρ, some _ :: σ, ⟨h, t⟩ => ⟨p.mono e h, EnvOk.mono (ρ := ρ) (σ := σ) e t⟩
theorem EnvOk.get {M : Hp} {p : Pd} : ∀ {ρ : En} {σ : L2.St} {i : Nat}, EnvOk M ρ σ → ρ[i]? = some (some p) → ∃ v, σ[i]? = some (some v) ∧ p.p M v
 | [], _, _, _, e => by simp at e
 | none :: _, _ :: _, 0, h, e => by simp at e
 | none :: ρ, _ :: σ, i + 1, h, e => EnvOk.get (ρ := ρ) (σ := σ) (i := i) h e
 | some q :: _, some v :: _, 0, ⟨h, _⟩, e => by
  have e' : q = p := by simpa using e
  subst e'; exact ⟨v, rfl, h⟩
 | some _ :: ρ, some _ :: σ, i + 1, ⟨_, t⟩, e => EnvOk.get (ρ := ρ) (σ := σ) (i := i) t e
 | some _ :: _, none :: _, _, h, _ => False.elim h
theorem EnvOk.set {M : Hp} {p : Pd} {v : V} (hv : p.p M v) : ∀ {ρ : En} {σ : L2.St} (i : Nat), EnvOk M ρ σ → EnvOk M (ρ.set i (some p)) (σ.set i (some v))
 | [], [], _, _ => trivial
 | none :: ρ, _ :: σ, 0, h => ⟨hv, h⟩
 | some _ :: ρ, some _ :: σ, 0, ⟨_, t⟩ => ⟨hv, t⟩
 | none :: ρ, _ :: σ, i + 1, h => EnvOk.set (ρ := ρ) (σ := σ) hv i h
 | some _ :: ρ, some _ :: σ, i + 1, ⟨h, t⟩ => ⟨h, EnvOk.set (ρ := ρ) (σ := σ) hv i t⟩
theorem EnvOk.wipe1 {M : Hp} : ∀ {ρ : En} {σ : L2.St} (i : Nat) (x : Option V), EnvOk M ρ σ → EnvOk M (ρ.set i none) (σ.set i x)
 | [], [], _, _, _ => trivial
 | none :: ρ, _ :: σ, 0, _, h => h
 | some _ :: ρ, some _ :: σ, 0, _, ⟨_, t⟩ => t
 | none :: ρ, _ :: σ, i + 1, x, h => EnvOk.wipe1 (ρ := ρ) (σ := σ) i x h
 | some _ :: ρ, some _ :: σ, i + 1, x, ⟨h, t⟩ => ⟨h, EnvOk.wipe1 (ρ := ρ) (σ := σ) i x t⟩
theorem EnvOk.forget {M : Hp} : ∀ {ρ : En} {σ : L2.St} (i : Nat), EnvOk M ρ σ → EnvOk M (ρ.set i none) σ
 | [], [], _, _ => trivial
 | none :: ρ, _ :: σ, 0, h => h
 | some _ :: ρ, some _ :: σ, 0, ⟨_, t⟩ => t
 | none :: ρ, _ :: σ, i + 1, h => EnvOk.forget (ρ := ρ) (σ := σ) i h
 | some _ :: ρ, some _ :: σ, i + 1, ⟨h, t⟩ => ⟨h, EnvOk.forget (ρ := ρ) (σ := σ) i t⟩
def zaa (ρ : En) : List Nat → En
 | [] => ρ
 | v :: vs => (zaa ρ vs).set v none
theorem EnvOk.wipe {M : Hp} {ρ : En} {σ : L2.St} (h : EnvOk M ρ σ) : ∀ vs : List Nat, EnvOk M (zaa ρ vs) (wipe σ vs)
 | [] => h
 | v :: vs => (EnvOk.wipe h vs).wipe1 v none
theorem EnvOk.start {M : Hp} : ∀ {ps : List Pd} {vs : List V} (n : Nat), JD M ps vs → EnvOk M (ps.map some ++ List.replicate n none) (vs.map some ++ List.replicate n none)
 | [], [], n, _ => by
  show EnvOk M (List.replicate n none) (List.replicate n none)
  induction n with
  | zero => trivial
  | succ n ih => exact ih
 | _ :: _, _ :: _, n, ⟨h, t⟩ => ⟨h, EnvOk.start n t⟩
def EnvLe (ρ ρ' : En) : Prop := ∀ (M : Hp) (σ : L2.St), EnvOk M ρ σ → EnvOk M ρ' σ
theorem EnvLe.refl (ρ : En) : EnvLe ρ ρ := fun _ _ h => h
theorem EnvLe.trans {ρ ρ1 ρ2 : En} (a : EnvLe ρ ρ1) (b : EnvLe ρ1 ρ2) : EnvLe ρ ρ2 := fun M σ h => b M σ (a M σ h)
theorem EnvLe.nil : EnvLe [] [] := fun _ _ h => h
theorem EnvLe.same {x : Option Pd} {ρ ρ' : En} (h : EnvLe ρ ρ') : EnvLe (x :: ρ) (x :: ρ') := fun M σ e => by
 match x, σ, e with
 | none, _ :: σ, e => exact h M σ e
 | some p, some v :: σ, ⟨a, e⟩ => exact ⟨a, h M σ e⟩
theorem EnvLe.drop {x : Option Pd} {ρ ρ' : En} (h : EnvLe ρ ρ') : EnvLe (x :: ρ) (none :: ρ') := fun M σ e => by
 match x, σ, e with
 | none, _ :: σ, e => exact h M σ e
 | some p, some v :: σ, ⟨a, e⟩ => exact h M σ e
theorem EnvLe.imp {p q : Pd} {ρ ρ' : En} (hp : ∀ M v, p.p M v → q.p M v) (h : EnvLe ρ ρ') : EnvLe (some p :: ρ) (some q :: ρ') := fun M σ e => by
 match σ, e with
 | some v :: σ, ⟨a, e⟩ => exact ⟨hp M v a, h M σ e⟩
def Sub (C' C : Cs) : Prop := ∀ a c, C' a = some c → C a = some c
theorem Sub.refl (C : Cs) : Sub C C := fun _ _ h => h
theorem Sub.trans {C1 C2 C3 : Cs} (h : Sub C1 C2) (h' : Sub C2 C3) : Sub C1 C3 := fun a c e => h' a c (h a c e)
def Ec (K : PySem.W.Frag) (t : TE) (ρ : En) (C : Cs) (p : Pd) (C' : Cs) : Prop := ∀ (σ : L2.St) (H M : Hp) (Q : VK), EnvOk M ρ σ → Ok K M C H → (∀ v H' M', Same M M' → Ok K M' C' H' → p.p M' v → Q v H') → t σ H Q
def Ew (K : PySem.W.Frag) (t : TE) (ρ : En) (C : Cs) (c : ZV) (C' : Cs) : Prop := ∀ (σ : L2.St) (H M : Hp) (Q : VK), EnvOk M ρ σ → Ok K M C H → (∀ a H' M', Same M M' → C' a = none → Ok K M' (qO C' a c) H' → Q (.ref a) H') → t σ H Q
section
variable {K : PySem.W.Frag} {t ta tb te : TE} {ρ ρ' : En} {C C1 C2 C3 C' : Cs} {p q s : Pd} {ps : List Pd} {c : ZV}
theorem Ec.imp {p' : Pd} (h : Ec K t ρ C p C') (e : ∀ M v, p.p M v → p'.p M v) : Ec K t ρ C p' C' := fun σ H M Q e0 k z => h σ H M Q e0 k fun v H' M' s k' hv => z v H' M' s k' (e _ _ hv)
theorem Ew.list {ds : List PyData} (h : Ew K t ρ C (.lst ds) C') : Ec K t ρ C (pD K (.list ds)) C' := fun σ H M Q e k z => h σ H M Q e k fun a H' M' s n k' => by
 obtain ⟨o, h1, h2, h3, h4⟩ := k'.freeze n
 cases o <;> first | exact False.elim h2 | skip
 rename_i xs
 exact z (.ref a) H' _ (s.trans h3) h4 (Dp.lst (.inl (.inl upd_same)) (dpAll_mono h3 h2))
theorem Ew.dict {kds : List (Key × PyData)} (h : Ew K t ρ C (.dic kds) C') : Ec K t ρ C (zbi K kds) C' := fun σ H M Q e k z => h σ H M Q e k fun a H' M' s n k' => by
 obtain ⟨o, h1, h2, h3, h4⟩ := k'.freeze n
 cases o <;> first | exact False.elim h2 | skip
 rename_i kvs
 exact z (.ref a) H' _ (s.trans h3) h4 ⟨a, kvs, rfl, upd_same, qT h3 h2⟩
theorem ju {M : Hp} : ∀ {vs : List V} {ns : List Int}, DpAll K M vs (ns.map PyData.int) → vs = ns.map V.int
 | [], [], _ => rfl
 | _, [], .nil => rfl
 | _, n :: ns, .cons (.int _) t => by rw [List.map_cons, ju t]
theorem jB {M : Hp} : ∀ (ns : List Int), DpAll K M (ns.map V.int) (ns.map PyData.int)
 | [] => .nil
 | n :: ns => .cons (.int n) (jB ns)
theorem zbE {M : Hp} {v : V} {i : Int} (h : Dp K M v (.int i)) : v = .int i := by cases h; rfl
theorem zbQ {M : Hp} {v : V} {i : Bool} (h : Dp K M v (.bool i)) : v = .bl i := by cases h; rfl
theorem za5 {M : Hp} {v : V} {ds : List PyData} (h : Dp K M v (.tuple ds)) : ∃ a xs, v = .ref a ∧ SqT K M a xs ∧ DpAll K M xs ds := by cases h with | tup a b => exact ⟨_, _, rfl, a, b⟩
theorem zby {M : Hp} {v : V} {ds : List PyData} (h : Dp K M v (.list ds)) : ∃ a xs, v = .ref a ∧ SqL K M a xs ∧ DpAll K M xs ds := by cases h with | lst a b => exact ⟨_, _, rfl, a, b⟩
theorem Ok.lst {M H : Hp} {a : Addr} {ds : List PyData} (k : Ok K M C H) (h : C a = some (.lst ds)) : ∃ xs, H a = some (.lst xs) ∧ DpAll K M xs ds := by
 obtain ⟨_, o, h1, h2⟩ := k.cs a _ h
 cases o <;> first | exact False.elim h2 | exact ⟨_, h1, h2⟩
theorem Ok.dic {M H : Hp} {a : Addr} {kds : List (Key × PyData)} (k : Ok K M C H) (h : C a = some (.dic kds)) : ∃ kvs, H a = some (.dK kvs) ∧ jk K M kds kvs := by
 obtain ⟨_, o, h1, h2⟩ := k.cs a _ h
 cases o <;> first | exact False.elim h2 | exact ⟨_, h1, h2⟩
end
def Ex (K : PySem.W.Frag) (M0 : Hp) (t : TS) (D : Ends) (ρ : En) (C : Cs) : Prop := ∀ (σ : L2.St) (H M : Hp), Same M0 M → EnvOk M ρ σ → Ok K M C H → t D σ H
def Nx (K : PySem.W.Frag) (M0 : Hp) (N : L2.St → Hp → Prop) (ρ : En) (C : Cs) : Prop := ∀ (σ : L2.St) (H M : Hp), Same M0 M → EnvOk M ρ σ → Ok K M C H → N σ H
def Rt (K : PySem.W.Frag) (M0 : Hp) (R : VK) (p : Pd) (C : Cs) : Prop := ∀ (v : V) (H M : Hp), Same M0 M → Ok K M C H → p.p M v → R v H
def RtW (K : PySem.W.Frag) (M0 : Hp) (R : VK) (c : ZV) (C : Cs) : Prop := ∀ (a : Addr) (H M : Hp), Same M0 M → C a = none → Ok K M (qO C a c) H → R (.ref a) H
section
variable {K : PySem.W.Frag} {M0 : Hp} {t u : TS} {te : TE} {D : Ends} {ρ ρ' : En} {C C1 C2 C' : Cs} {p : Pd} {c : ZV}
theorem Nx.of (h : Ex K M0 t D ρ C) : Nx K M0 (t D) ρ C := h
theorem Rt.up {M1 : Hp} {R : VK} (s : Same M0 M1) (h : Rt K M0 R p C) : Rt K M1 R p C := fun v H M s1 o hv => h v H M (s.trans s1) o hv
theorem RtW.up {M1 : Hp} {R : VK} (s : Same M0 M1) (h : RtW K M0 R c C) : RtW K M1 R c C := fun v H M s1 n o => h v H M (s.trans s1) n o
theorem Nx.up {M1 : Hp} {N : L2.St → Hp → Prop} (s : Same M0 M1) (h : Nx K M0 N ρ C) : Nx K M1 N ρ C := fun σ H M s1 e o => h σ H M (s.trans s1) e o
theorem Ex.up {M1 : Hp} (s : Same M0 M1) (h : Ex K M0 t D ρ C) : Ex K M1 t D ρ C := fun σ H M s1 e o => h σ H M (s.trans s1) e o
end
def spF {γ : Type} (K : PySem.W.Frag) (A : γ → List Pd) (pre : γ → Cs → Prop) (r : γ → Pd) (eff : γ → Cs → Cs) : Sp := fun vs H Q _ => ∃ (g : γ) (M : Hp) (C : Cs), Ok K M C H ∧ JD M (A g) vs ∧ pre g C ∧ Rt K M Q (r g) (eff g C)
structure Cal (P : Program) (w : World) (K : PySem.W.Frag) (mg : Str → Option Value) (base : Heap) (CX : CXT) (x : Str) (k : Nat) (ps : List Str) (sp : Sp) (f : Addr) (fd : FuncData) : Prop where
 G : FnOk P w K mg base CX k f fd ps sp
 g : mg x = some (.ref f)
 kp : PySem.W.keepIn K (.ref f) = true
 b : Binds K fd ps []
structure Def (K : PySem.W.Frag) (mg : Str → Option Value) (x : Str) (st : Stmt) (ps : List Str) (f : Addr) (fd : FuncData) : Prop where
 F : Fun K x x st f fd
 g : mg x = some (.ref f)
 b : Binds K fd ps []
section
variable {K : PySem.W.Frag} {ρ : En} {C C1 : Cs} {ta : TA} {tl : TE}
def dTy : PyData → String
 | .none => "NoneType"
 | .bool _ => "bool"
 | .int _ => "int"
 | .str _ => "str"
 | .list _ => "list"
 | .tuple _ => "tuple"
 | .dict _ => "dict"
theorem flat_one {α : Type} (n : Nat) (d : α) : (List.replicate n [d]).flatten = List.replicate n d := by
 induction n with
 | zero => rfl
 | succ n ih => rw [List.replicate_succ, List.flatten_cons, ih, List.replicate_succ]; rfl
end
def zbI (K : PySem.W.Frag) : Sp := spF (γ := List Int) K (fun ns => [pD K (.list (ns.map PyData.int))]) (fun ns _ => ns.length ≤ 63 ∧ ∀ z ∈ ns, Builtin.Int.intBits z ≤ 1048576) (fun _ => pD K (.bool true)) (fun _ C => C)
theorem law_start {K : PySem.W.Frag} {H : Hp} {a : Addr} {ns : List Int} {E : XK} (hl : ns.length ≤ 63) (hb : ∀ z ∈ ns, Builtin.Int.intBits z ≤ 1048576) (hS : SqL K H a (ns.map V.int)) : zbI K [.ref a] H (fun v _ => v = .bl true) E :=
 ⟨ns, H, fun _ => none, ⟨Same.refl _, fun a c e => nomatch e⟩, ⟨Dp.lst hS (jB ns), trivial⟩, ⟨hl, hb⟩, fun v H' M' _ _ hv => zbQ hv⟩
theorem Z3 (σ : L2.St) (i : Nat) : ∀ vs : List Nat, (wipe σ vs)[i]? = if i ∈ vs then (σ[i]?).map (fun _ => none) else σ[i]?
 | [] => by simp [wipe]
 | v :: vs => by
  have ih := Z3 σ i vs
  unfold wipe
  by_cases h : i = v
  ·subst h
   rw [if_pos List.mem_cons_self]
   by_cases hl : i < σ.length
   ·rw [List.getElem?_set_self (by rw [wipe_length]; exact hl), List.getElem?_eq_getElem hl]; rfl
   ·rw [List.getElem?_eq_none (by rw [List.length_set, wipe_length]; omega), List.getElem?_eq_none (by omega)]; rfl
  ·rw [List.getElem?_set_ne (Ne.symm h), ih]
   by_cases h2 : i ∈ vs
   ·rw [if_pos h2, if_pos (List.mem_cons_of_mem _ h2)]
   ·rw [if_neg h2, if_neg (by simp [h, h2])]
theorem yf {σ : L2.St} {vs : List Nat} {j : Nat} {x : Option V} (hj : j ∈ vs) : wipe (σ.set j x) vs = wipe σ vs := by
 apply List.ext_getElem?
 intro i
 rw [Z3, Z3]
 by_cases h : i ∈ vs
 ·rw [if_pos h, if_pos h]
  by_cases e : i = j
  ·subst e
   by_cases hl : i < σ.length
   ·rw [List.getElem?_set_self hl, List.getElem?_eq_getElem hl]; rfl
   ·rw [List.getElem?_eq_none (by rw [List.length_set]; omega), List.getElem?_eq_none (by omega)]
  ·rw [List.getElem?_set_ne (Ne.symm e)]
 ·rw [if_neg h, if_neg h, List.getElem?_set_ne (fun e => h (by rw [← e]; exact hj))]
theorem wj (σ : L2.St) (vs : List Nat) : wipe (wipe σ vs) vs = wipe σ vs := by
 apply List.ext_getElem?
 intro i
 rw [Z3, Z3]
 by_cases h : i ∈ vs
 ·rw [if_pos h, if_pos h]; cases σ[i]? <;> rfl
 ·rw [if_neg h, if_neg h]
section
variable {K : PySem.W.Frag} {ρ : En} {C C1 C2 C3 : Cs} {tl te : TE}
def sgn (c : Nat) : Str := ⟨#[c]⟩
end
def sL (l : List Nat) : Str := ⟨l.toArray⟩
theorem zV (l : List Nat) : (sL l).cps.toList = l := by simp [sL]
theorem qM (l : List Nat) : (sL l).length = l.length := by simp [sL, Str.length]
theorem XR {x y : Str} (h : x.cps.toList = y.cps.toList) : x = y := by
 cases x; cases y
 simp only [Str.mk.injEq]
 exact Array.ext' h
theorem zbs (x : Str) : sL x.cps.toList = x := XR (zV _)
theorem zaq (a b : List Nat) : sL a ++ sL b = sL (a ++ b) := XR (by
 show ((sL a).cps ++ (sL b).cps).toList = _
 rw [Array.toList_append, zV, zV, zV])
theorem W0 (c : Nat) : sgn c = sL [c] := rfl
theorem zaZ (l : List Nat) (lo hi : Option Int) : cutS (sL l) lo hi = sL ((l.drop (HT.sIx l.length 0 lo)).take (HT.sIx l.length l.length hi - HT.sIx l.length 0 lo)) := by
 unfold cutS
 rw [zV, qM]; rfl
theorem Ju : ∀ parts : List (List Nat), TL.joinL [] parts = parts.flatten
 | [] => rfl
 | [p] => by simp [TL.joinL]
 | p :: q :: r => by
  unfold TL.joinL
  rw [Ju (q :: r)]; rfl
theorem Yh (parts : List (List Nat)) : Txt.join "" (parts.map sL) = sL parts.flatten := by
 rw [TL.join_eq]
 apply XR
 have := TL.tl_join (Str.ofString "") (parts.map sL)
 have e : TL.tl (Str.ofString "") = [] := by decide +kernel
 rw [e, Ju] at this
 rw [zV]
 have h2 : (parts.map sL).map TL.tl = parts := by
  rw [List.map_map]
  conv => rhs; rw [← List.map_id parts]
  apply List.map_congr_left
  intro a _
  exact zV a
 rw [h2] at this
 exact this
def TOk (x : Str) : Prop := ∀ c ∈ x.cps.toList, c < 1114112
theorem TOk.lay {x : Str} (h : TOk x) : (PyData.str x).canLay0 = true := by
 unfold PyData.canLay0 PyData.strOk
 rw [Array.all_eq_true']
 intro c hc
 exact decide_eq_true (h c (Array.mem_toList_iff.mpr hc))
section
variable {K : PySem.W.Frag} {C : Cs} {p q : Pd}
mutual
theorem KN : ∀ d : PyData, d.canLay0 = true → PyData.eqv d d = true
 | .none, _ => by simp [PyData.eqv]
 | .bool _, _ => by simp [PyData.eqv]
 | .int _, _ => by simp [PyData.eqv]
 | .str _, _ => by simp [PyData.eqv]
 | .list xs, h => by
  unfold PyData.eqv
  exact eqvAll_self xs (by unfold PyData.canLay0 at h; exact h)
 | .tuple xs, h => by
  unfold PyData.eqv
  exact eqvAll_self xs (by unfold PyData.canLay0 at h; exact h)
 | .dict _, h => by unfold PyData.canLay0 at h; cases h
theorem eqvAll_self : ∀ ds : List PyData, PyData.canLayAll0 ds = true → PyData.eqvAll ds ds = true
 | [], _ => by simp [PyData.eqvAll]
 | d :: ds, h => by
  unfold PyData.canLayAll0 at h
  rw [Bool.and_eq_true] at h
  unfold PyData.eqvAll
  rw [KN d h.1, eqvAll_self ds h.2]; rfl
end
theorem j5 {d : PyData} (h : SeqAt.shaped d = true) : PyData.eqv d d = true := KN d (SeqAt.canLay_of_shaped h)
mutual
def xB : PyData → Bool
 | .none => true
 | .bool _ => false
 | .int _ => true
 | .str _ => true
 | .list xs => plains xs
 | .tuple xs => plains xs
 | .dict _ => false
def plains : List PyData → Bool
 | [] => true
 | d :: ds => xB d && plains ds
end
theorem qX : ∀ {ds : List PyData}, (∀ d ∈ ds, d.canLay0 = true) → PyData.canLayAll0 ds = true
 | [], _ => by simp [PyData.canLayAll0]
 | d :: ds, h => by unfold PyData.canLayAll0; rw [h d List.mem_cons_self, qX (ds := ds) fun x hx => h x (List.mem_cons_of_mem _ hx)]; rfl
theorem Qs : ∀ {ds : List PyData} {n : Nat}, (∀ d ∈ ds, d.depth ≤ n) → PyData.depthAll ds ≤ n
 | [], _, _ => by simp [PyData.depthAll]
 | d :: ds, n, h => by
  unfold PyData.depthAll
  have h1 := h d List.mem_cons_self
  have h2 := Qs (ds := ds) fun x hx => h x (List.mem_cons_of_mem _ hx)
  exact Nat.max_le.mpr ⟨h1, h2⟩
def Shp (n : Nat) (d : PyData) : Prop := d.canLay0 = true ∧ d.depth ≤ n
theorem v9 {n : Nat} {i : Int} : Shp n (.int i) := ⟨by simp [PyData.canLay0], by simp [PyData.depth]⟩
theorem YM {n : Nat} {x : Str} (h : TOk x) : Shp n (.str x) := ⟨h.lay, by simp [PyData.depth]⟩
theorem jc {n : Nat} {ds : List PyData} (h : ∀ d ∈ ds, Shp n d) : Shp (n + 1) (.list ds) := ⟨by unfold PyData.canLay0; exact qX fun d hd => (h d hd).1, by
 have := Qs (ds := ds) (n := n) fun d hd => (h d hd).2
 unfold PyData.depth; omega⟩
theorem JS {n : Nat} {ds : List PyData} (h : ∀ d ∈ ds, Shp n d) : Shp (n + 1) (.tuple ds) := ⟨by unfold PyData.canLay0; exact qX fun d hd => (h d hd).1, by
 have := Qs (ds := ds) (n := n) fun d hd => (h d hd).2
 unfold PyData.depth; omega⟩
theorem ym {n : Nat} {ns : List Int} : ∀ d ∈ ns.map PyData.int, Shp n d := fun d hd => by
 obtain ⟨i, _, rfl⟩ := List.mem_map.mp hd
 exact v9
theorem Shp.shaped {n : Nat} {d : PyData} (h : Shp n d) (hn : n ≤ 64 := by decide) : SeqAt.shaped d = true := by
 unfold SeqAt.shaped
 rw [h.1, decide_eq_true (Nat.le_trans h.2 hn)]; rfl
end
section
variable {K : PySem.W.Frag} {ρ : En} {C C1 C2 C3 : Cs} {tl te to : TE} {ta : TA} {p q : Pd} {M0 : Hp} {D : Ends} {u : TS}
def Dat (K : PySem.W.Frag) (C : Cs) (p : Pd) (d : PyData) : Prop := p = pD K d ∨ ∃ a ds, p = zbk a ∧ C a = some (.lst ds) ∧ d = .list ds
theorem Dat.list {M H : Hp} {v : V} {ds : List PyData} (h : Dat K C p (.list ds)) (k : Ok K M C H) (hv : p.p M v) : ∃ a xs, v = .ref a ∧ SqL K H a xs ∧ DpAll K M xs ds := by
 rcases h with rfl | ⟨a, es, rfl, h2, h3⟩
 ·obtain ⟨a, xs, rfl, h1, h2⟩ := zby hv
  exact ⟨a, xs, rfl, k.fz.seq h1, h2⟩
 ·cases h3
  have hv' : v = .ref a := hv
  obtain ⟨xs, h1, h2⟩ := k.lst h2
  exact ⟨a, xs, hv', .inl (.inl h1), h2⟩
theorem Dat.tup {M H : Hp} {v : V} {ds : List PyData} (h : Dat K C p (.tuple ds)) (k : Ok K M C H) (hv : p.p M v) : ∃ a xs, v = .ref a ∧ SqT K M a xs ∧ DpAll K M xs ds := by
 rcases h with rfl | ⟨a, es, rfl, h2, h3⟩
 ·exact za5 hv
 ·cases h3
def isNone : PyData → Bool | .none => true | _ => false
end
section
variable {K : PySem.W.Frag} {ρ : En} {C C1 C2 C3 : Cs} {tl te to t : TE} {ta : TA} {p q : Pd} {M0 : Hp} {D : Ends} {u : TS} {c c' : ZV}
theorem cut_to {α : Type} (l : List α) (m : Nat) : (l.drop (HT.sIx l.length 0 none)).take (HT.sIx l.length l.length (some (m : Int)) - HT.sIx l.length 0 none) = l.take m := by
 rw [HT.sIx_none, HT.sIx_nat, List.drop_zero, Nat.sub_zero]
 by_cases h : m ≤ l.length
 ·rw [Nat.min_eq_left h]
 ·rw [Nat.min_eq_right (by omega), List.take_length, List.take_of_length_le (by omega)]
end
theorem Sub.none {C C1 : Cs} {a : Addr} (s : Sub C C1) (h : C1 a = Option.none) : C a = Option.none := by
 cases e : C a with
 | none => rfl
 | some c => rw [s a c e] at h; cases h
def pE (K : PySem.W.Frag) (φ : PyData → Prop) : Pd := ⟨fun M v => ∃ d, φ d ∧ Dp K M v d, fun e ⟨d, h, h'⟩ => ⟨d, h, XQ e h'⟩⟩
def pI (φ : Int → Prop) : Pd := ⟨fun _ v => ∃ i, φ i ∧ v = .int i, fun _ h => h⟩
def zbM (φ : List PyData → Prop) : PyData → Prop := fun d => ∃ ds, d = .list ds ∧ φ ds
def pZ : Pd := pI fun _ => True
def wQ : ZV := .lstP [pZ]
def EwE (K : PySem.W.Frag) (t : TE) (ρ : En) (C : Cs) (Φ : ZV → Prop) (C' : Cs) : Prop := ∀ (σ : L2.St) (H M : Hp) (Q : VK), EnvOk M ρ σ → Ok K M C H → (∀ a c H' M', Same M M' → Φ c → C' a = none → Ok K M' (qO C' a c) H' → Q (.ref a) H') → t σ H Q
section
variable {K : PySem.W.Frag} {M0 : Hp} {t u : TS} {te ta tb : TE} {D : Ends} {ρ ρ' : En} {C C1 C2 C' : Cs} {p q s : Pd} {c : ZV} {φ ψ : PyData → Prop} {f g : Int → Prop}
theorem EwE.list {Φ : ZV → Prop} {φ : List PyData → Prop} (h : EwE K te ρ C Φ C') (m : ∀ c, Φ c → ∃ ds, c = .lst ds ∧ φ ds) : Ec K te ρ C (pE K (zbM φ)) C' := fun σ H M Q e k z => h σ H M Q e k fun a c H' M' s hc n k' => by
 obtain ⟨ds, rfl, hds⟩ := m c hc
 obtain ⟨o, h1, h2, h3, h4⟩ := k'.freeze n
 cases o <;> first | exact False.elim h2 | skip
 rename_i xs
 exact z (.ref a) H' _ (s.trans h3) h4 ⟨_, ⟨ds, rfl, hds⟩, Dp.lst (.inl (.inl upd_same)) (dpAll_mono h3 h2)⟩
theorem EwE.map {Φ Ψ : ZV → Prop} (h : EwE K te ρ C Φ C') (m : ∀ c, Φ c → Ψ c) : EwE K te ρ C Ψ C' := fun σ H M Q e k z => h σ H M Q e k fun a c H' M' s hc n k' => z a c H' M' s (m c hc) n k'
theorem Rt.imp {R : VK} (h : Rt K M0 R p C) (m : ∀ M v, q.p M v → p.p M v) : Rt K M0 R q C := fun v H M s o hv => h v H M s o (m M v hv)
theorem Ok.recell {M H : Hp} {a : Addr} {o : HO} (k : Ok K M C H) (hM : M a = none) (hH : H a = some o) (ho : qK K M c o) : Ok K M (qO C a c) H := ⟨k.fz, fun b d e => by
 by_cases hb : b = a
 ·subst hb; rw [ZW] at e; cases e; exact ⟨hM, o, hH, ho⟩
 ·rw [XJ hb] at e; exact k.cs b d e⟩
theorem Ok.shut {M H : Hp} {a : Addr} {i : Int} (k : Ok K M (qO C a (.lst [.int i])) H) (h : C a = some wQ) : Ok K M C H := by
 obtain ⟨hM, o, h1, h2⟩ := k.cs a _ ZW
 cases o <;> first | exact False.elim h2 | skip
 rename_i xs
 have e : xs = [.int i] := ju (ns := [i]) h2
 subst e
 have := k.recell (c := wQ) hM h1 (show JD M [pZ] [.int i] from ⟨⟨i, trivial, rfl⟩, trivial⟩)
 rw [Jf, V1 h] at this
 exact this
theorem Rt.open {R : VK} {a : Addr} {i : Int} (k : Rt K M0 R p C) (h : C a = some wQ) : Rt K M0 R p (qO C a (.lst [.int i])) := fun v H M s o hv => k v H M s (o.shut h) hv
theorem RtW.imp {R : VK} {c' : ZV} (k : RtW K M0 R c C) (m : ∀ M o, qK K M c' o → qK K M c o) : RtW K M0 R c' C := fun a H M s n o => k a H M s n (by
 obtain ⟨hM, ob, h1, h2⟩ := o.cs a _ ZW
 have := o.recell (c := c) hM h1 (m M ob h2)
 rw [Jf] at this
 exact this)
theorem set_self {i : Nat} (hq : ρ[i]? = some (some p)) : ρ.set i (some p) = ρ := by
 apply List.ext_getElem?
 intro j
 by_cases hj : j = i
 ·subst hj
  rw [hq, List.getElem?_set]
  have hl : j < ρ.length := by
   rcases Nat.lt_or_ge j ρ.length with h | h
   ·exact h
   ·rw [List.getElem?_eq_none h] at hq; cases hq
  rw [if_pos rfl, if_pos hl]
 ·rw [List.getElem?_set_ne (Ne.symm hj)]
end
def dT (T : List (Int × Int)) : List (Key × PyData) := T.map fun p => (Sum.inl p.1, PyData.int p.2)
def vT (T : List (Int × Int)) : List (Key × V) := T.map fun p => (Sum.inl p.1, V.int p.2)
theorem km {K : PySem.W.Frag} {M : Hp} : ∀ {T : List (Int × Int)} {kvs : List (Key × V)}, jk K M (dT T) kvs → kvs = vT T
 | [], [], _ => rfl
 | (k, v) :: T, (k', x) :: kvs, ⟨h1, h2, h3⟩ => by
  have e := km (T := T) (kvs := kvs) h3
  have := zbE h2
  subst this
  rw [e, h1]; rfl
 | [], _ :: _, h => False.elim h
 | _ :: _, [], h => False.elim h
def DDat (K : PySem.W.Frag) (C : Cs) (p : Pd) (T : List (Int × Int)) : Prop := p = zbi K (dT T) ∨ ∃ a, p = zbk a ∧ C a = some (.dic (dT T))
section
variable {K : PySem.W.Frag} {M0 : Hp} {t u : TS} {te td ty tv : TE} {D : Ends} {ρ ρ' : En} {C C1 C2 C3 C' : Cs} {p q s : Pd} {T S : List (Int × Int)}
theorem DDat.get {M H : Hp} {v : V} (h : DDat K C p T) (k : Ok K M C H) (hv : p.p M v) : ∃ a, v = .ref a ∧ H a = some (.dK (vT T)) := by
 rcases h with rfl | ⟨a, rfl, h⟩
 ·obtain ⟨a, kvs, rfl, h1, h2⟩ := hv
  have := km h2
  subst this
  exact ⟨a, rfl, k.fz _ _ h1⟩
 ·obtain ⟨kvs, h1, h2⟩ := k.dic h
  have := km h2
  subst this
  exact ⟨a, hv, h1⟩
def keysT (T : List (Int × Int)) : List Int := PySem.W.sortI (T.map (·.1))
end
def EcN (K : PySem.W.Frag) (t : TE) (ρ : En) (C : Cs) (Φ : PyData → Cs → Prop) : Prop := ∀ (σ : L2.St) (H M : Hp) (Q : VK), EnvOk M ρ σ → Ok K M C H → (∀ v d C' H' M', Same M M' → Φ d C' → Ok K M' C' H' → Dp K M' v d → Q v H') → t σ H Q
section
variable {K : PySem.W.Frag} {M0 : Hp} {t u : TS} {te td ty tv to : TE} {ta : TA} {D : Ends} {ρ ρ' : En} {C C1 C2 C3 C' : Cs} {p q : Pd} {ps : List Pd} {f : Int → Prop} {T : List (Int × Int)}
theorem EcN.map {Φ Ψ : PyData → Cs → Prop} (h : EcN K te ρ C Φ) (m : ∀ d C', Φ d C' → Ψ d C') : EcN K te ρ C Ψ := fun σ H M Q e k z => h σ H M Q e k fun v d C' H' M' s hd k' hv => z v d C' H' M' s (m d C' hd) k' hv
end
theorem pe_bmK {X : Cx} {o e : Expr} {es : List Expr} {to : TE} {t : TA} {name : Str} {apos cpos : Pos} {T id : String} {r : V → List V → Hp → VK → Prop} (K : PySem.W.Frag) (hK : X.K = K)
  (pa : PlainAttrs T) (slot : Slot T name id) (hty : typeOf (.builtin id) = pure (.type "method_descriptor")) (hm : MtR X id r) (ho : PE X o to) (ha : PA X (e :: es) t)
  (hbase : attributeBase o name X.env (eval o X.env) = eval o X.env := by rfl)
  (hfew : ((backTo cpos (starEach (e :: es) X.env)).all (fun x => !x.1) && (backToKw cpos (keywordEach [] X.env)).all (fun x => x.1.isSome)
   && decide ((e :: es).length + ([] : List Keyword).length + (if ([] : List Keyword).isEmpty then 0 else 1) < 30)) = true := by rfl)
  (hline : (apos.endLine == cpos.line) = true := by rfl) (hs : starEach (e :: es) X.env = (false, eval e X.env) :: starEach es X.env := by rfl) (hplain : (backTo cpos (starEach es X.env)).any (·.1) = false := by rfl) :
  PE X (.Call (.Attribute o name apos) (e :: es) [] cpos) (tBM K T r to t) := by
 subst hK
 exact pe_bm pa slot hty hm ho ha hbase hfew hline hs hplain
def XdOk (M : Hp) : Option (Str × Pd) → Option Addr → Prop
 | none, none => True
 | some (f, p), some dd => ∃ v, M dd = some (.xd [(f, v)]) ∧ p.p M v
 | _, _ => False
theorem XdOk.mono {M M' : Hp} (e : Same M M') : ∀ {fo : Option (Str × Pd)} {d : Option Addr}, XdOk M fo d → XdOk M' fo d
 | none, none, _ => trivial
 | some (_, p), some _, ⟨v, h1, h2⟩ => ⟨v, e _ _ h1, p.mono e h2⟩
 | none, some _, h => False.elim h
 | some _, none, h => False.elim h
inductive Out where
 | val (p : Pd) (C : Cs)
 | cell (c : ZV) (C : Cs)
 | err (cls : Value) (fo : Option (Str × Pd)) (C : Cs)
def xU (K : PySem.W.Frag) (x : Str) : Value := match PySem.W.nsIn K mainGlobals x with
 | some (some v) => v
 | _ => .none
section
variable {P : Program} {w : World} {K : PySem.W.Frag} {mg : Str → Option Value} {base : Heap} {γ : Type} {A : γ → List Pd} {pre : γ → Cs → Prop} {out : γ → Cs → Out} {ρ : En} {C C1 C2 : Cs} {ta : TA} {E : XK} {M0 : Hp} {D : Ends} {p : Pd} {c : ZV} {cls : Value} {fo : Option (Str × Pd)}
def Wx (K : PySem.W.Frag) (M0 : Hp) (W : WX) (ρ : En) (cls : Value) (fo : Option (Str × Pd)) (C : Cs) : Prop := ∀ (d : Option Addr) (σ : L2.St) (H M : Hp), Same M0 M → EnvOk M ρ σ → Ok K M C H → XdOk M fo d → W cls d σ H
end
def XdH (H : Hp) (d : Option Addr) : Prop := d = none ∨ ∃ dd fs, d = some dd ∧ H dd = some (.xd fs)
theorem XdOk.h {K : PySem.W.Frag} {M H : Hp} {C : Cs} (k : Ok K M C H) : ∀ {fo : Option (Str × Pd)} {d : Option Addr}, XdOk M fo d → XdH H d
 | none, none, _ => .inl rfl
 | some _, some dd, ⟨v, h1, _⟩ => .inr ⟨dd, _, rfl, k.fz _ _ h1⟩
 | none, some _, h => False.elim h
 | some _, none, h => False.elim h
end Fz
namespace Vm
open PySem PySem.Spec PyProof.Rows L2 Fz
abbrev D := PyData
def kD : Key → D
 | .inl i => .int i
 | .inr x => .str x
def cst : List D → Bool
 | [.int 0, .int 0, .int 0, .int 0] => true
 | [.int 8, .int 12, .int 16] => true
 | _ => false
mutual
inductive Rp (K : PySem.W.Frag) (M : Hp) : V → D → Prop
 | non : Rp K M .non .none
 | bl (b : Bool) : Rp K M (.bl b) (.bool b)
 | int (i : Int) : Rp K M (.int i) (.int i)
 | str (x : Str) : Rp K M (.str x) (.str x)
 | lst {a : Addr} {xs : List V} {ds : List D} : M a = some (.lst xs) → Rps K M xs ds → Rp K M (.ref a) (.list ds)
 | tup {a : Addr} {xs : List V} {ds : List D} : M a = some (.tup xs) → Rps K M xs ds → Rp K M (.ref a) (.tuple ds)
 | tupK {a : Addr} {xs : List V} {ds : List D} : (∀ H, SqT K H a xs) → cst ds = true → Rps K M xs ds → Rp K M (.ref a) (.tuple ds)
 | dic {a : Addr} {kvs : List (Key × V)} {kds : List (D × D)} : Rd M a (.dK kvs) → kvs.map (fun p => kD p.1) = kds.map (·.1) → Rps K M (kvs.map (·.2)) (kds.map (·.2)) → Rp K M (.ref a) (.dict kds)
 | diT {a : Addr} {kvs : List (List Key × V)} {kds : List (D × D)} : Rd M a (.dT kvs) → kvs.map (fun p => PyData.tuple (p.1.map kD)) = kds.map (·.1) → Rps K M (kvs.map (·.2)) (kds.map (·.2)) → Rp K M (.ref a) (.dict kds)
 | tupN {a : Addr} {o : Obj} {xs : List V} {ds : List D} : M a = some (.frz o (.tup xs)) → o.cls = .type "tuple" ∧ o.dict = none → Rps K M xs ds → Rp K M (.ref a) (.dict [(.list [], .list ds)])
 | adr (a : Addr) : Rp K M (.ref a) (.dict [(.list [], .int (Int.ofNat a))])
 | ins {a C dx : Addr} {c : Str} {fs : List (Str × V)} {kds : List (D × D)} : M a = some (.ins C dx fs) → xU K c = .ref C → fs.map (fun p => PyData.str p.1) = kds.map (·.1) → Rps K M (fs.map (·.2)) (kds.map (·.2)) → Rp K M (.ref a) (.dict ((.none, .str c) :: (.none, .none) :: kds))
inductive Rps (K : PySem.W.Frag) (M : Hp) : List V → List D → Prop
 | nil : Rps K M [] []
 | cons {v : V} {d : D} {vs : List V} {ds : List D} : Rp K M v d → Rps K M vs ds → Rps K M (v :: vs) (d :: ds)
end
structure Lq (K : PySem.W.Frag) (M M' : Hp) : Prop where
 l : ∀ a xs, M a = some (.lst xs) → M' a = some (.lst xs)
 t : ∀ a xs, M a = some (.tup xs) → M' a = some (.tup xs)
 k : ∀ a kvs, Rd M a (.dK kvs) → Rd M' a (.dK kvs)
 e : ∀ a kvs, Rd M a (.dT kvs) → Rd M' a (.dT kvs)
 n : ∀ a o xs, M a = some (.frz o (.tup xs)) → M' a = some (.frz o (.tup xs))
 i : ∀ a C dx fs, M a = some (.ins C dx fs) → M' a = some (.ins C dx fs)
theorem QF {M M' : Hp} (s : Same M M') {a : Addr} {u : HO} (h : Rd M a u) : Rd M' a u := by
 rcases h with h | ⟨o, h⟩
 ·exact .inl (s _ _ h)
 ·exact .inr ⟨o, s _ _ h⟩
theorem Lq.of {K : PySem.W.Frag} {M M' : Hp} (s : Same M M') : Lq K M M' := ⟨fun _ _ h => s _ _ h, fun _ _ h => s _ _ h, fun _ _ h => QF s h, fun _ _ h => QF s h, fun _ _ _ h => s _ _ h, fun _ _ _ _ h => s _ _ h⟩
section
variable {K : PySem.W.Frag} {M M' H : Hp}
mutual
theorem Rp.lq (s : Lq K M M') : ∀ {v : V} {d : D}, Rp K M v d → Rp K M' v d
 | _, _, .non => .non
 | _, _, .bl b => .bl b
 | _, _, .int i => .int i
 | _, _, .str x => .str x
 | _, _, .lst h t => .lst (s.l _ _ h) (Rps.lq s t)
 | _, _, .tup h t => .tup (s.t _ _ h) (Rps.lq s t)
 | _, _, .tupK h c t => .tupK h c (Rps.lq s t)
 | _, _, .dic h e t => .dic (s.k _ _ h) e (Rps.lq s t)
 | _, _, .diT h e t => .diT (s.e _ _ h) e (Rps.lq s t)
 | _, _, .tupN h c t => .tupN (s.n _ _ _ h) c (Rps.lq s t)
 | _, _, .adr a => .adr a
 | _, _, .ins h c e t => .ins (s.i _ _ _ _ h) c e (Rps.lq s t)
theorem Rps.lq (s : Lq K M M') : ∀ {vs : List V} {ds : List D}, Rps K M vs ds → Rps K M' vs ds
 | _, _, .nil => .nil
 | _, _, .cons h t => .cons (Rp.lq s h) (Rps.lq s t)
end
theorem Rp.mono (s : Same M M') {v : V} {d : D} (h : Rp K M v d) : Rp K M' v d := h.lq (.of s)
theorem Rps.mono (s : Same M M') {v : List V} {d : List D} (h : Rps K M v d) : Rps K M' v d := h.lq (.of s)
theorem Rps.length : ∀ {vs : List V} {ds : List D}, Rps K M vs ds → vs.length = ds.length
 | _, _, .nil => rfl
 | _, _, .cons _ t => by rw [List.length_cons, List.length_cons, t.length]
theorem Rps.get : ∀ {vs : List V} {ds : List D} {i : Nat} {d : D}, Rps K M vs ds → ds[i]? = some d → ∃ v, vs[i]? = some v ∧ Rp K M v d
 | _, _, i, _, .nil, e => by simp at e
 | _, _, 0, _, .cons h _, e => by simp at e; subst e; exact ⟨_, rfl, h⟩
 | _, _, i + 1, d, .cons _ t, e => Rps.get (i := i) t e
theorem Rps.append : ∀ {vs ws : List V} {ds es : List D}, Rps K M vs ds → Rps K M ws es → Rps K M (vs ++ ws) (ds ++ es)
 | _, _, _, _, .nil, h => h
 | _, _, _, _, .cons a t, h => .cons a (Rps.append t h)
theorem Rps.take : ∀ {vs : List V} {ds : List D} (n : Nat), Rps K M vs ds → Rps K M (vs.take n) (ds.take n)
 | _, _, 0, _ => by rw [List.take_zero, List.take_zero]; exact .nil
 | _, _, _ + 1, .nil => .nil
 | _, _, n + 1, .cons a t => .cons a (Rps.take n t)
theorem Rps.drop : ∀ {vs : List V} {ds : List D} (n : Nat), Rps K M vs ds → Rps K M (vs.drop n) (ds.drop n)
 | _, _, 0, h => h
 | _, _, _ + 1, .nil => .nil
 | _, _, n + 1, .cons _ t => Rps.drop n t
theorem Rps.set {v : V} {d : D} (hv : Rp K M v d) : ∀ {vs : List V} {ds : List D} (n : Nat), Rps K M vs ds → Rps K M (vs.set n v) (ds.set n d)
 | _, _, _, .nil => .nil
 | _, _, 0, .cons _ t => .cons hv t
 | _, _, n + 1, .cons a t => .cons a (Rps.set hv n t)
theorem Rps.erase : ∀ {vs : List V} {ds : List D} (n : Nat), Rps K M vs ds → Rps K M (vs.eraseIdx n) (ds.eraseIdx n)
 | _, _, _, .nil => .nil
 | _, _, 0, .cons _ t => t
 | _, _, n + 1, .cons a t => .cons a (Rps.erase n t)
theorem Rps.reverse : ∀ {vs : List V} {ds : List D}, Rps K M vs ds → Rps K M vs.reverse ds.reverse
 | _, _, .nil => .nil
 | _, _, .cons a t => by rw [List.reverse_cons, List.reverse_cons]; exact Rps.append (Rps.reverse t) (.cons a .nil)
end
inductive R1 (K : PySem.W.Frag) (H M : Hp) : V → D → Prop
 | non : R1 K H M .non .none
 | bl (b : Bool) : R1 K H M (.bl b) (.bool b)
 | int (i : Int) : R1 K H M (.int i) (.int i)
 | str (x : Str) : R1 K H M (.str x) (.str x)
 | lst {a : Addr} {xs : List V} {ds : List D} : H a = some (.lst xs) → Rps K M xs ds → R1 K H M (.ref a) (.list ds)
 | tup {a : Addr} {xs : List V} {ds : List D} : M a = some (.tup xs) → Rps K M xs ds → R1 K H M (.ref a) (.tuple ds)
 | tupK {a : Addr} {xs : List V} {ds : List D} : (∀ H, SqT K H a xs) → cst ds = true → Rps K M xs ds → R1 K H M (.ref a) (.tuple ds)
 | dic {a : Addr} {kvs : List (Key × V)} {kds : List (D × D)} : Rd H a (.dK kvs) → kvs.map (fun p => kD p.1) = kds.map (·.1) → Rps K M (kvs.map (·.2)) (kds.map (·.2)) → R1 K H M (.ref a) (.dict kds)
 | diT {a : Addr} {kvs : List (List Key × V)} {kds : List (D × D)} : Rd H a (.dT kvs) → kvs.map (fun p => PyData.tuple (p.1.map kD)) = kds.map (·.1) → Rps K M (kvs.map (·.2)) (kds.map (·.2)) → R1 K H M (.ref a) (.dict kds)
 | tupN {a : Addr} {o : Obj} {xs : List V} {ds : List D} : M a = some (.frz o (.tup xs)) → o.cls = .type "tuple" ∧ o.dict = none → Rps K M xs ds → R1 K H M (.ref a) (.dict [(.list [], .list ds)])
 | adr (a : Addr) : R1 K H M (.ref a) (.dict [(.list [], .int (Int.ofNat a))])
 | ins {a C dx : Addr} {c : Str} {fs : List (Str × V)} {kds : List (D × D)} : H a = some (.ins C dx fs) → xU K c = .ref C → fs.map (fun p => PyData.str p.1) = kds.map (·.1) → Rps K M (fs.map (·.2)) (kds.map (·.2)) → R1 K H M (.ref a) (.dict ((.none, .str c) :: (.none, .none) :: kds))
section
variable {K : PySem.W.Frag} {M M' H H' : Hp} {v : V} {d : D}
theorem Rp.r1 (s : Same M H) (h : Rp K M v d) : R1 K H M v d := by
 cases h with
 | non => exact .non
 | bl b => exact .bl b
 | int i => exact .int i
 | str x => exact .str x
 | lst h t => exact .lst (s _ _ h) t
 | tup h t => exact .tup h t
 | tupK h c t => exact .tupK h c t
 | dic h e t => exact .dic (QF s h) e t
 | diT h e t => exact .diT (QF s h) e t
 | tupN h c t => exact .tupN h c t
 | adr a => exact .adr a
 | ins h c e t => exact .ins (s _ _ h) c e t
theorem R1.mono (s : Same H H') (s' : Same M M') (h : R1 K H M v d) : R1 K H' M' v d := by
 cases h with
 | non => exact .non
 | bl b => exact .bl b
 | int i => exact .int i
 | str x => exact .str x
 | lst h t => exact .lst (s _ _ h) (t.mono s')
 | tup h t => exact .tup (s' _ _ h) (t.mono s')
 | tupK h c t => exact .tupK h c (t.mono s')
 | dic h e t => exact .dic (QF s h) e (t.mono s')
 | diT h e t => exact .diT (QF s h) e (t.mono s')
 | tupN h c t => exact .tupN (s' _ _ h) c (t.mono s')
 | adr a => exact .adr a
 | ins h c e t => exact .ins (s _ _ h) c e (t.mono s')
theorem R1.lq (s : Lq K H H') (s' : Lq K M M') (h : R1 K H M v d) : R1 K H' M' v d := by
 cases h with
 | non => exact .non
 | bl b => exact .bl b
 | int i => exact .int i
 | str x => exact .str x
 | lst h t => exact .lst (s.l _ _ h) (t.lq s')
 | tup h t => exact .tup (s'.t _ _ h) (t.lq s')
 | tupK h c t => exact .tupK h c (t.lq s')
 | dic h e t => exact .dic (s.k _ _ h) e (t.lq s')
 | diT h e t => exact .diT (s.e _ _ h) e (t.lq s')
 | tupN h c t => exact .tupN (s'.n _ _ _ h) c (t.lq s')
 | adr a => exact .adr a
 | ins h c e t => exact .ins (s.i _ _ _ _ h) c e (t.lq s')
theorem R1.all (s : Same M H) (h : R1 K H M v d) : Rp K H v d := by
 cases h with
 | non => exact .non
 | bl b => exact .bl b
 | int i => exact .int i
 | str x => exact .str x
 | lst h t => exact .lst h (t.mono s)
 | tup h t => exact .tup (s _ _ h) (t.mono s)
 | tupK h c t => exact .tupK h c (t.mono s)
 | dic h e t => exact .dic h e (t.mono s)
 | diT h e t => exact .diT h e (t.mono s)
 | tupN h c t => exact .tupN (s _ _ h) c (t.mono s)
 | adr a => exact .adr a
 | ins h c e t => exact .ins h c e (t.mono s)
end
def mkC (d : D) : D := .dict [(.none, d)]
def zam : D → Bool
 | .dict [(.none, _)] => true
 | _ => false
mutual
inductive TrC (K : PySem.W.Frag) (M H : Hp) : V → D → List Addr → Prop
 | fz {v : V} {d : D} : Rp K M v d → zam d = false → TrC K M H v d []
 | ow {a : Addr} {d : D} {F : List Addr} : TrO K M H a d F → TrC K M H (.ref a) (mkC d) F
inductive TrO (K : PySem.W.Frag) (M H : Hp) : Addr → D → List Addr → Prop
 | lst {a : Addr} {xs : List V} {ds : List D} {F : List Addr} : H a = some (.lst xs) → TrCs K M H xs ds F → TrO K M H a (.list ds) (a :: F)
 | dic {a : Addr} {kvs : List (Key × V)} {kds : List (D × D)} {F : List Addr} : H a = some (.dK kvs) → kvs.map (fun p => kD p.1) = kds.map (·.1) → TrCs K M H (kvs.map (·.2)) (kds.map (·.2)) F → TrO K M H a (.dict kds) (a :: F)
 | tup {a : Addr} {xs : List V} {ds : List D} {F : List Addr} : M a = some (.tup xs) → TrCs K M H xs ds F → TrO K M H a (.tuple ds) F
 | ins {a C dx : Addr} {c : Str} {fs : List (Str × V)} {kds : List (D × D)} {F : List Addr} : H a = some (.ins C dx fs) → H dx = some (.own a) → xU K c = .ref C → fs.map (fun p => PyData.str p.1) = kds.map (·.1) → TrCs K M H (fs.map (·.2)) (kds.map (·.2)) F → TrO K M H a (.dict ((.none, .str c) :: (.none, .none) :: kds)) (a :: dx :: F)
inductive TrCs (K : PySem.W.Frag) (M H : Hp) : List V → List D → List Addr → Prop
 | nil : TrCs K M H [] [] []
 | cons {v : V} {d : D} {vs : List V} {ds : List D} {F G : List Addr} : TrC K M H v d F → TrCs K M H vs ds G → TrCs K M H (v :: vs) (d :: ds) (F ++ G)
end
section
variable {K : PySem.W.Frag} {M M' H H' : Hp}
theorem zbB {k : Key} : kD k ≠ .none := by cases k <;> exact fun h => nomatch h
mutual
theorem TrC.uniq (s : Lq K M M') : ∀ {v : V} {d : D} {F G : List Addr}, TrC K M H v d F → TrC K M' H v d G → F = G
 | _, _, _, _, .fz _ _, .fz _ _ => rfl
 | _, _, _, _, .fz _ h, .ow _ => nomatch h
 | _, _, _, _, .ow _, .fz _ h => nomatch h
 | _, _, _, _, .ow h, .ow g => TrO.uniq s h g
theorem TrO.uniq (s : Lq K M M') : ∀ {a : Addr} {d : D} {F G : List Addr}, TrO K M H a d F → TrO K M' H a d G → F = G
 | _, _, _, _, .lst h t, .lst g u => by rw [h] at g; cases g; rw [TrCs.uniq s t u]
 | _, _, _, _, .dic h e t, .dic g f u => by rw [h] at g; cases g; rw [TrCs.uniq s t u]
 | _, _, _, _, .tup h t, .tup g u => by rw [s.t _ _ h] at g; cases g; rw [TrCs.uniq s t u]
 | _, _, _, _, .ins h h2 h3 e t, .ins g g2 g3 f u => by rw [h] at g; cases g; rw [TrCs.uniq s t u]
 | _, _, _, _, .dic h e t, .ins g g2 g3 f u => by rw [h] at g; cases g
 | _, _, _, _, .ins g g2 g3 f u, .dic h e t => by rw [h] at g; cases g
theorem TrCs.uniq (s : Lq K M M') : ∀ {vs : List V} {ds : List D} {F G : List Addr}, TrCs K M H vs ds F → TrCs K M' H vs ds G → F = G
 | _, _, _, _, .nil, .nil => rfl
 | _, _, _, _, .cons h t, .cons g u => by rw [TrC.uniq s h g, TrCs.uniq s t u]
end
mutual
theorem TrC.lq (s : Lq K M M') : ∀ {v : V} {d : D} {F : List Addr}, TrC K M H v d F → (∀ x ∈ F, ∀ o, H x = some o → H' x = some o) → TrC K M' H' v d F
 | _, _, _, .fz h i, _ => .fz (h.lq s) i
 | _, _, _, .ow h, k => .ow (TrO.lq s h k)
theorem TrO.lq (s : Lq K M M') : ∀ {a : Addr} {d : D} {F : List Addr}, TrO K M H a d F → (∀ x ∈ F, ∀ o, H x = some o → H' x = some o) → TrO K M' H' a d F
 | _, _, _, .lst h t, k => .lst (k _ (List.mem_cons_self) _ h) (TrCs.lq s t fun x hx => k x (List.mem_cons_of_mem _ hx))
 | _, _, _, .dic h e t, k => .dic (k _ (List.mem_cons_self) _ h) e (TrCs.lq s t fun x hx => k x (List.mem_cons_of_mem _ hx))
 | _, _, _, .tup h t, k => .tup (s.t _ _ h) (TrCs.lq s t k)
 | _, _, _, .ins h h2 h3 e t, k => .ins (k _ (List.mem_cons_self) _ h) (k _ (List.mem_cons_of_mem _ List.mem_cons_self) _ h2) h3 e (TrCs.lq s t fun x hx => k x (List.mem_cons_of_mem _ (List.mem_cons_of_mem _ hx)))
theorem TrCs.lq (s : Lq K M M') : ∀ {vs : List V} {ds : List D} {F : List Addr}, TrCs K M H vs ds F → (∀ x ∈ F, ∀ o, H x = some o → H' x = some o) → TrCs K M' H' vs ds F
 | _, _, _, .nil, _ => .nil
 | _, _, _, .cons h t, k => .cons (TrC.lq s h fun x hx => k x (List.mem_append_left _ hx)) (TrCs.lq s t fun x hx => k x (List.mem_append_right _ hx))
end
def TrK : HO → Prop
 | .lst _ => True
 | .dK _ => True
 | .ins _ _ _ => True
 | .own _ => True
 | _ => False
mutual
theorem TrC.cell : ∀ {v : V} {d : D} {F : List Addr}, TrC K M H v d F → ∀ x ∈ F, ∃ o, H x = some o ∧ TrK o
 | _, _, _, .fz _ _, x, h => nomatch h
 | _, _, _, .ow h, x, hx => TrO.cell h x hx
theorem TrO.cell : ∀ {a : Addr} {d : D} {F : List Addr}, TrO K M H a d F → ∀ x ∈ F, ∃ o, H x = some o ∧ TrK o
 | _, _, _, .lst h t, x, hx => by
  rcases List.mem_cons.mp hx with rfl | hx
  ·exact ⟨_, h, trivial⟩
  ·exact TrCs.cell t x hx
 | _, _, _, .dic h e t, x, hx => by
  rcases List.mem_cons.mp hx with rfl | hx
  ·exact ⟨_, h, trivial⟩
  ·exact TrCs.cell t x hx
 | _, _, _, .tup h t, x, hx => TrCs.cell t x hx
 | _, _, _, .ins h h2 h3 e t, x, hx => by
  rcases List.mem_cons.mp hx with rfl | hx
  ·exact ⟨_, h, trivial⟩
  ·rcases List.mem_cons.mp hx with rfl | hx
   ·exact ⟨_, h2, trivial⟩
   ·exact TrCs.cell t x hx
theorem TrCs.cell : ∀ {vs : List V} {ds : List D} {F : List Addr}, TrCs K M H vs ds F → ∀ x ∈ F, ∃ o, H x = some o ∧ TrK o
 | _, _, _, .nil, x, h => nomatch h
 | _, _, _, .cons h t, x, hx => (List.mem_append.mp hx).elim (TrC.cell h x) (TrCs.cell t x)
end
theorem TrK.nt {o : HO} (h : TrK o) : ∀ ps, o ≠ .tbl ps := fun ps e => by subst e; exact h
end
inductive Fg where | f | b | s | e | l | o (u p : Bool) | q (p : Bool)
 deriving DecidableEq
def OwnK : HO → Prop
 | .lst _ => True
 | .dK _ => True
 | .dT _ => True
 | _ => False
theorem OwnK.mut {o : HO} (h : OwnK o) : Mut (some o) := by cases o <;> first | trivial | exact False.elim h
def OwnO (K : PySem.W.Frag) (M : Hp) : Bool → HO → D → Prop
 | false, .lst xs, .list ds => Rps K M xs ds
 | false, .dK kvs, .dict kds => kvs.map (fun p => kD p.1) = kds.map (·.1) ∧ Rps K M (kvs.map (·.2)) (kds.map (·.2))
 | true, .dT kvs, .dict kds => kvs.map (fun p => PyData.tuple (p.1.map kD)) = kds.map (·.1) ∧ Rps K M (kvs.map (·.2)) (kds.map (·.2))
 | _, _, _ => False
section
variable {K : PySem.W.Frag} {M M' H H' : Hp} {v : V} {d : D} {g : Bool} {o : HO}
theorem OwnO.lq (s : Lq K M M') (h : OwnO K M g o d) : OwnO K M' g o d := by
 cases g <;> cases o <;> cases d <;> first
  | exact False.elim h
  | exact Rps.lq s h
  | exact ⟨h.1, h.2.lq s⟩
theorem OwnO.mono (s : Same M M') (h : OwnO K M g o d) : OwnO K M' g o d := h.lq (.of s)
theorem OwnO.kind (h : OwnO K M g o d) : OwnK o := by
 cases g <;> cases o <;> cases d <;> first
  | exact False.elim h
  | exact trivial
theorem OwnO.mut (h : OwnO K M g o d) : Mut (some o) := by
 cases g <;> cases o <;> cases d <;> first
  | exact False.elim h
  | exact trivial
theorem OwnO.r1 {a : Addr} (ha : H a = some o) (h : OwnO K M g o d) : R1 K H M (.ref a) d := by
 cases g <;> cases o <;> cases d <;> first
  | exact False.elim h
  | exact .lst ha h
  | exact .dic (.inl ha) h.1 h.2
  | exact .diT (.inl ha) h.1 h.2
theorem OwnO.rp {a : Addr} (s : Same M M') (ha : M' a = some o) (h : OwnO K M g o d) : Rp K M' (.ref a) d := by
 cases g <;> cases o <;> cases d <;> first
  | exact False.elim h
  | exact .lst ha (Rps.mono s h)
  | exact .dic (.inl ha) h.1 (h.2.mono s)
  | exact .diT (.inl ha) h.1 (h.2.mono s)
end
def vo : Fg → Bool | .o _ _ => true | _ => false
def SF (K : PySem.W.Frag) (M H : Hp) : Fg → Addr → D → List Addr → Prop
 | .o _ _, a, _, F => F = [a]
 | .q _, a, d, F => TrO K M H a d F
 | _, _, _, _ => False
abbrev Env := List (Option (Fg × D))
structure Bx where
 b : Hp
 p : Nat → Option Addr
 x : Nat → Option (Addr × Value × Option Addr)
 t : List (Addr × Str)
def Bx.at (B : Bx) (T : List (Addr × Str)) : Bx := ⟨B.b, B.p, B.x, T⟩
def TbOk (T : List (Addr × Str)) (W H : Hp) : Prop := (∀ b ps, W b ≠ some (.tbl ps)) ∧ LamX.Tabs T H
def XM (M : Hp) (d : D) (dd : Option Addr) : Prop := match d, dd with
 | .tuple [.str _], none => True
 | .tuple [.str _, .str f, .int n], some q => M q = some (.xd [(f, .int n)])
 | _, _ => False
theorem XM.mono {M M' : Hp} {d : D} {dd : Option Addr} (s : Same M M') (h : XM M d dd) : XM M' d dd := by
 unfold XM at h ⊢
 split at h
 ·trivial
 ·exact s _ _ h
 ·exact False.elim h
def XC (K : PySem.W.Frag) (d : D) (c : Value) : Prop := ∃ n r, d = .tuple (.str n :: r) ∧ xU K n = c
def LkOk (K : PySem.W.Frag) (Bb M : Hp) (v : V) (d : D) : Prop := ∃ (a : Addr) (ob : Obj) (kds : List (D × D)), v = .ref a ∧ d = .dict kds ∧
 ((∃ kvs : List (Key × V), (M a = some (.frz ob (.dK kvs)) ∨ Bb a = some (.frz ob (.dK kvs))) ∧ kvs.map (fun p => kD p.1) = kds.map (·.1) ∧ Rps K M (kvs.map (·.2)) (kds.map (·.2))) ∨
  ∃ kvs : List (List Key × V), (M a = some (.frz ob (.dT kvs)) ∨ Bb a = some (.frz ob (.dT kvs))) ∧ kvs.map (fun p => PyData.tuple (p.1.map kD)) = kds.map (·.1) ∧ Rps K M (kvs.map (·.2)) (kds.map (·.2)))
theorem LkOk.mono {K : PySem.W.Frag} {Bb M M' : Hp} {v : V} {d : D} (s : Same M M') (h : LkOk K Bb M v d) : LkOk K Bb M' v d := by
 obtain ⟨a, ob, kds, rfl, rfl, h⟩ := h
 refine ⟨a, ob, kds, rfl, rfl, ?_⟩
 rcases h with ⟨kvs, h1, h2, h3⟩ | ⟨kvs, h1, h2, h3⟩
 ·exact .inl ⟨kvs, h1.imp (fun h => s _ _ h) id, h2, h3.mono s⟩
 ·exact .inr ⟨kvs, h1.imp (fun h => s _ _ h) id, h2, h3.mono s⟩
theorem LkOk.r1 {K : PySem.W.Frag} {Bb M X : Hp} {v : V} {d : D} (sm : Same M X) (sb : Same Bb X) (h : LkOk K Bb M v d) : R1 K X M v d := by
 obtain ⟨a, ob, kds, rfl, rfl, h⟩ := h
 rcases h with ⟨kvs, h1, h2, h3⟩ | ⟨kvs, h1, h2, h3⟩
 ·exact .dic (.inr ⟨ob, h1.elim (fun h => sm _ _ h) (fun h => sb _ _ h)⟩) h2 h3
 ·exact .diT (.inr ⟨ob, h1.elim (fun h => sm _ _ h) (fun h => sb _ _ h)⟩) h2 h3
def SlOk (K : PySem.W.Frag) (B : Bx) (M W H : Hp) (i : Nat) : Fg → V → D → Prop
 | .f, v, d => Rp K M v d
 | .b, v, d => R1 K B.b M v d
 | .s, v, d => ∃ (a : Addr) (ns : List Int), v = .ref a ∧ SqL K B.b a (ns.map V.int) ∧ d = .list (ns.map PyData.int)
 | .e, v, d => ∃ a c dd, v = .ref a ∧ B.x i = some (a, c, dd) ∧ XC K d c ∧ XM M d dd
 | .l, v, d => (∃ c dd a, v = .ref a ∧ B.x i = some (a, c, dd)) ∧ LkOk K B.b M v d
 | .o u p, v, d => ∃ a o, v = .ref a ∧ H a = some o ∧ OwnO K M u o d ∧ W a = none ∧ (p = true → B.p i = some a)
 | .q p, v, d => ∃ a F, v = .ref a ∧ TrO K M H a d F ∧ F.Nodup ∧ (∀ x ∈ F, W x = none) ∧ (p = true → B.p i = some a)
structure St (K : PySem.W.Frag) (B : Bx) (M W H : Hp) (ρ : Env) (σ : L2.St) : Prop where
 bw : Same B.b W
 mw : Same M W
 wh : Same W H
 ln : ρ.length = σ.length
 sl : ∀ (i : Nat) (g : Fg) (d : D), ρ[i]? = some (some (g, d)) → ∃ v, σ[i]? = some (some v) ∧ SlOk K B M W H i g v d
 sp : ∀ (i j : Nat) (g h : Fg) (d e : D) (a b : Addr) (F G : List Addr), i ≠ j → ρ[i]? = some (some (g, d)) → ρ[j]? = some (some (h, e)) → σ[i]? = some (some (.ref a)) → σ[j]? = some (some (.ref b)) → SF K M H g a d F → SF K M H h b e G → ∀ x ∈ F, x ∉ G
 tb : TbOk B.t W H
inductive Tp where
 | sl (i : Nat)
 | fz (d : D)
 | ow (u : Bool) (d : D)
 | tr (d : D)
def Apart (K : PySem.W.Frag) (M H : Hp) (ρ : Env) (σ : L2.St) (x : Addr) : Prop := ∀ (i : Nat) (g : Fg) (d : D) (a : Addr) (F : List Addr), ρ[i]? = some (some (g, d)) → σ[i]? = some (some (.ref a)) → SF K M H g a d F → x ∉ F
def TpOk (K : PySem.W.Frag) (B : Bx) (M W H : Hp) (ρ : Env) (σ : L2.St) : Tp → V → Prop
 | .sl i, v => σ[i]? = some (some v)
 | .fz d, v => Rp K M v d
 | .ow u d, v => ∃ a o, v = .ref a ∧ H a = some o ∧ OwnO K M u o d ∧ W a = none ∧ Apart K M H ρ σ a
 | .tr d, v => ∃ a F, v = .ref a ∧ TrO K M H a d F ∧ F.Nodup ∧ (∀ x ∈ F, W x = none) ∧ ∀ x ∈ F, Apart K M H ρ σ x
def V3 : HO → Prop
 | .frz _ _ => True
 | .own _ => True
 | o => Mut (some o)
theorem mutF {o : HO} (h : Mut (some o)) : V3 o := by cases o <;> first | trivial | exact h
theorem TrK.mutF {o : HO} (h : TrK o) : V3 o := by cases o <;> first | trivial | exact False.elim h
structure Gr (M W M' W' : Hp) : Prop where
 m : Same M M'
 w : Same W W'
 n : ∀ a o, W a = some o → V3 o → M a = none → M' a = none
theorem Gr.refl (M W : Hp) : Gr M W M W := ⟨Same.refl _, Same.refl _, fun _ _ _ _ h => h⟩
theorem Gr.trans {M W M1 W1 M2 W2 : Hp} (a : Gr M W M1 W1) (b : Gr M1 W1 M2 W2) : Gr M W M2 W2 := ⟨a.m.trans b.m, a.w.trans b.w, fun x o h1 h2 h3 => b.n x o (a.w _ _ h1) h2 (a.n x o h1 h2 h3)⟩
inductive Rz where
 | fz (d : D)
 | ow (u : Bool) (d : D)
 | tr (d : D)
def Rz.tp : Rz → Tp
 | .fz d => .fz d
 | .ow g d => .ow g d
 | .tr d => .tr d
def rdT (ρ : Env) : Tp → Option D
 | .sl i => match ρ[i]? with
  | some (some (.s, _)) => none
  | some (some (.e, _)) => none
  | some (some (.q _, _)) => none
  | some (some (_, d)) => some d
  | _ => none
 | .fz d => some d
 | .ow _ d => some d
 | .tr _ => none
section
variable {K : PySem.W.Frag} {B : Bx} {M W H M' W' H' : Hp} {ρ ρ' : Env} {σ σ' : L2.St} {v : V} {d : D} {g : Fg} {u : Bool} {o : HO} {a : Addr} {tp : Tp} {i : Nat}
theorem St.ne (s : St K B M W H ρ σ) (i j : Nat) (g h : Fg) (d e : D) (a : Addr) (hg : vo g = true) (hh : vo h = true) (e1 : ρ[i]? = some (some (g, d))) (e2 : ρ[j]? = some (some (h, e))) (q1 : σ[i]? = some (some (.ref a))) (q2 : σ[j]? = some (some (.ref a))) : i = j := by
 by_cases hij : i = j
 ·exact hij
 ·have f1 : SF K M H g a d [a] := by cases g <;> first | exact rfl | exact absurd hg Bool.false_ne_true
  have f2 : SF K M H h a e [a] := by cases h <;> first | exact rfl | exact absurd hh Bool.false_ne_true
  exact absurd (List.mem_singleton.mpr rfl) (s.sp i j g h d e a a [a] [a] hij e1 e2 q1 q2 f1 f2 a (List.mem_singleton.mpr rfl))
theorem Apart.ow (ap : Apart K M H ρ σ a) (i : Nat) (g : Fg) (d : D) (hg : vo g = true) (e : ρ[i]? = some (some (g, d))) : σ[i]? ≠ some (some (.ref a)) := fun z => by
 have f1 : SF K M H g a d [a] := by cases g <;> first | exact rfl | exact absurd hg Bool.false_ne_true
 exact ap i g d a [a] e z f1 (List.mem_singleton.mpr rfl)
theorem SlOk.own (hg : vo g = true) (h : SlOk K B M W H i g v d) : ∃ a o u, v = .ref a ∧ H a = some o ∧ OwnO K M u o d ∧ W a = none := by
 cases g with
 | f => exact absurd hg Bool.false_ne_true
 | b => exact absurd hg Bool.false_ne_true
 | s => exact absurd hg Bool.false_ne_true
 | e => exact absurd hg Bool.false_ne_true
 | l => exact absurd hg Bool.false_ne_true
 | o u p => obtain ⟨a, o, h1, h2, h3, h4, _⟩ := h; exact ⟨a, o, u, h1, h2, h3, h4⟩
 | q p => exact absurd hg Bool.false_ne_true
theorem St.cells (s : St K B M W H ρ σ) {F : List Addr} (e : ρ[i]? = some (some (g, d))) (hσ : σ[i]? = some (some (.ref a))) (h : SF K M H g a d F) : ∀ x ∈ F, W x = none ∧ ∃ o, H x = some o ∧ V3 o := by
 obtain ⟨v, h1, h2⟩ := s.sl i g d e
 rw [hσ] at h1; cases h1
 cases g with
 | o u p =>
  cases h
  obtain ⟨a', o, e1, p1, p2, p3, _⟩ := h2
  cases e1
  intro x hx
  rw [List.mem_singleton] at hx; subst hx
  exact ⟨p3, o, p1, mutF p2.mut⟩
 | q p =>
  obtain ⟨a', F', e1, p1, p2, p3, _⟩ := h2
  cases e1
  have := p1.uniq (.of (Same.refl _)) h
  subst this
  intro x hx
  obtain ⟨o, q1, q2⟩ := p1.cell x hx
  exact ⟨p3 x hx, o, q1, q2.mutF⟩
 | _ => exact False.elim h
theorem St.sfBack (s : St K B M W H ρ σ) {F : List Addr} (hm : Lq K M M') (e : ρ[i]? = some (some (g, d))) (hσ : σ[i]? = some (some (.ref a))) (hk : ∀ F0, SF K M H g a d F0 → ∀ x ∈ F0, ∀ o, H x = some o → H' x = some o) (h : SF K M' H' g a d F) : SF K M H g a d F := by
 cases g with
 | o u p => exact h
 | q p =>
  obtain ⟨v, h1, h2⟩ := s.sl i _ d e
  rw [hσ] at h1; cases h1
  obtain ⟨a', F', e1, p1, p2, p3, _⟩ := h2
  cases e1
  have := (TrO.lq hm p1 (hk F' p1)).uniq (.of (Same.refl _)) h
  subst this
  exact p1
 | _ => exact False.elim h
theorem Apart.up {x : Addr} (s : St K B M W H ρ σ) (hm : Lq K M M') (hk : ∀ (i : Nat) (g : Fg) (d : D) (a : Addr) (F : List Addr), ρ[i]? = some (some (g, d)) → σ[i]? = some (some (.ref a)) → SF K M H g a d F → ∀ y ∈ F, ∀ o, H y = some o → H' y = some o) (ap : Apart K M H ρ σ x) : Apart K M' H' ρ σ x := fun i g d a F e hσ h =>
 ap i g d a F e hσ (s.sfBack hm e hσ (fun F0 h0 => hk i g d a F0 e hσ h0) h)
theorem Apart.upN {x : Addr} (s : St K B M W H ρ σ) (hm : Lq K M M') (hh : ∀ y o, W y = none → H y = some o → H' y = some o) (ap : Apart K M H ρ σ x) : Apart K M' H' ρ σ x :=
 ap.up s hm fun i g d a F e hσ h y hy o ho => hh y o (s.cells e hσ h y hy).1 ho
theorem Apart.frz {x : Addr} (s : St K B M W H ρ σ) (hm : Lq K M M') (ap : Apart K M H ρ σ x) : Apart K M' H ρ σ x := ap.upN s hm fun _ _ _ h => h
theorem St.mh (s : St K B M W H ρ σ) : Same M H := s.mw.trans s.wh
theorem SlOk.r1 (s : St K B M W H ρ σ) (hs : g ≠ .s) (he : g ≠ .e) (hq : ∀ p, g ≠ .q p) (h : SlOk K B M W H i g v d) : R1 K H M v d := by
 cases g with
 | s => exact absurd rfl hs
 | e => exact absurd rfl he
 | l => exact h.2.r1 s.mh (s.bw.trans s.wh)
 | f => exact Rp.r1 s.mh h
 | b => exact R1.mono (s.bw.trans s.wh) (Same.refl _) h
 | o u p => obtain ⟨a, o, rfl, h1, h2, _⟩ := h; exact h2.r1 h1
 | q p => exact absurd rfl (hq p)
theorem TpOk.r1 (s : St K B M W H ρ σ) (h : TpOk K B M W H ρ σ tp v) (e : rdT ρ tp = some d) : R1 K H M v d := by
 cases tp with
 | sl i =>
  have h1 : σ[i]? = some (some v) := h
  dsimp only [rdT] at e
  split at e
  ·exact nomatch e
  ·exact nomatch e
  ·exact nomatch e
  ·rename_i g d' hs he hq h2
   cases e
   obtain ⟨v', q1, q2⟩ := s.sl i g d h2
   rw [h1] at q1; cases q1
   exact q2.r1 s (fun z => by subst z; exact hs rfl) (fun z => by subst z; exact he rfl) (fun p z => by subst z; exact hq p rfl)
  ·exact nomatch e
 | fz d' => cases e; exact Rp.r1 s.mh h
 | ow g d' => cases e; obtain ⟨a, o, rfl, h1, h2, _⟩ := h; exact h2.r1 h1
 | tr d' => exact nomatch e
theorem SlOk.up (gr : Gr M W M' W') (h : SlOk K B M W H i g v d) (hh : ∀ a o, W a = none → H a = some o → H' a = some o ∧ W' a = none) : SlOk K B M' W' H' i g v d := by
 cases g with
 | f => exact Rp.mono gr.m h
 | b => exact R1.mono (Same.refl _) gr.m h
 | s => exact h
 | e => first | exact h | (obtain ⟨_, _, _, e1, e2, e0, e3⟩ := h; exact ⟨_, _, _, e1, e2, e0, e3.mono gr.m⟩)
 | l => first | exact h | exact ⟨h.1, h.2.mono gr.m⟩
 | o u p => obtain ⟨a, o, rfl, h1, h2, h3, h4⟩ := h; exact ⟨a, o, rfl, (hh a o h3 h1).1, h2.mono gr.m, (hh a o h3 h1).2, h4⟩
 | q p =>
  obtain ⟨a, F, rfl, h1, h2, h3, h4⟩ := h
  exact ⟨a, F, rfl, h1.lq (.of gr.m) fun x hx o e => (hh x o (h3 x hx) e).1, h2, fun x hx => by obtain ⟨o, q1, _⟩ := h1.cell x hx; exact (hh x o (h3 x hx) q1).2, h4⟩
def NoTb (W : Hp) : Prop := ∀ b ps, W b ≠ some (.tbl ps)
theorem NoTb.upd {W : Hp} (h : NoTb W) (ho : ∀ ps, o ≠ .tbl ps) : NoTb (upd W a o) := fun b ps e => by
 by_cases hb : b = a
 ·rw [hb, upd_same] at e; cases e; exact ho _ rfl
 ·rw [upd_ne hb] at e; exact h _ _ e
theorem OwnK.nt {o : HO} (h : OwnK o) : ∀ ps, o ≠ .tbl ps := fun ps e => by subst e; exact h
theorem TbOk.up {T : List (Addr × Str)} (h : TbOk T W H) (wh : Same W H) (ww : Same W W') (wh' : Same W' H') (nt : NoTb W') (hh : ∀ a o, W a = none → H a = some o → H' a = some o ∧ W' a = none) : TbOk T W' H' := ⟨nt, fun p hp => by
 obtain ⟨ps, h2, h3, h4⟩ := h.2 p hp
 have h1 : W p.1 = none := by
  cases q : W p.1 with
  | none => rfl
  | some o => have e := wh _ _ q; rw [h2] at e; cases e; exact absurd q (h.1 _ _)
 refine ⟨ps, (hh _ _ h1 h2).1, h3, fun pos cv hc => ?_⟩
 obtain ⟨c, e1, e2⟩ := h4 pos cv hc
 refine ⟨c, e1, ?_⟩
 cases q : W c with
 | none => exact (hh _ _ q e2).1
 | some o =>
  have e3 := wh _ _ q
  rw [e2] at e3; cases e3
  exact wh' _ _ (ww _ _ q)⟩
theorem TbOk.turn {T : List (Addr × Str)} {o' : HO} (h : TbOk T W H) (ha : H a = some o) (hm : OwnK o) : TbOk T W (upd H a o') := ⟨h.1, fun p hp => by
 obtain ⟨ps, h2, h3, h4⟩ := h.2 p hp
 have hn : p.1 ≠ a := fun e => by rw [e, ha] at h2; cases h2; exact hm
 refine ⟨ps, by rw [upd_ne hn]; exact h2, h3, fun pos cv hc => ?_⟩
 obtain ⟨c, e1, e2⟩ := h4 pos cv hc
 refine ⟨c, e1, ?_⟩
 have : c ≠ a := fun e => by rw [e, ha] at e2; cases e2; exact hm
 rw [upd_ne this]; exact e2⟩
theorem TbOk.frz {T : List (Addr × Str)} {o' : HO} (h : TbOk T W H) (hn : ∀ ps, o' ≠ .tbl ps) : TbOk T (upd W a o') H := ⟨NoTb.upd h.1 hn, h.2⟩
theorem St.spUp (s : St K B M W H ρ σ) (hm : Lq K M M') (hk : ∀ (i : Nat) (g : Fg) (d : D) (a : Addr) (F : List Addr), ρ[i]? = some (some (g, d)) → σ[i]? = some (some (.ref a)) → SF K M H g a d F → ∀ y ∈ F, ∀ o, H y = some o → H' y = some o) :
  ∀ (i j : Nat) (g h : Fg) (d e : D) (a b : Addr) (F G : List Addr), i ≠ j → ρ[i]? = some (some (g, d)) → ρ[j]? = some (some (h, e)) → σ[i]? = some (some (.ref a)) → σ[j]? = some (some (.ref b)) → SF K M' H' g a d F → SF K M' H' h b e G → ∀ x ∈ F, x ∉ G :=
 fun i j g h d e a b F G hij e1 e2 q1 q2 f1 f2 => s.sp i j g h d e a b F G hij e1 e2 q1 q2 (s.sfBack hm e1 q1 (fun F0 h0 => hk i g d a F0 e1 q1 h0) f1) (s.sfBack hm e2 q2 (fun F0 h0 => hk j h e b F0 e2 q2 h0) f2)
theorem St.spUpN (s : St K B M W H ρ σ) (hm : Lq K M M') (hh : ∀ y o, W y = none → H y = some o → H' y = some o) :
  ∀ (i j : Nat) (g h : Fg) (d e : D) (a b : Addr) (F G : List Addr), i ≠ j → ρ[i]? = some (some (g, d)) → ρ[j]? = some (some (h, e)) → σ[i]? = some (some (.ref a)) → σ[j]? = some (some (.ref b)) → SF K M' H' g a d F → SF K M' H' h b e G → ∀ x ∈ F, x ∉ G :=
 s.spUp hm fun i g d a F e hσ h y hy o ho => hh y o (s.cells e hσ h y hy).1 ho
theorem St.up (s : St K B M W H ρ σ) (gr : Gr M W M' W') (mw : Same M' W') (wh : Same W' H') (nt : NoTb W') (hh : ∀ a o, W a = none → H a = some o → H' a = some o ∧ W' a = none) : St K B M' W' H' ρ σ :=
 ⟨s.bw.trans gr.w, mw, wh, s.ln, fun i g d e => by obtain ⟨v, h1, h2⟩ := s.sl i g d e; exact ⟨v, h1, h2.up gr hh⟩, s.spUpN (.of gr.m) fun y o h1 h2 => (hh y o h1 h2).1, s.tb.up s.wh gr.w wh nt hh⟩
theorem St.free (s : St K B M W H ρ σ) (h : H a = none) : W a = none ∧ M a = none ∧ B.b a = none ∧ Apart K M H ρ σ a := by
 have h1 := s.wh.free h
 refine ⟨h1, s.mw.free h1, s.bw.free h1, fun i g d b F e z f m => ?_⟩
 obtain ⟨_, o, q, _⟩ := s.cells e z f a m
 rw [h] at q; cases q
theorem ZC {M : Hp} {p : Addr} {o : HO} (h : M p = none) : Same M (upd M p o) := fun b u e => by rw [upd_ne (ne_of_none e h)]; exact e
theorem qu {M W : Hp} {p : Addr} {o : HO} (h : Same M W) : Same (upd M p o) (upd W p o) := fun b u e => by
 by_cases hb : b = p
 ·subst hb; rw [upd_same] at e ⊢; exact e
 ·rw [upd_ne hb] at e ⊢; exact h _ _ e
theorem St.newF (s : St K B M W H ρ σ) (h : H a = none) (ho : ∀ ps, o ≠ .tbl ps) : Gr M W (upd M a o) (upd W a o) ∧ St K B (upd M a o) (upd W a o) (upd H a o) ρ σ := by
 obtain ⟨hW, hM, hB, ap⟩ := s.free h
 have gr : Gr M W (upd M a o) (upd W a o) := ⟨ZC hM, ZC hW, fun b o h1 _ h2 => by
  have : b ≠ a := ne_of_none h1 hW
  rw [upd_ne this]; exact h2⟩
 refine ⟨gr, s.up gr (qu s.mw) (qu s.wh) (NoTb.upd s.tb.1 ho) fun b u h1 h2 => ?_⟩
 have : b ≠ a := ne_of_none h2 h
 exact ⟨by rw [upd_ne this]; exact h2, by rw [upd_ne this]; exact h1⟩
theorem St.newO (s : St K B M W H ρ σ) (h : H a = none) (ho : OwnO K M u o d) : St K B M W (upd H a o) ρ σ ∧ TpOk K B M W (upd H a o) ρ σ (.ow u d) (.ref a) := by
 obtain ⟨hW, hM, hB, ap⟩ := s.free h
 refine ⟨s.up (Gr.refl _ _) s.mw (s.wh.trans (ZC h)) s.tb.1 fun b u h1 h2 => ?_, ⟨a, o, rfl, upd_same, ho, hW, ap.upN s (.of (Same.refl _)) fun y o' _ e => by rw [upd_ne (ne_of_none e h)]; exact e⟩⟩
 have : b ≠ a := ne_of_none h2 h
 exact ⟨by rw [upd_ne this]; exact h2, h1⟩
theorem St.turn {o' : HO} (s : St K B M W H ρ σ) (h : H a = some o) (hm : OwnK o) (hW : W a = none) (ap : Apart K M H ρ σ a) : St K B M W (upd H a o') ρ σ := by
 refine ⟨s.bw, s.mw, fun b u e => ?_, s.ln, fun i g d e => ?_, s.spUp (.of (Same.refl _)) (fun i g d b F e hσ f y hy o' ho => by rw [upd_ne (fun z : y = a => ap i g d b F e hσ f (by rw [← z]; exact hy))]; exact ho), s.tb.turn h hm⟩
 ·rw [upd_ne (ne_of_none e hW)]; exact s.wh _ _ e
 ·obtain ⟨v, h1, h2⟩ := s.sl i g d e
  refine ⟨v, h1, ?_⟩
  cases g with
  | f => exact h2
  | b => exact h2
  | s => exact h2
  | e => first | exact h2 | (obtain ⟨_, _, _, e1, e2, e0, e3⟩ := h2; exact ⟨_, _, _, e1, e2, e0, e3.mono gr.m⟩)
  | l => first | exact h2 | exact ⟨h2.1, h2.2.mono gr.m⟩
  | o u p =>
   obtain ⟨a', o', rfl, q1, q2, q3, q4⟩ := h2
   have : a' ≠ a := fun z => ap.ow i _ _ rfl e (by rw [← z]; exact h1)
   exact ⟨a', o', rfl, by rw [upd_ne this]; exact q1, q2, q3, q4⟩
  | q p =>
   obtain ⟨a', F, rfl, q1, q2, q3, q4⟩ := h2
   exact ⟨a', F, rfl, q1.lq (.of (Same.refl _)) fun x hx o' e' => by rw [upd_ne (fun z : x = a => ap i _ _ a' F e h1 q1 (by rw [← z]; exact hx))]; exact e', q2, q3, q4⟩
theorem Apart.turnd {o' : HO} (ap : Apart K M H ρ σ a) (s : St K B M W H ρ σ) : Apart K M (upd H a o') ρ σ a :=
 ap.up s (.of (Same.refl _)) fun i g d b F e hσ f y hy o' ho => by rw [upd_ne (fun z : y = a => ap i g d b F e hσ f (by rw [← z]; exact hy))]; exact ho
theorem St.frz (s : St K B M W H ρ σ) (h : H a = some o) (hm : OwnK o) (hW : W a = none) (ap : Apart K M H ρ σ a) : Gr M W (upd M a o) (upd W a o) ∧ St K B (upd M a o) (upd W a o) H ρ σ := by
 have hM := s.mw.free hW
 have gr : Gr M W (upd M a o) (upd W a o) := ⟨ZC hM, ZC hW, fun b o h1 _ h2 => by
  have : b ≠ a := ne_of_none h1 hW
  rw [upd_ne this]; exact h2⟩
 refine ⟨gr, ⟨s.bw.trans gr.w, qu s.mw, fun b u e => ?_, s.ln, fun i g d e => ?_, s.spUpN (.of gr.m) (fun _ _ _ h => h), s.tb.frz hm.nt⟩⟩
 ·by_cases hb : b = a
  ·subst hb; rw [upd_same] at e; cases e; exact h
  ·rw [upd_ne hb] at e; exact s.wh _ _ e
 ·obtain ⟨v, h1, h2⟩ := s.sl i g d e
  refine ⟨v, h1, ?_⟩
  cases g with
  | f => exact Rp.mono gr.m h2
  | b => exact R1.mono (Same.refl _) gr.m h2
  | s => exact h2
  | e => first | exact h2 | (obtain ⟨_, _, _, e1, e2, e0, e3⟩ := h2; exact ⟨_, _, _, e1, e2, e0, e3.mono gr.m⟩)
  | l => first | exact h2 | exact ⟨h2.1, h2.2.mono gr.m⟩
  | o u p =>
   obtain ⟨a', o', rfl, q1, q2, q3, q4⟩ := h2
   have : a' ≠ a := fun z => ap.ow i _ _ rfl e (by rw [← z]; exact h1)
   exact ⟨a', o', rfl, q1, q2.mono gr.m, by rw [upd_ne this]; exact q3, q4⟩
  | q p =>
   obtain ⟨a', F, rfl, q1, q2, q3, q4⟩ := h2
   exact ⟨a', F, rfl, q1.lq (.of gr.m) fun _ _ _ e' => e', q2, fun x hx => by rw [upd_ne (fun z : x = a => ap i _ _ a' F e h1 q1 (by rw [← z]; exact hx))]; exact q3 x hx, q4⟩
theorem St.wipe1 (s : St K B M W H ρ σ) (i : Nat) (x : Option V) : St K B M W H (ρ.set i none) (σ.set i x) := by
 have gt : ∀ {j : Nat} {g : Fg} {d : D}, (ρ.set i none)[j]? = some (some (g, d)) → j ≠ i ∧ ρ[j]? = some (some (g, d)) := fun {j g d} e => by
  by_cases hj : j = i
  ·subst hj
   rw [List.getElem?_set] at e
   rw [if_pos rfl] at e
   split at e <;> exact nomatch e
  ·rw [List.getElem?_set_ne (Ne.symm hj)] at e; exact ⟨hj, e⟩
 refine ⟨s.bw, s.mw, s.wh, by rw [List.length_set, List.length_set]; exact s.ln, fun j g d e => ?_, fun j k g h d e a b F G hjk e1 e2 q1 q2 => ?_, s.tb⟩
 ·obtain ⟨hj, e⟩ := gt e
  obtain ⟨v, h1, h2⟩ := s.sl j g d e
  exact ⟨v, by rw [List.getElem?_set_ne (Ne.symm hj)]; exact h1, h2⟩
 ·obtain ⟨hj, e1⟩ := gt e1
  obtain ⟨hk, e2⟩ := gt e2
  rw [List.getElem?_set_ne (Ne.symm hj)] at q1
  rw [List.getElem?_set_ne (Ne.symm hk)] at q2
  exact s.sp j k g h d e a b F G hjk e1 e2 q1 q2
theorem St.forget (s : St K B M W H ρ σ) (i : Nat) : St K B M W H (ρ.set i none) σ := by
 have gt : ∀ {j : Nat} {g : Fg} {d : D}, (ρ.set i none)[j]? = some (some (g, d)) → ρ[j]? = some (some (g, d)) := fun {j g d} e => by
  by_cases hj : j = i
  ·subst hj
   rw [List.getElem?_set] at e
   rw [if_pos rfl] at e
   split at e <;> exact nomatch e
  ·rw [List.getElem?_set_ne (Ne.symm hj)] at e; exact e
 exact ⟨s.bw, s.mw, s.wh, by rw [List.length_set]; exact s.ln, fun j g d e => s.sl j g d (gt e), fun j k g h d e a b F G hjk e1 e2 q1 q2 => s.sp j k g h d e a b F G hjk (gt e1) (gt e2) q1 q2, s.tb⟩
theorem St.setG (s : St K B M W H (ρ.set i none) (σ.set i (some v))) (hv : SlOk K B M W H i g v d) (ap : ∀ a F, v = .ref a → SF K M H g a d F → ∀ x ∈ F, Apart K M H (ρ.set i none) (σ.set i (some v)) x) : St K B M W H (ρ.set i (some (g, d))) (σ.set i (some v)) := by
 have gt : ∀ {j : Nat} {g' : Fg} {d' : D}, (ρ.set i (some (g, d)))[j]? = some (some (g', d')) → (j = i ∧ g' = g ∧ d' = d ∧ i < σ.length) ∨ (j ≠ i ∧ (ρ.set i none)[j]? = some (some (g', d'))) := fun {j g' d'} e => by
  by_cases hj : j = i
  ·subst hj
   rw [List.getElem?_set] at e
   rw [if_pos rfl] at e
   split at e
   ·rename_i hl
    have := s.ln
    rw [List.length_set, List.length_set] at this
    cases e; exact .inl ⟨rfl, rfl, rfl, by omega⟩
   ·exact nomatch e
  ·rw [List.getElem?_set_ne (Ne.symm hj)] at e; exact .inr ⟨hj, by rw [List.getElem?_set_ne (Ne.symm hj)]; exact e⟩
 have at_ : i < σ.length → (σ.set i (some v))[i]? = some (some v) := fun h => by rw [List.getElem?_set, if_pos rfl, if_pos h]
 refine ⟨s.bw, s.mw, s.wh, by have := s.ln; rw [List.length_set, List.length_set] at this ⊢; exact this, fun j g' d' e => ?_, fun j k g' h' d' e' a b F G hjk e1 e2 q1 q2 f1 f2 x hx hy => ?_, s.tb⟩
 ·rcases gt e with ⟨rfl, rfl, rfl, hl⟩ | ⟨hj, e⟩
  ·exact ⟨v, at_ hl, hv⟩
  ·exact s.sl j g' d' e
 ·rcases gt e1 with ⟨rfl, rfl, rfl, hl⟩ | ⟨hj, g1⟩
  ·rcases gt e2 with ⟨rfl, rfl, rfl, _⟩ | ⟨hk, g2⟩
   ·exact hjk rfl
   ·rw [at_ hl] at q1; cases q1
    exact ap a F rfl f1 x hx k h' e' b G g2 q2 f2 hy
  ·rcases gt e2 with ⟨rfl, rfl, rfl, hl⟩ | ⟨hk, g2⟩
   ·rw [at_ hl] at q2; cases q2
    exact ap b G rfl f2 x hy j g' d' a F g1 q1 f1 hx
   ·exact s.sp j k g' h' d' e' a b F G hjk g1 g2 q1 q2 f1 f2 x hx hy
theorem St.set (s : St K B M W H (ρ.set i none) (σ.set i (some v))) (hv : SlOk K B M W H i g v d) (hq : ∀ p, g ≠ .q p) (ap : ∀ a, vo g = true → v = .ref a → Apart K M H (ρ.set i none) (σ.set i (some v)) a) : St K B M W H (ρ.set i (some (g, d))) (σ.set i (some v)) :=
 s.setG hv fun a F e f x hx => by
  cases g with
  | o u p => cases f; rw [List.mem_singleton] at hx; subst hx; exact ap x rfl e
  | q p => exact absurd rfl (hq p)
  | _ => exact False.elim f
end
end Vm
namespace Vm
open PySem PySem.Spec PyProof.Rows L2 Fz
structure Xn where
 cls : Str
 fld : Option (Str × Int)
inductive Out (α : Type) where
 | stk
 | ok (ρ : Env) (a : α)
 | er (ρ : Env) (x : Xn)
def Out.bind {α β : Type} (o : Out α) (k : Env → α → Out β) : Out β := match o with
 | .stk => .stk
 | .ok ρ a => k ρ a
 | .er ρ x => .er ρ x
abbrev RE := Env → Out Tp
abbrev RT := Env → Out Bool
abbrev RA := Env → Out (List Tp)
inductive Fl where
 | nx | rt (tp : Tp) | bk | ct
abbrev RS := Env → Out Fl
def XOk (K : PySem.W.Frag) (M : Hp) (x : Xn) (d : Option Addr) : Prop := match x.fld, d with
 | none, none => True
 | some (f, e), some dd => M dd = some (.xd [(f, .int e)])
 | _, _ => False
def KG {α β : Type} (K : PySem.W.Frag) (B : Bx) (M W : Hp) (σ : L2.St) (w : WX) (Rel : Hp → Hp → Hp → Env → α → β → Prop) (o : Out α) (Q : β → Hp → Prop) : Prop := match o with
 | .stk => False
 | .ok ρ a => ∀ b M' W' H', Gr M W M' W' → St K B M' W' H' ρ σ → Rel M' W' H' ρ a b → Q b H'
 | .er ρ x => ∀ d M' W' H', Gr M W M' W' → St K B M' W' H' ρ σ → XOk K M' x d → w (xU K x.cls) d σ H'
section
variable {K : PySem.W.Frag} {B : Bx} {M W H M' W' H' : Hp} {ρ ρ' : Env} {σ : L2.St} {w : WX} {α β γ δ : Type}
theorem KG.up {Rel : Hp → Hp → Hp → Env → α → β → Prop} {o : Out α} {Q : β → Hp → Prop} (gr : Gr M W M' W') (k : KG K B M W σ w Rel o Q) : KG K B M' W' σ w Rel o Q := by
 cases o with
 | stk => exact k
 | ok ρ a => exact fun b M2 W2 H2 g2 s2 r2 => k b M2 W2 H2 (gr.trans g2) s2 r2
 | er ρ x => exact fun b M2 W2 H2 g2 s2 r2 => k b M2 W2 H2 (gr.trans g2) s2 r2
theorem KG.bind {Rel : Hp → Hp → Hp → Env → α → β → Prop} {Rel' : Hp → Hp → Hp → Env → γ → δ → Prop} {o : Out α} {kf : Env → α → Out γ} {Q : δ → Hp → Prop} {Q' : β → Hp → Prop} (k : KG K B M W σ w Rel' (o.bind kf) Q)
  (h : ∀ ρ' a b M' W' H', o = .ok ρ' a → Gr M W M' W' → St K B M' W' H' ρ' σ → Rel M' W' H' ρ' a b → KG K B M' W' σ w Rel' (kf ρ' a) Q → Q' b H') : KG K B M W σ w Rel o Q' := by
 cases o with
 | stk => exact k
 | ok ρ a => exact fun b M2 W2 H2 g2 s2 r2 => h ρ a b M2 W2 H2 rfl g2 s2 r2 (KG.up g2 k)
 | er ρ x => exact k
end
def QV (K : PySem.W.Frag) (B : Bx) (σ : L2.St) : Hp → Hp → Hp → Env → Tp → V → Prop := fun M W H ρ tp v => TpOk K B M W H ρ σ tp v
def jC {α : Type} : Hp → Hp → Hp → Env → α → α → Prop := fun _ _ _ _ a b => a = b
def zJ : List Tp → List V → List V
 | .ow _ _ :: tps, v :: vs => v :: zJ tps vs
 | _ :: tps, _ :: vs => zJ tps vs
 | _, _ => []
def TpOkL (K : PySem.W.Frag) (B : Bx) (M W H : Hp) (ρ : Env) (σ : L2.St) : Tp → V → Prop
 | .tr _, _ => True
 | tp, v => TpOk K B M W H ρ σ tp v
theorem TpOk.l {K : PySem.W.Frag} {B : Bx} {M W H : Hp} {ρ : Env} {σ : L2.St} {tp : Tp} {v : V} (h : TpOk K B M W H ρ σ tp v) : TpOkL K B M W H ρ σ tp v := by cases tp <;> first | exact h | trivial
theorem TpOkL.ok {K : PySem.W.Frag} {B : Bx} {M W H : Hp} {ρ : Env} {σ : L2.St} {tp : Tp} {v : V} (h : TpOkL K B M W H ρ σ tp v) (n : ∀ d, tp ≠ .tr d) : TpOk K B M W H ρ σ tp v := by cases tp <;> first | exact h | exact absurd rfl (n _)
theorem TpOkL.r1 {K : PySem.W.Frag} {B : Bx} {M W H : Hp} {ρ : Env} {σ : L2.St} {tp : Tp} {v : V} {d : D} (s : St K B M W H ρ σ) (h : TpOkL K B M W H ρ σ tp v) (e : rdT ρ tp = some d) : R1 K H M v d :=
 TpOk.r1 s (h.ok fun d z => by subst z; exact nomatch e) e
def TpsOk (K : PySem.W.Frag) (B : Bx) (M W H : Hp) (ρ : Env) (σ : L2.St) : List Tp → List V → Prop
 | [], [] => True
 | tp :: tps, v :: vs => TpOkL K B M W H ρ σ tp v ∧ TpsOk K B M W H ρ σ tps vs ∧ (∀ g d, tp = .ow g d → v ∉ zJ tps vs)
 | _, _ => False
def zbD (K : PySem.W.Frag) (B : Bx) (σ : L2.St) : Hp → Hp → Hp → Env → List Tp → List V → Prop := fun M W H ρ tps vs => TpsOk K B M W H ρ σ tps vs
def SE (K : PySem.W.Frag) (B : Bx) (w : WX) (t : TE) (r : RE) : Prop := ∀ (σ : L2.St) (H M W : Hp) (ρ : Env) (Q : VK), St K B M W H ρ σ → KG K B M W σ w (QV K B σ) (r ρ) Q → t σ H Q
def SA (K : PySem.W.Frag) (B : Bx) (w : WX) (t : TA) (r : RA) : Prop := ∀ (σ : L2.St) (H M W : Hp) (ρ : Env) (Q : List V → Hp → Prop), St K B M W H ρ σ → KG K B M W σ w (zbD K B σ) (r ρ) Q → t σ H Q
def SO (K : PySem.W.Frag) (B : Bx) (w : WX) (t : TO) (r : Env → Out (Option Int)) : Prop := ∀ (σ : L2.St) (H M W : Hp) (ρ : Env) (Q : Option Int → Hp → Prop), St K B M W H ρ σ → KG K B M W σ w jC (r ρ) Q → t σ H Q
def STt (K : PySem.W.Frag) (B : Bx) (w : WX) (t : TT) (r : RT) : Prop := ∀ (σ : L2.St) (H M W : Hp) (ρ : Env) (Q : Bool → Hp → Prop), St K B M W H ρ σ → KG K B M W σ w jC (r ρ) Q → t σ H Q
def del (W : Hp) (a : Addr) : Hp := fun b => if b = a then none else W b
theorem xH {W : Hp} {a : Addr} : del W a a = none := if_pos rfl
theorem Xg {W : Hp} {a b : Addr} (h : b ≠ a) : del W a b = W b := if_neg h
theorem Qx {W : Hp} {a b : Addr} (h : W b = none) : del W a b = none := by
 by_cases e : b = a
 ·rw [e, xH]
 ·rw [Xg e]; exact h
section
variable {K : PySem.W.Frag} {B : Bx} {M W H M' W' H' : Hp} {ρ ρ' : Env} {σ : L2.St} {w : WX} {tp : Tp} {v : V}
theorem TpOk.del {a : Addr} (h : TpOk K B M W H ρ σ tp v) : TpOk K B M (del W a) H ρ σ tp v := by
 cases tp with
 | sl i => exact h
 | fz d => exact h
 | ow g d => obtain ⟨b, o, rfl, h1, h2, h3, h4⟩ := h; exact ⟨b, o, rfl, h1, h2, Qx h3, h4⟩
 | tr d => obtain ⟨b, F, rfl, h1, h2, h3, h4⟩ := h; exact ⟨b, F, rfl, h1, h2, fun x hx => Qx (h3 x hx), h4⟩
theorem TpOkL.del {a : Addr} (h : TpOkL K B M W H ρ σ tp v) : TpOkL K B M (Vm.del W a) H ρ σ tp v := by
 cases tp with
 | tr d => trivial
 | sl i => exact h
 | fz d => exact h
 | ow g d => obtain ⟨b, o, rfl, h1, h2, h3, h4⟩ := h; exact ⟨b, o, rfl, h1, h2, Qx h3, h4⟩
theorem TpsOk.del {a : Addr} : ∀ {tps : List Tp} {vs : List V}, TpsOk K B M W H ρ σ tps vs → TpsOk K B M (del W a) H ρ σ tps vs
 | [], [], _ => trivial
 | _ :: tps, _ :: vs, ⟨h1, h2, h3⟩ => ⟨h1.del, TpsOk.del (tps := tps) (vs := vs) h2, h3⟩
theorem pend (s : St K B M W H ρ σ) (h : TpOk K B M W H ρ σ tp v) : ∃ W1, St K B M W1 H ρ σ ∧ ∀ M2 W2 H2 ρ2, Gr M W1 M2 W2 → St K B M2 W2 H2 ρ2 σ →
  ∃ W3, Gr M W M2 W3 ∧ St K B M2 W3 H2 ρ2 σ ∧ (∀ tp' v', TpOkL K B M2 W2 H2 ρ2 σ tp' v' → TpOkL K B M2 W3 H2 ρ2 σ tp' v' ∧ ((∃ g d, tp = .ow g d) → (∃ g d, tp' = .ow g d) → v' ≠ v)) ∧ TpOkL K B M2 W3 H2 ρ2 σ tp v := by
 cases tp with
 | tr d => exact ⟨W, s, fun M2 W2 H2 ρ2 g2 s2 => ⟨W2, g2, s2, fun tp' v' h' => ⟨h', fun ⟨_, _, q⟩ => nomatch q⟩, trivial⟩⟩
 | sl i => exact ⟨W, s, fun M2 W2 H2 ρ2 g2 s2 => ⟨W2, g2, s2, fun tp' v' h' => ⟨h', fun ⟨_, _, q⟩ => nomatch q⟩, h⟩⟩
 | fz d => exact ⟨W, s, fun M2 W2 H2 ρ2 g2 s2 => ⟨W2, g2, s2, fun tp' v' h' => ⟨h', fun ⟨_, _, q⟩ => nomatch q⟩, Rp.mono g2.m h⟩⟩
 | ow g d =>
  obtain ⟨a, o, rfl, h1, h2, h3, h4⟩ := h
  have hM := s.mw.free h3
  have hB := s.bw.free h3
  refine ⟨upd W a o, ⟨s.bw.trans (ZC h3), s.mw.trans (ZC h3), fun b u e => ?_, s.ln, fun i g d e => ?_, s.sp, s.tb.frz h2.kind.nt⟩, fun M2 W2 H2 ρ2 g2 s2 => ?_⟩
  ·by_cases hb : b = a
   ·subst hb; rw [upd_same] at e; cases e; exact h1
   ·rw [upd_ne hb] at e; exact s.wh _ _ e
  ·obtain ⟨v, q1, q2⟩ := s.sl i g d e
   refine ⟨v, q1, ?_⟩
   cases g with
   | f => exact q2
   | b => exact q2
   | s => exact q2
   | e => first | exact q2 | (obtain ⟨_, _, _, e1, e2, e0, e3⟩ := q2; exact ⟨_, _, _, e1, e2, e0, e3.mono gr.m⟩)
   | l => first | exact q2 | exact ⟨q2.1, q2.2.mono gr.m⟩
   | o u p =>
    obtain ⟨a', o', rfl, p1, p2, p3, p4⟩ := q2
    have : a' ≠ a := fun z => h4.ow i _ _ rfl e (by rw [← z]; exact q1)
    exact ⟨a', o', rfl, p1, p2, by rw [upd_ne this]; exact p3, p4⟩
   | q p =>
    obtain ⟨a', F, rfl, p1, p2, p3, p4⟩ := q2
    exact ⟨a', F, rfl, p1, p2, fun x hx => by rw [upd_ne (fun z : x = a => h4 i _ _ a' F e q1 p1 (by rw [← z]; exact hx))]; exact p3 x hx, p4⟩
  ·have hWa : W2 a = some o := g2.w _ _ upd_same
   have hM2 : M2 a = none := g2.n a o upd_same (mutF h2.mut) hM
   refine ⟨Vm.del W2 a, ⟨g2.m, fun b u e => ?_, fun b ob e1 em e2 => ?_⟩, ⟨fun b u e => ?_, fun b u e => ?_, fun b u e => ?_, s2.ln, fun i g d e => ?_, s2.sp, ⟨fun b ps e => by
    by_cases hb : b = a
    ·rw [hb, xH] at e; cases e
    ·rw [Xg hb] at e; exact s2.tb.1 _ _ e, s2.tb.2⟩⟩, fun tp' v' h' => ⟨h'.del, fun _ ⟨g', d', e'⟩ q => ?_⟩, ?_⟩
   ·have : b ≠ a := ne_of_none e h3
    rw [Xg this]
    exact g2.w _ _ (by rw [upd_ne this]; exact e)
   ·have : b ≠ a := ne_of_none e1 h3
    exact g2.n b ob (by rw [upd_ne this]; exact e1) em e2
   ·rw [Xg (ne_of_none e hB)]; exact s2.bw _ _ e
   ·rw [Xg (ne_of_none e hM2)]; exact s2.mw _ _ e
   ·by_cases hb : b = a
    ·rw [hb, xH] at e; cases e
    ·rw [Xg hb] at e; exact s2.wh _ _ e
   ·obtain ⟨v, q1, q2⟩ := s2.sl i g d e
    refine ⟨v, q1, ?_⟩
    cases g with
    | f => exact q2
    | b => exact q2
    | s => exact q2
    | e => first | exact q2 | (obtain ⟨_, _, _, e1, e2, e0, e3⟩ := q2; exact ⟨_, _, _, e1, e2, e0, e3.mono gr.m⟩)
    | l => first | exact q2 | exact ⟨q2.1, q2.2.mono gr.m⟩
    | o u p => obtain ⟨a', o', rfl, p1, p2, p3, p4⟩ := q2; exact ⟨a', o', rfl, p1, p2, Qx p3, p4⟩
    | q p => obtain ⟨a', F, rfl, p1, p2, p3, p4⟩ := q2; exact ⟨a', F, rfl, p1, p2, fun x hx => Qx (p3 x hx), p4⟩
   ·subst e'
    obtain ⟨b, o', e1, _, _, e4, _⟩ := h'
    rw [q] at e1; cases e1
    rw [hWa] at e4; cases e4
   ·refine ⟨a, o, rfl, s2.wh _ _ hWa, h2.mono g2.m, xH, fun i g d b F e z f m => ?_⟩
    have e4 := (s2.cells e z f a m).1
    rw [hWa] at e4; cases e4
theorem TpsOk.pend {tps : List Tp} {vs : List V} (f : ∀ tp' v', TpOkL K B M W H ρ σ tp' v' → TpOkL K B M W' H ρ σ tp' v' ∧ ((∃ g d, tp = .ow g d) → (∃ g d, tp' = .ow g d) → v' ≠ v)) (h : TpsOk K B M W H ρ σ tps vs) : TpsOk K B M W' H ρ σ tps vs ∧ (∀ g d, tp = .ow g d → v ∉ zJ tps vs) := by
 induction tps generalizing vs with
 | nil =>
  cases vs with
  | nil => exact ⟨trivial, fun _ _ _ => by simp [zJ]⟩
  | cons _ _ => exact False.elim h
 | cons t tps ih =>
  cases vs with
  | nil => exact False.elim h
  | cons u vs =>
   obtain ⟨h1, h2, h3⟩ := h
   obtain ⟨i1, i2⟩ := ih h2
   refine ⟨⟨(f t u h1).1, i1, h3⟩, fun g d e q => ?_⟩
   cases t with
   | sl i => exact i2 g d e q
   | fz x => exact i2 g d e q
   | tr x => exact i2 g d e q
   | ow g' d' =>
    have q : v = u ∨ v ∈ zJ tps vs := by simpa [zJ] using q
    rcases q with q | q
    ·exact (f _ u h1).2 ⟨g, d, e⟩ ⟨g', d', rfl⟩ q.symm
    ·exact i2 g d e q
end
def zp (i : Nat) : RE := fun ρ => match ρ[i]? with
 | some (some _) => .ok ρ (.sl i)
 | _ => .stk
def rK (d : D) : RE := fun ρ => .ok ρ (.fz d)
def zQ : RA := fun ρ => .ok ρ []
def zm (a : RE) (r : RA) : RA := fun ρ => (a ρ).bind fun ρ1 tp => (r ρ1).bind fun ρ2 tps => .ok ρ2 (tp :: tps)
def Qc (ρ : Env) : List Tp → Option (List D)
 | [] => some []
 | tp :: tps => match rdT ρ tp, Qc ρ tps with
  | some d, some ds => some (d :: ds)
  | _, _ => none
def rOp (f : List D → Option Rz) (a : RA) : RE := fun ρ => (a ρ).bind fun ρ1 tps => match Qc ρ1 tps with
 | some ds => match f ds with
  | some z => .ok ρ1 z.tp
  | none => .stk
 | none => .stk
def ResK (K : PySem.W.Frag) (H M : Hp) (z : Rz) (Q : VK) : Prop := match z with
 | .tr _ => True
 | .fz d => (∀ v, Rp K M v d → Q v H) ∧ (∀ v a xs, H a = none → Rp K (upd M a (.tup xs)) v d → Q v (upd H a (.tup xs)))
 | .ow g d => ∀ a o, H a = none → OwnO K M g o d → Q (.ref a) (upd H a o)
inductive R1s (K : PySem.W.Frag) (H M : Hp) : List V → List D → Prop
 | nil : R1s K H M [] []
 | cons {v : V} {d : D} {vs : List V} {ds : List D} : R1 K H M v d → R1s K H M vs ds → R1s K H M (v :: vs) (d :: ds)
def OpN (K : PySem.W.Frag) (r : List V → Hp → VK → Prop) (f : List D → Option Rz) : Prop := ∀ (vs : List V) (ds : List D) (H M : Hp) (Q : VK) (z : Rz), Same M H → R1s K H M vs ds → f ds = some z → ResK K H M z Q → r vs H Q
section
variable {K : PySem.W.Frag} {B : Bx} {w : WX} {t ta tb : TE} {r ra rb : RE} {tA : TA} {rA : RA}
theorem za {i : Nat} : SE K B w (tVar i) (zp i) := fun σ H M W ρ Q s k => by
 unfold zp at k
 cases e : ρ[i]? with
 | none => rw [e] at k; exact False.elim k
 | some x =>
  cases x with
  | none => rw [e] at k; exact False.elim k
  | some gd =>
   obtain ⟨g, d⟩ := gd
   rw [e] at k
   obtain ⟨v, h1, h2⟩ := s.sl i g d e
   exact ⟨v, h1, k v M W H (Gr.refl _ _) s h1⟩
theorem xC {v : V} {d : D} (h : ∀ M, Rp K M v d) : SE K B w (tC v) (rK d) := fun σ H M W ρ Q s k => k v M W H (Gr.refl _ _) s (h M)
theorem zj {i : Int} : SE K B w (tC (.int i)) (rK (.int i)) := xC fun _ => .int i
theorem qm {i : Str} : SE K B w (tC (.str i)) (rK (.str i)) := xC fun _ => .str i
theorem yF {i : Bool} : SE K B w (tC (.bl i)) (rK (.bool i)) := xC fun _ => .bl i
theorem W8 : SE K B w (tC .non) (rK .none) := xC fun _ => .non
theorem zr : SA K B w tNil zQ := fun σ H M W ρ Q s k => k [] M W H (Gr.refl _ _) s trivial
theorem zf (ha : SE K B w ta ra) (hr : SA K B w tA rA) : SA K B w (tCons ta tA) (zm ra rA) := fun σ H M W ρ Q s k =>
 ha σ H M W ρ _ s (KG.bind k fun ρ1 tp v M1 W1 H1 _ g1 s1 h1 k1 => by
  obtain ⟨W1', s1', pd⟩ := pend s1 h1
  refine hr σ H1 M1 W1' ρ1 _ s1' ?_
  cases e : rA ρ1 with
  | stk => rw [e] at k1; exact k1
  | er ρ2 x =>
   rw [e] at k1
   intro d M2 W2 H2 g2 s2 hx
   obtain ⟨W3, g3, s3, _, _⟩ := pd M2 W2 H2 ρ2 g2 s2
   exact k1 d M2 W3 H2 g3 s3 hx
  | ok ρ2 tps =>
   rw [e] at k1
   intro vs M2 W2 H2 g2 s2 hv
   obtain ⟨W3, g3, s3, f3, h3⟩ := pd M2 W2 H2 ρ2 g2 s2
   obtain ⟨q1, q2⟩ := TpsOk.pend f3 hv
   exact k1 (v :: vs) M2 W3 H2 g3 s3 ⟨h3, q1, q2⟩)
theorem xq {M W H : Hp} {ρ : Env} {σ : L2.St} (s : St K B M W H ρ σ) : ∀ {tps : List Tp} {vs : List V} {ds : List D}, TpsOk K B M W H ρ σ tps vs → Qc ρ tps = some ds → R1s K H M vs ds
 | [], [], ds, _, e => by cases e; exact .nil
 | tp :: tps, v :: vs, ds, ⟨h1, h2, _⟩, e => by
  unfold Qc at e
  cases e1 : rdT ρ tp with
  | none => rw [e1] at e; exact nomatch e
  | some d =>
   cases e2 : Qc ρ tps with
   | none => rw [e1, e2] at e; exact nomatch e
   | some ds' =>
    rw [e1, e2] at e
    cases e
    exact .cons (h1.r1 s e1) (xq s h2 e2)
theorem ResK.mk {M W H : Hp} {ρ : Env} {σ : L2.St} {z : Rz} {Q : VK} (s : St K B M W H ρ σ) (k : KG K B M W σ w (QV K B σ) (.ok ρ z.tp) Q) : ResK K H M z Q := by
 cases z with
 | tr d => trivial
 | fz d =>
  refine ⟨fun v hv => k v M W H (Gr.refl _ _) s hv, fun v a o ha hv => ?_⟩
  obtain ⟨gr, s'⟩ := s.newF (o := .tup o) ha fun _ z => nomatch z
  exact k v _ _ _ gr s' hv
 | ow g d =>
  intro a o ha ho
  obtain ⟨s', h'⟩ := s.newO ha ho
  exact k _ _ _ _ (Gr.refl _ _) s' h'
theorem yE {rr : List V → Hp → VK → Prop} {f : List D → Option Rz} (hA : SA K B w tA rA) (ho : OpN K rr f) : SE K B w (tCB rr tA) (rOp f rA) := fun σ H M W ρ Q s k =>
 hA σ H M W ρ _ s (KG.bind k fun ρ1 tps vs M1 W1 H1 _ g1 s1 h1 k1 => by
  cases e : Qc ρ1 tps with
  | none => rw [e] at k1; exact False.elim k1
  | some ds =>
   rw [e] at k1
   dsimp only at k1
   cases e2 : f ds with
   | none => rw [e2] at k1; exact False.elim k1
   | some tp =>
    rw [e2] at k1
    exact ho vs ds H1 M1 Q tp s1.mh (xq s1 h1 e) e2 (ResK.mk s1 k1))
end
end Vm
namespace Vm
open PySem PySem.Spec PyProof.Rows L2 Fz
def stF (ρ : Env) : Tp → Option (Env × D)
 | .fz d => some (ρ, d)
 | .ow _ d => some (ρ, d)
 | .tr _ => none
 | .sl i => match ρ[i]? with
  | some (some (.f, d)) => some (ρ, d)
  | some (some (.o _ false, d)) => some (ρ.set i (some (.f, d)), d)
  | _ => none
def Xk (ρ : Env) : List Tp → Option (Env × List D)
 | [] => some (ρ, [])
 | tp :: tps => match stF ρ tp with
  | some (ρ1, d) => match Xk ρ1 tps with
   | some (ρ2, ds) => some (ρ2, d :: ds)
   | none => none
  | none => none
theorem Kw {α : Type} {l : List α} {i : Nat} {x : α} (h : l[i]? = some x) : l.set i x = l := by
 apply List.ext_getElem?
 intro j
 by_cases hj : j = i
 ·subst hj
  have hl : j < l.length := by
   rcases Nat.lt_or_ge j l.length with h' | h'
   ·exact h'
   ·rw [List.getElem?_eq_none h'] at h; cases h
  rw [h, List.getElem?_set, if_pos rfl, if_pos hl]
 ·rw [List.getElem?_set_ne (Ne.symm hj)]
section
variable {K : PySem.W.Frag} {B : Bx} {M W H M' W' H' : Hp} {ρ ρ' : Env} {σ σ' : L2.St} {v : V} {d : D} {g : Fg} {u p : Bool} {o : HO} {a : Addr} {tp : Tp} {i : Nat}
theorem St.putG (s : St K B M W H (ρ.set i none) σ) (hσ : σ[i]? = some (some v)) (hv : SlOk K B M W H i g v d) (ap : ∀ a F, v = .ref a → SF K M H g a d F → ∀ x ∈ F, Apart K M H (ρ.set i none) σ x) : St K B M W H (ρ.set i (some (g, d))) σ := by
 have e : σ.set i (some v) = σ := Kw hσ
 have := St.setG (ρ := ρ) (σ := σ) (v := v) (i := i) (g := g) (d := d) (by rw [e]; exact s) hv (by rw [e]; exact ap)
 rw [e] at this
 exact this
theorem St.put (s : St K B M W H (ρ.set i none) σ) (hσ : σ[i]? = some (some v)) (hv : SlOk K B M W H i g v d) (hq : ∀ p, g ≠ .q p) (ap : ∀ a, vo g = true → v = .ref a → Apart K M H (ρ.set i none) σ a) : St K B M W H (ρ.set i (some (g, d))) σ := by
 have e : σ.set i (some v) = σ := Kw hσ
 have := St.set (ρ := ρ) (σ := σ) (v := v) (i := i) (g := g) (d := d) (by rw [e]; exact s) hv hq (by rw [e]; exact ap)
 rw [e] at this
 exact this
theorem xX {j : Nat} {h : Fg} {e : D} (q : (ρ.set i none)[j]? = some (some (h, e))) : j ≠ i ∧ ρ[j]? = some (some (h, e)) := by
 by_cases hj : j = i
 ·subst hj
  rw [List.getElem?_set, if_pos rfl] at q
  split at q <;> exact nomatch q
 ·rw [List.getElem?_set_ne (Ne.symm hj)] at q; exact ⟨hj, q⟩
theorem qd {F : List Addr} (s : St K B M W H ρ σ) (hr : ρ[i]? = some (some (g, d))) (hs : σ[i]? = some (some (.ref a))) (hf : SF K M H g a d F) : ∀ x ∈ F, Apart K M H (ρ.set i none) σ x := fun x hx j h e b G q z f => by
 obtain ⟨hj, q⟩ := xX q
 exact s.sp i j g h d e a b F G (Ne.symm hj) hr q hs z hf f x hx
theorem qP (s : St K B M W H ρ σ) (hg : vo g = true) (hr : ρ[i]? = some (some (g, d))) (hs : σ[i]? = some (some (.ref a))) : Apart K M H (ρ.set i none) σ a := by
 have f1 : SF K M H g a d [a] := by cases g <;> first | exact rfl | exact absurd hg Bool.false_ne_true
 exact qd s hr hs f1 a (List.mem_singleton.mpr rfl)
theorem qJ (s : St K B M W H ρ σ) (h : TpOk K B M W H ρ σ tp v) (e : stF ρ tp = some (ρ', d)) : ∃ M' W', Gr M W M' W' ∧ St K B M' W' H ρ' σ ∧ Rp K M' v d ∧
  ∀ tp' v', TpOkL K B M W H ρ σ tp' v' → (∀ g d, tp = .ow g d → ∀ g' d', tp' = .ow g' d' → v' ≠ v) → TpOkL K B M' W' H ρ' σ tp' v' := by
 cases tp with
 | tr d' => exact nomatch e
 | fz d' => cases e; exact ⟨M, W, Gr.refl _ _, s, h, fun _ _ q _ => q⟩
 | ow u d' =>
  cases e
  obtain ⟨a, o, rfl, h1, h2, h3, h4⟩ := h
  obtain ⟨gr, s'⟩ := s.frz h1 h2.kind h3 h4
  refine ⟨_, _, gr, s', h2.rp gr.m upd_same, fun tp' v' q ne => ?_⟩
  cases tp' with
  | tr d => trivial
  | sl i => exact q
  | fz d => exact Rp.mono gr.m q
  | ow u' d' =>
   obtain ⟨b, o', rfl, q1, q2, q3, q4⟩ := q
   have : b ≠ a := fun z => ne u _ rfl u' d' rfl (by rw [z])
   exact ⟨b, o', rfl, q1, q2.mono gr.m, by rw [upd_ne this]; exact q3, q4.frz s (.of gr.m)⟩
 | sl i =>
  have hσ : σ[i]? = some (some v) := h
  unfold stF at e
  dsimp only at e
  split at e
  ·rename_i d' hr
   cases e
   obtain ⟨v', q1, q2⟩ := s.sl i _ _ hr
   rw [hσ] at q1; cases q1
   exact ⟨M, W, Gr.refl _ _, s, q2, fun _ _ q _ => q⟩
  ·rename_i u d' hr
   cases e
   obtain ⟨v', q1, q2⟩ := s.sl i _ _ hr
   rw [hσ] at q1; cases q1
   obtain ⟨a, o, rfl, h1, h2, h3, _⟩ := q2
   have ap := qP s (g := .o u false) rfl hr hσ
   obtain ⟨gr, s'⟩ := (s.forget i).frz h1 h2.kind h3 ap
   have rp : Rp K (upd M a o) (.ref a) d := h2.rp gr.m upd_same
   refine ⟨_, _, gr, s'.put hσ (g := .f) rp (fun _ z => nomatch z) (fun _ q => absurd q Bool.false_ne_true), rp, fun tp' v' q _ => ?_⟩
   cases tp' with
   | tr d => trivial
   | sl i => exact q
   | fz d => exact Rp.mono gr.m q
   | ow u' d' =>
    obtain ⟨b, o', rfl, q1, q2, q3, q4⟩ := q
    have : b ≠ a := fun z => q4.ow i _ _ rfl hr (by rw [z]; exact hσ)
    refine ⟨b, o', rfl, q1, q2.mono gr.m, by rw [upd_ne this]; exact q3, fun j g' d' c F q' z f => ?_⟩
    by_cases hj : j = i
    ·subst hj
     rw [List.getElem?_set, if_pos rfl] at q'
     split at q'
     ·cases q'; exact False.elim f
     ·exact nomatch q'
    ·rw [List.getElem?_set_ne (Ne.symm hj)] at q'
     exact q4.frz s (.of gr.m) j g' d' c F q' z f
  ·exact nomatch e
theorem Vh (s : St K B M W H ρ σ) (h : TpOkL K B M W H ρ σ tp v) (e : stF ρ tp = some (ρ', d)) : ∃ M' W', Gr M W M' W' ∧ St K B M' W' H ρ' σ ∧ Rp K M' v d ∧
  ∀ tp' v', TpOkL K B M W H ρ σ tp' v' → (∀ g d, tp = .ow g d → ∀ g' d', tp' = .ow g' d' → v' ≠ v) → TpOkL K B M' W' H ρ' σ tp' v' :=
 qJ s (h.ok fun d z => by subst z; exact nomatch e) e
theorem kY : ∀ {tps : List Tp} {vs : List V} {ρ ρ' : Env} {ds : List D} {M W : Hp}, St K B M W H ρ σ → TpsOk K B M W H ρ σ tps vs → Xk ρ tps = some (ρ', ds) → ∃ M' W', Gr M W M' W' ∧ St K B M' W' H ρ' σ ∧ Rps K M' vs ds
 | [], [], ρ, ρ', ds, M, W, s, _, e => by cases e; exact ⟨M, W, Gr.refl _ _, s, .nil⟩
 | tp :: tps, v :: vs, ρ, ρ', ds, M, W, s, ⟨h1, h2, h3⟩, e => by
  unfold Xk at e
  cases e1 : stF ρ tp with
  | none => rw [e1] at e; exact nomatch e
  | some x =>
   obtain ⟨ρ1, d⟩ := x
   rw [e1] at e
   dsimp only at e
   obtain ⟨M1, W1, g1, s1, r1, f1⟩ := qJ s (h1.ok fun d z => by subst z; exact nomatch e1) e1
   have all : ∀ {tps : List Tp} {vs : List V}, TpsOk K B M W H ρ σ tps vs → (∀ g d, tp = .ow g d → v ∉ zJ tps vs) → TpsOk K B M1 W1 H ρ1 σ tps vs := by
    intro tps
    induction tps with
    | nil => intro vs h _; cases vs with
     | nil => trivial
     | cons _ _ => exact False.elim h
    | cons t tps ih =>
     intro vs h n
     cases vs with
     | nil => exact False.elim h
     | cons u vs =>
      obtain ⟨q1, q2, q3⟩ := h
      refine ⟨f1 t u q1 fun g d e g' d' e' z => ?_, ih q2 fun g d e z => n g d e ?_, q3⟩
      ·subst e'
       exact n g d e (by simp [zJ, z])
      ·cases t with
       | sl i => exact z
       | fz x => exact z
       | tr x => exact z
       | ow _ _ => simp [zJ, z]
   cases e2 : Xk ρ1 tps with
   | none => rw [e2] at e; exact nomatch e
   | some y =>
    obtain ⟨ρ2, ds'⟩ := y
    rw [e2] at e
    cases e
    obtain ⟨M2, W2, g2, s2, r2⟩ := kY s1 (all h2 h3) e2
    exact ⟨M2, W2, g1.trans g2, s2, .cons (r1.mono g2.m) r2⟩
end
def zbP (a : RA) : RE := fun ρ => (a ρ).bind fun ρ1 tps => match Xk ρ1 tps with
 | some (ρ2, ds) => if ds.length ≤ sizeLine then .ok ρ2 (.fz (.tuple ds)) else .stk
 | none => .stk
def JM (a : RA) : RE := fun ρ => (a ρ).bind fun ρ1 tps => match Xk ρ1 tps with
 | some (ρ2, ds) => if ds.length ≤ sizeLine then .ok ρ2 (.ow false (.list ds)) else .stk
 | none => .stk
section
variable {K : PySem.W.Frag} {B : Bx} {w : WX} {t ta tb : TE} {r ra rb : RE} {tA : TA} {rA : RA}
theorem Q6 (hA : SA K B w tA rA) : SE K B w (tLst tA) (JM rA) := fun σ H M W ρ Q s k =>
 hA σ H M W ρ _ s (KG.bind k fun ρ1 tps vs M1 W1 H1 _ g1 s1 h1 k1 => by
  cases e : Xk ρ1 tps with
  | none => rw [e] at k1; exact False.elim k1
  | some x =>
   obtain ⟨ρ2, ds⟩ := x
   rw [e] at k1
   dsimp only at k1
   obtain ⟨M2, W2, g2, s2, r2⟩ := kY s1 h1 e
   by_cases hl : ds.length ≤ sizeLine
   ·rw [if_pos hl] at k1
    refine ⟨by rw [r2.length]; exact hl, fun p hp => ?_⟩
    obtain ⟨s3, h3⟩ := s2.newO (u := false) (o := .lst vs) (d := .list ds) hp r2
    exact k1 _ _ _ _ g2 s3 h3
   ·rw [if_neg hl] at k1; exact False.elim k1)
theorem yJ : SE K B w tDNewT (fun ρ => .ok ρ (.ow true (.dict []))) := fun σ H M W ρ Q s k p hp => by
 obtain ⟨s3, h3⟩ := s.newO (u := true) (o := .dT []) (d := .dict []) hp ⟨rfl, .nil⟩
 exact k _ _ _ _ (Gr.refl _ _) s3 h3
def asB (ρ : Env) (tp : Tp) : Out Bool := match rdT ρ tp with
 | some (.bool b) => .ok ρ b
 | _ => .stk
def Zk (r : RE) : RT := fun ρ => (r ρ).bind asB
theorem zbh {H M : Hp} {v : V} {b : Bool} (h : R1 K H M v (.bool b)) : v = .bl b := by cases h; rfl
theorem ZG {H M : Hp} {v : V} {b : Int} (h : R1 K H M v (.int b)) : v = .int b := by cases h; rfl
theorem Qn {H M : Hp} {v : V} {b : Str} (h : R1 K H M v (.str b)) : v = .str b := by cases h; rfl
theorem yw {ρ : Env} {tp : Tp} {P : Out Bool → Prop} (h : P (asB ρ tp)) (h0 : ¬ P .stk) : ∃ b, rdT ρ tp = some (.bool b) ∧ P (.ok ρ b) := by
 unfold asB at h
 split at h
 ·rename_i b e; exact ⟨b, e, h⟩
 ·exact absurd h h0
theorem Zh (h : SE K B w t r) : STt K B w (tTest t) (Zk r) := fun σ H M W ρ Q s k =>
 h σ H M W ρ _ s (KG.bind k fun ρ1 tp v M1 W1 H1 _ g1 s1 h1 k1 => by
  obtain ⟨b, e, k1⟩ := yw (P := fun o => KG K B M1 W1 σ w jC o Q) k1 (fun q => q)
  exact ⟨b, zbh (h1.r1 s1 e), k1 b M1 W1 H1 (Gr.refl _ _) s1 rfl⟩)
theorem zb0 (h : SE K B w t r) : STt K B w (tB t) (Zk r) := Zh h
def zb6 (a b : RT) : RT := fun ρ => (a ρ).bind fun ρ1 x => if x = true then b ρ1 else .ok ρ1 false
def rOr (a b : RT) : RT := fun ρ => (a ρ).bind fun ρ1 x => if x = true then .ok ρ1 true else b ρ1
def zaN (a : RT) : RT := fun ρ => (a ρ).bind fun ρ1 x => .ok ρ1 (!x)
theorem w6 {ta tb : TT} {ra rb : RT} (ha : STt K B w ta ra) (hb : STt K B w tb rb) : STt K B w (tOr ta tb) (rOr ra rb) := fun σ H M W ρ Q s k =>
 ha σ H M W ρ _ s (KG.bind (Rel := jC) k fun ρ1 x b M1 W1 H1 _ g1 s1 h1 k1 => by
  have h1 : x = b := h1
  subst h1
  cases x with
  | true => rw [if_pos rfl] at k1 ⊢; exact k1 _ _ _ _ (Gr.refl _ _) s1 rfl
  | false => rw [if_neg Bool.false_ne_true] at k1 ⊢; exact hb σ H1 M1 W1 ρ1 _ s1 k1)
theorem zar {ta : TT} {ra : RT} (ha : STt K B w ta ra) : STt K B w (tNot ta) (zaN ra) := fun σ H M W ρ Q s k =>
 ha σ H M W ρ _ s (KG.bind (Rel := jC) k fun ρ1 x b M1 W1 H1 _ g1 s1 h1 k1 => by
  have h1 : x = b := h1
  subst h1
  exact k1 _ _ _ _ (Gr.refl _ _) s1 rfl)
theorem Q4 : STt K B w tYes (fun ρ => .ok ρ true) := fun σ H M W ρ Q s k => k _ _ _ _ (Gr.refl _ _) s rfl
def zbw (a b : RE) : RE := fun ρ => (Zk a ρ).bind fun ρ1 x => if x = true then b ρ1 else .ok ρ1 (.fz (.bool false))
def zb3 (a b : RE) : RE := fun ρ => (Zk a ρ).bind fun ρ1 x => if x = true then .ok ρ1 (.fz (.bool true)) else b ρ1
def za8 (a : RE) : RE := fun ρ => (Zk a ρ).bind fun ρ1 x => .ok ρ1 (.fz (.bool !x))
def zaM (c : RT) (a b : RE) : RE := fun ρ => (c ρ).bind fun ρ1 x => if x = true then a ρ1 else b ρ1
theorem zaA {tc : TT} {rc : RT} (hc : STt K B w tc rc) (ha : SE K B w ta ra) (hb : SE K B w tb rb) : SE K B w (tIf tc ta tb) (zaM rc ra rb) := fun σ H M W ρ Q s k =>
 hc σ H M W ρ _ s (KG.bind (Rel := jC) k fun ρ1 x b M1 W1 H1 _ g1 s1 h1 k1 => by
  have h1 : x = b := h1
  subst h1
  cases x with
  | true => rw [if_pos rfl] at k1 ⊢; exact ha σ H1 M1 W1 ρ1 _ s1 k1
  | false => rw [if_neg Bool.false_ne_true] at k1 ⊢; exact hb σ H1 M1 W1 ρ1 _ s1 k1)
end
end Vm
namespace Vm
open PySem PySem.Spec PyProof.Rows L2 Fz
def FlK (K : PySem.W.Frag) (B : Bx) (M W H : Hp) (ρ : Env) (σ : L2.St) (D : Ends) : Fl → Prop
 | .nx => D.nx σ H
 | .bk => D.bk σ H
 | .ct => D.ct σ H
 | .rt tp => ∀ v, TpOk K B M W H ρ σ tp v → D.rt v H
def KS (K : PySem.W.Frag) (B : Bx) (M W : Hp) (w : WX) (D : Ends) (o : Out Fl) : Prop := match o with
 | .stk => False
 | .ok ρ fl => ∀ σ' M' W' H', Gr M W M' W' → St K B M' W' H' ρ σ' → FlK K B M' W' H' ρ σ' D fl
 | .er ρ x => ∀ σ' d M' W' H', Gr M W M' W' → St K B M' W' H' ρ σ' → XOk K M' x d → w (xU K x.cls) d σ' H'
def SS (K : PySem.W.Frag) (B : Bx) (w : WX) (t : TS) (r : RS) : Prop := ∀ (D : Ends) (σ : L2.St) (H M W : Hp) (ρ : Env), St K B M W H ρ σ → KS K B M W w D (r ρ) → t D σ H
section
variable {K : PySem.W.Frag} {B : Bx} {M W H M' W' H' : Hp} {ρ ρ' : Env} {σ σ' : L2.St} {w : WX} {D : Ends} {α β : Type}
theorem KS.up {o : Out Fl} (gr : Gr M W M' W') (k : KS K B M W w D o) : KS K B M' W' w D o := by
 cases o with
 | stk => exact k
 | ok ρ a => exact fun σ' M2 W2 H2 g2 s2 => k σ' M2 W2 H2 (gr.trans g2) s2
 | er ρ x => exact fun σ' d M2 W2 H2 g2 s2 r2 => k σ' d M2 W2 H2 (gr.trans g2) s2 r2
theorem KS.bind {Rel : Hp → Hp → Hp → Env → α → β → Prop} {o : Out α} {kf : Env → α → Out Fl} {Q' : β → Hp → Prop} (k : KS K B M W w D (o.bind kf))
  (h : ∀ ρ' a b M' W' H', o = .ok ρ' a → Gr M W M' W' → St K B M' W' H' ρ' σ → Rel M' W' H' ρ' a b → KS K B M' W' w D (kf ρ' a) → Q' b H') : KG K B M W σ w Rel o Q' := by
 cases o with
 | stk => exact k
 | ok ρ a => exact fun b M2 W2 H2 g2 s2 r2 => h ρ a b M2 W2 H2 rfl g2 s2 r2 (KS.up g2 k)
 | er ρ x => exact fun d M2 W2 H2 g2 s2 r2 => k σ d M2 W2 H2 g2 s2 r2
end
def Za (a b : RS) : RS := fun ρ => match a ρ with
 | .ok ρ1 .nx => b ρ1
 | o => o
def xT : RS := fun ρ => .ok ρ .nx
def rIf (c : RT) (a b : RS) : RS := fun ρ => (c ρ).bind fun ρ1 x => if x = true then a ρ1 else b ρ1
def vh (e : RE) : RS := fun ρ => (e ρ).bind fun ρ1 _ => .ok ρ1 .nx
def qb (ρ : Env) (i : Nat) : Bool := match ρ[i]? with
 | some (some (.o _ true, _)) => true
 | some (some (.q true, _)) => true
 | _ => false
def asg (ρ : Env) (i : Nat) (tp : Tp) : Option Env := if qb ρ i = true then none else match tp with
 | .ow u d => some (ρ.set i (some (.o u false, d)))
 | .tr d => some (ρ.set i (some (.q false, d)))
 | tp => match stF ρ tp with
  | some (ρ1, d) => some (ρ1.set i (some (.f, d)))
  | none => none
def ZR (e : RE) (i : Nat) : RS := fun ρ => (e ρ).bind fun ρ1 tp => match asg ρ1 i tp with
 | some ρ2 => .ok ρ2 .nx
 | none => .stk
def rtT (ρ : Env) : Tp → Option (Env × Tp)
 | .sl i => match ρ[i]? with
  | some (some (.f, d)) => some (ρ, .fz d)
  | some (some (.o u false, d)) => some (ρ.set i none, .ow u d)
  | some (some (.q false, d)) => some (ρ.set i none, .tr d)
  | _ => none
 | tp => some (ρ, tp)
def Qo (e : RE) : RS := fun ρ => (e ρ).bind fun ρ1 tp => match rtT ρ1 tp with
 | some (ρ2, tp2) => .ok ρ2 (.rt tp2)
 | none => .stk
section
variable {K : PySem.W.Frag} {B : Bx} {w : WX} {t ta tb : TE} {r ra rb : RE} {tA : TA} {rA : RA} {ts us : TS} {rs qs : RS}
theorem zA (h1 : SS K B w ts rs) (h2 : SS K B w us qs) : SS K B w (tSeq ts us) (Za rs qs) := fun D σ H M W ρ s k => by
 refine h1 { D with nx := us D } σ H M W ρ s ?_
 unfold Za at k
 cases e : rs ρ with
 | stk => rw [e] at k; exact k
 | er ρ1 x => rw [e] at k; exact k
 | ok ρ1 fl =>
  rw [e] at k
  cases fl with
  | nx => exact fun σ' M' W' H' gr st => h2 D σ' H' M' W' ρ1 st (KS.up gr k)
  | bk => exact k
  | ct => exact k
  | rt tp => exact k
theorem qR : SS K B w tNext xT := fun D σ H M W ρ s k => k σ M W H (Gr.refl _ _) s
theorem xO {tc : TT} {rc : RT} (hc : STt K B w tc rc) (h1 : SS K B w ts rs) (h2 : SS K B w us qs) : SS K B w (tIfS tc ts us) (rIf rc rs qs) := fun D σ H M W ρ s k =>
 hc σ H M W ρ _ s (KS.bind (Rel := jC) k fun ρ1 x b M1 W1 H1 _ g1 s1 e1 k1 => by
  have e1 : x = b := e1
  subst e1
  cases x with
  | true => rw [if_pos rfl] at k1 ⊢; exact h1 D σ H1 M1 W1 ρ1 s1 k1
  | false => rw [if_neg Bool.false_ne_true] at k1 ⊢; exact h2 D σ H1 M1 W1 ρ1 s1 k1)
theorem JT (h : SE K B w t r) : SS K B w (tDrop t) (vh r) := fun D σ H M W ρ s k =>
 h σ H M W ρ _ s (KS.bind k fun ρ1 tp v M1 W1 H1 _ g1 s1 h1 k1 => k1 σ M1 W1 H1 (Gr.refl _ _) s1)
theorem Jt {M H : Hp} {ρ : Env} {σ : L2.St} {i : Nat} {v : Option V} {x : Addr} (ap : Apart K M H ρ σ x) : Apart K M H (ρ.set i none) (σ.set i v) x := fun j g d b F q z f => by
 obtain ⟨hj, q⟩ := xX q
 rw [List.getElem?_set_ne (Ne.symm hj)] at z
 exact ap j g d b F q z f
theorem Wu {M W H : Hp} {ρ ρ' : Env} {σ : L2.St} {tp : Tp} {v : V} {i : Nat} (s : St K B M W H ρ σ) (h : TpOk K B M W H ρ σ tp v) (e : asg ρ i tp = some ρ') : ∃ M' W', Gr M W M' W' ∧ St K B M' W' H ρ' (σ.set i (some v)) := by
 unfold asg at e
 split at e
 ·exact nomatch e
 have fz : ∀ {ρ1 : Env} {d : D}, stF ρ tp = some (ρ1, d) → ∃ M' W', Gr M W M' W' ∧ St K B M' W' H (ρ1.set i (some (.f, d))) (σ.set i (some v)) := fun {ρ1 d} e1 => by
  obtain ⟨M1, W1, g1, s1, r1, _⟩ := qJ s h e1
  exact ⟨M1, W1, g1, St.set (s1.wipe1 i (some v)) (g := .f) r1 (fun _ z => nomatch z) (fun _ q => absurd q Bool.false_ne_true)⟩
 cases tp with
 | ow u d =>
  cases e
  obtain ⟨a, o, rfl, h1, h2, h3, h4⟩ := h
  refine ⟨M, W, Gr.refl _ _, St.set (s.wipe1 i (some (.ref a))) (g := .o u false) ⟨a, o, rfl, h1, h2, h3, fun q => nomatch q⟩ (fun _ z => nomatch z) (fun b _ q => ?_)⟩
  cases q
  exact Jt h4
 | tr d =>
  cases e
  obtain ⟨a, F, rfl, h1, h2, h3, h4⟩ := h
  refine ⟨M, W, Gr.refl _ _, St.setG (s.wipe1 i (some (.ref a))) (g := .q false) ⟨a, F, rfl, h1, h2, h3, fun q => nomatch q⟩ (fun b G q f => ?_)⟩
  cases q
  have := h1.uniq (.of (Same.refl _)) f
  subst this
  exact fun x hx => Jt (h4 x hx)
 | fz d =>
  cases e
  exact fz rfl
 | sl j =>
  dsimp only at e
  cases e1 : stF ρ (.sl j) with
  | none => rw [e1] at e; exact nomatch e
  | some x =>
   obtain ⟨ρ1, d⟩ := x
   rw [e1] at e
   cases e
   exact fz e1
theorem zN {i : Nat} (h : SE K B w t r) : SS K B w (tAsg t (gName i)) (ZR r i) := fun D σ H M W ρ s k =>
 h σ H M W ρ _ s (KS.bind k fun ρ1 tp v M1 W1 H1 _ g1 s1 h1 k1 => by
  cases e : asg ρ1 i tp with
  | none => rw [e] at k1; exact False.elim k1
  | some ρ2 =>
   rw [e] at k1
   obtain ⟨M2, W2, g2, s2⟩ := Wu s1 h1 e
   exact k1 _ M2 W2 H1 g2 s2)
theorem Zu (h : SE K B w t r) : SS K B w (tRet t) (Qo r) := fun D σ H M W ρ s k =>
 h σ H M W ρ _ s (KS.bind k fun ρ1 tp v M1 W1 H1 _ g1 s1 h1 k1 => by
  cases tp with
  | fz d => exact k1 σ M1 W1 H1 (Gr.refl _ _) s1 v h1
  | ow u d => exact k1 σ M1 W1 H1 (Gr.refl _ _) s1 v h1
  | tr d => exact k1 σ M1 W1 H1 (Gr.refl _ _) s1 v h1
  | sl i =>
   have hσ : σ[i]? = some (some v) := h1
   unfold rtT at k1
   dsimp only at k1
   split at k1
   ·rename_i ρ2 tp2 e
    split at e
    ·rename_i d hr
     cases e
     obtain ⟨v', q1, q2⟩ := s1.sl i _ _ hr
     rw [hσ] at q1; cases q1
     exact k1 σ M1 W1 H1 (Gr.refl _ _) s1 v q2
    ·rename_i u d hr
     cases e
     obtain ⟨v', q1, q2⟩ := s1.sl i _ _ hr
     rw [hσ] at q1; cases q1
     obtain ⟨a, o, rfl, p1, p2, p3, _⟩ := q2
     exact k1 σ M1 W1 H1 (Gr.refl _ _) (s1.forget i) _ ⟨a, o, rfl, p1, p2, p3, qP s1 (g := .o u false) rfl hr hσ⟩
    ·rename_i d hr
     cases e
     obtain ⟨v', q1, q2⟩ := s1.sl i _ _ hr
     rw [hσ] at q1; cases q1
     obtain ⟨a, F, rfl, p1, p2, p3, _⟩ := q2
     exact k1 σ M1 W1 H1 (Gr.refl _ _) (s1.forget i) _ ⟨a, F, rfl, p1, p2, p3, qd s1 (g := .q false) hr hσ p1⟩
    ·exact nomatch e
   ·exact False.elim k1)
end
def SG (K : PySem.W.Frag) (B : Bx) (g : TG) (f : Env → D → Option Env) : Prop := ∀ (σ : L2.St) (H M W : Hp) (ρ ρ' : Env) (v : V) (d : D) (Q : L2.St → Hp → Prop), St K B M W H ρ σ → Rp K M v d → f ρ d = some ρ' → (∀ σ', St K B M W H ρ' σ' → Q σ' H) → g v σ H Q
def SGs (K : PySem.W.Frag) (B : Bx) (g : TGs) (f : Env → List D → Option Env) : Prop := ∀ (σ : L2.St) (H M W : Hp) (ρ ρ' : Env) (v : List V) (d : List D) (Q : L2.St → Hp → Prop), St K B M W H ρ σ → Rps K M v d → f ρ d = some ρ' → (∀ σ', St K B M W H ρ' σ' → Q σ' H) → g v σ H Q
def Zt (i : Nat) (ρ : Env) (d : D) : Option Env := if qb ρ i = true then none else some (ρ.set i (some (.f, d)))
def zaR (ρ : Env) (ds : List D) : Option Env := match ds with
 | [] => some ρ
 | _ => none
def Jq (f : Env → D → Option Env) (fs : Env → List D → Option Env) (ρ : Env) (ds : List D) : Option Env := match ds with
 | [] => none
 | d :: ds => match f ρ d with
  | some ρ1 => fs ρ1 ds
  | none => none
def VR (n : Nat) (fs : Env → List D → Option Env) (ρ : Env) (d : D) : Option Env := match d with
 | .tuple ds => if ds.length = n then fs ρ ds else none
 | _ => none
section
variable {K : PySem.W.Frag} {B : Bx} {w : WX} {t : TE} {r : RE}
theorem Z6 {i : Nat} : SG K B (gName i) (Zt i) := fun σ H M W ρ ρ' v d Q s h e q => by
 unfold Zt at e
 split at e
 ·exact nomatch e
 ·cases e
  exact q _ (St.set (s.wipe1 i (some v)) (g := .f) h (fun _ z => nomatch z) (fun _ q => absurd q Bool.false_ne_true))
theorem zaC : SGs K B gNil zaR := fun σ H M W ρ ρ' v d Q s h e q => by
 cases h with
 | nil => cases e; exact ⟨rfl, q _ s⟩
 | cons _ _ => exact nomatch e
theorem Vr {g : TG} {gs : TGs} {f : Env → D → Option Env} {fs : Env → List D → Option Env} (h1 : SG K B g f) (h2 : SGs K B gs fs) : SGs K B (gCons g gs) (Jq f fs) := fun σ H M W ρ ρ' v d Q s h e q => by
 cases h with
 | nil => exact nomatch e
 | cons hv hr =>
  rename_i v d vs ds
  unfold Jq at e
  dsimp only at e
  cases e1 : f ρ d with
  | none => rw [e1] at e; exact nomatch e
  | some ρ1 =>
   rw [e1] at e
   exact ⟨v, vs, rfl, h1 σ H M W ρ ρ1 v d _ s hv e1 fun σ1 s1 => h2 σ1 H M W ρ1 ρ' vs ds Q s1 hr e q⟩
theorem zaV {n : Nat} {gs : TGs} {fs : Env → List D → Option Env} (h1 : SGs K B gs fs) : SG K B (gTup K n gs) (VR n fs) := fun σ H M W ρ ρ' v d Q s h e q => by
 cases h with
 | tup ha hr =>
  rename_i a xs ds
  unfold VR at e
  dsimp only at e
  split at e
  ·rename_i hl
   exact ⟨a, xs, rfl, .inl (.inl (s.mh _ _ ha)), by rw [hr.length]; exact hl, h1 σ H M W ρ ρ' xs ds Q s hr e q⟩
  ·exact nomatch e
 | tupK ha hc hr =>
  rename_i a xs ds
  unfold VR at e
  dsimp only at e
  split at e
  ·rename_i hl
   exact ⟨a, xs, rfl, ha H, by rw [hr.length]; exact hl, h1 σ H M W ρ ρ' xs ds Q s hr e q⟩
  ·exact nomatch e
 | _ => exact nomatch e
def Ww (e : RE) (f : Env → D → Option Env) : RS := fun ρ => (e ρ).bind fun ρ1 tp => match stF ρ1 tp with
 | some (ρ2, d) => match f ρ2 d with
  | some ρ3 => .ok ρ3 .nx
  | none => .stk
 | none => .stk
theorem Yp {g : TG} {f : Env → D → Option Env} (h : SE K B w t r) (hg : SG K B g f) : SS K B w (tAsg t g) (Ww r f) := fun D σ H M W ρ s k =>
 h σ H M W ρ _ s (KS.bind k fun ρ1 tp v M1 W1 H1 _ g1 s1 h1 k1 => by
  cases e : stF ρ1 tp with
  | none => rw [e] at k1; exact False.elim k1
  | some x =>
   obtain ⟨ρ2, d⟩ := x
   rw [e] at k1
   dsimp only at k1
   obtain ⟨M2, W2, g2, s2, r2, _⟩ := qJ s1 h1 e
   cases e2 : f ρ2 d with
   | none => rw [e2] at k1; exact False.elim k1
   | some ρ3 =>
    rw [e2] at k1
    exact hg σ H1 M2 W2 ρ2 ρ3 v d _ s2 r2 e2 fun σ' s' => k1 σ' M2 W2 H1 g2 s')
end
def wW (K : PySem.W.Frag) (B : Bx) (M : Hp) (J : It) (ds : List D) : Prop := ∀ M2 H2, Same M M2 → Same M2 H2 → Same B.b H2 → J.stop ds.length H2 ∧ ∀ (i : Nat) (d : D), ds[i]? = some d → J.go i H2 ∧ ∀ x H3, J.yld i H2 x H3 → (H3 = H2 ∧ Rp K M2 x d) ∨ (∃ a xs, H2 a = none ∧ H3 = upd H2 a (.tup xs) ∧ Rp K (upd M2 a (.tup xs)) x d) ∨ ∃ a xs, H2 a = some (.tup xs) ∧ H3 = H2 ∧ Rp K (upd M2 a (.tup xs)) x d
def SI (K : PySem.W.Frag) (B : Bx) (w : WX) (t : TI) (r : Env → Out (List D)) : Prop := ∀ (σ : L2.St) (H M W : Hp) (ρ : Env) (R : It → Hp → Prop), St K B M W H ρ σ → KG K B M W σ w (fun M' _ _ _ ds J => wW K B M' J ds) (r ρ) R → t σ H R
def Qa (f : Env → D → Option Env) (b : RS) : List D → RS
 | [] => fun ρ => .ok ρ .nx
 | d :: ds => fun ρ => match f ρ d with
  | none => .stk
  | some ρ1 => match b ρ1 with
   | .ok ρ2 .nx => Qa f b ds ρ2
   | .ok ρ2 .ct => Qa f b ds ρ2
   | .ok ρ2 .bk => .ok ρ2 .nx
   | o => o
def K9 (ri : Env → Out (List D)) (f : Env → D → Option Env) (b : RS) : RS := fun ρ => (ri ρ).bind fun ρ1 ds => Qa f b ds ρ1
section
variable {K : PySem.W.Frag} {B : Bx} {w : WX} {ts : TS} {rs : RS}
theorem St.tupF {M W H : Hp} {ρ : Env} {σ : L2.St} {a : Addr} {xs : List V} (s : St K B M W H ρ σ) (h : H a = some (.tup xs)) : Gr M W (upd M a (.tup xs)) (upd W a (.tup xs)) ∧ St K B (upd M a (.tup xs)) (upd W a (.tup xs)) H ρ σ := by
 have sm : ∀ {G : Hp}, Same G H → Same G (upd G a (.tup xs)) := fun {G} g b u e => by
  by_cases hb : b = a
  ·subst hb
   have := g _ _ e
   rw [h] at this; cases this
   exact upd_same
  ·rw [upd_ne hb]; exact e
 have gr : Gr M W (upd M a (.tup xs)) (upd W a (.tup xs)) := ⟨sm s.mh, sm s.wh, fun b o e m q => by
  by_cases hb : b = a
  ·subst hb
   have := s.wh _ _ e
   rw [h] at this; cases this
   exact False.elim m
  ·rw [upd_ne hb]; exact q⟩
 refine ⟨gr, ⟨s.bw.trans gr.w, qu s.mw, fun b u e => ?_, s.ln, fun i g d e => ?_, s.spUpN (.of gr.m) (fun _ _ _ h => h), s.tb.frz fun _ z => nomatch z⟩⟩
 ·by_cases hb : b = a
  ·subst hb; rw [upd_same] at e; cases e; exact h
  ·rw [upd_ne hb] at e; exact s.wh _ _ e
 ·obtain ⟨v, h1, h2⟩ := s.sl i g d e
  refine ⟨v, h1, ?_⟩
  cases g with
  | f => exact Rp.mono gr.m h2
  | b => exact R1.mono (Same.refl _) gr.m h2
  | s => exact h2
  | e => first | exact h2 | (obtain ⟨_, _, _, e1, e2, e0, e3⟩ := h2; exact ⟨_, _, _, e1, e2, e0, e3.mono gr.m⟩)
  | l => first | exact h2 | exact ⟨h2.1, h2.2.mono gr.m⟩
  | o u p =>
   obtain ⟨a', o', rfl, q1, q2, q3, q4⟩ := h2
   have : a' ≠ a := fun z => by
    subst z
    rw [h] at q1; cases q1
    exact q2.mut
   exact ⟨a', o', rfl, q1, q2.mono gr.m, by rw [upd_ne this]; exact q3, q4⟩
  | q p =>
   obtain ⟨a', F, rfl, q1, q2, q3, q4⟩ := h2
   exact ⟨a', F, rfl, q1.lq (.of gr.m) (fun _ _ _ h => h), q2, fun x hx => by
    obtain ⟨o, e1, e2⟩ := q1.cell x hx
    have : x ≠ a := fun z => by
     subst z
     rw [h] at e1; cases e1
     exact e2
    rw [upd_ne this]; exact q3 x hx, q4⟩
theorem Vk {M W H H3 : Hp} {ρ : Env} {σ : L2.St} {x : V} {d : D} (s : St K B M W H ρ σ) (h : (H3 = H ∧ Rp K M x d) ∨ (∃ a xs, H a = none ∧ H3 = upd H a (.tup xs) ∧ Rp K (upd M a (.tup xs)) x d) ∨ ∃ a xs, H a = some (.tup xs) ∧ H3 = H ∧ Rp K (upd M a (.tup xs)) x d) : ∃ M' W', Gr M W M' W' ∧ St K B M' W' H3 ρ σ ∧ Rp K M' x d := by
 rcases h with ⟨rfl, h⟩ | ⟨a, o, ha, rfl, h⟩ | ⟨a, xs, ha, rfl, h⟩
 ·exact ⟨M, W, Gr.refl _ _, s, h⟩
 ·obtain ⟨gr, s'⟩ := s.newF (o := .tup o) ha fun _ z => nomatch z
  exact ⟨_, _, gr, s', h⟩
 ·obtain ⟨gr, s'⟩ := s.tupF ha
  exact ⟨_, _, gr, s', h⟩
theorem Xa {wi : TI} {g : TG} {ri : Env → Out (List D)} {f : Env → D → Option Env} (hi : SI K B w wi ri) (hg : SG K B g f) (hb : SS K B w ts rs) : SS K B w (tFor wi g ts) (K9 ri f rs) := fun D σ H M W ρ s k =>
 hi σ H M W ρ _ s (KS.bind k fun ρ1 ds J M1 W1 H1 _ g1 s1 hJ k1 => by
  refine ⟨fun i m σ H => ∃ ρ M' W', Gr M1 W1 M' W' ∧ St K B M' W' H ρ σ ∧ i ≤ ds.length ∧ m = ds.length - i ∧ KS K B M' W' w D (Qa f rs (ds.drop i) ρ), ⟨ds.length, ρ1, M1, W1, Gr.refl _ _, s1, Nat.zero_le _, by simp, by simpa using k1⟩, ?_⟩
  rintro i m σ H ⟨ρ2, M2, W2, g2, s2, hin, rfl, k2⟩
  obtain ⟨w1, w2⟩ := hJ M2 H g2.m s2.mh (s2.bw.trans s2.wh)
  rcases Nat.lt_or_ge i ds.length with hlt | hge
  ·obtain ⟨w3, w4⟩ := w2 i ds[i] (List.getElem?_eq_getElem hlt)
   refine .inr ⟨w3, fun σ H => ∃ ρ M' W', Gr M1 W1 M' W' ∧ St K B M' W' H ρ σ ∧ KS K B M' W' w D (Qa f rs (ds.drop (i + 1)) ρ), fun σ' H' ⟨ρ', M', W', q1, q2, q3⟩ => ⟨ds.length - (i + 1), by omega, ρ', M', W', q1, q2, hlt, rfl, q3⟩, fun x H3 y => ?_⟩
   obtain ⟨M3, W3, g3, s3, r3⟩ := Vk s2 (w4 x H3 y)
   rw [List.drop_eq_getElem_cons hlt] at k2
   unfold Qa at k2
   cases e : f ρ2 ds[i] with
   | none => rw [e] at k2; exact False.elim k2
   | some ρ3 =>
    rw [e] at k2
    dsimp only at k2
    refine hg σ H3 M3 W3 ρ2 ρ3 x ds[i] _ s3 r3 e fun σ4 s4 => hb _ σ4 H3 M3 W3 ρ3 s4 ?_
    cases e2 : rs ρ3 with
    | stk => rw [e2] at k2; exact k2
    | er ρ5 z => rw [e2] at k2; exact KS.up g3 (o := .er ρ5 z) k2
    | ok ρ5 fl =>
     rw [e2] at k2
     cases fl with
     | nx => exact fun σ' M' W' H' gr st => ⟨ρ5, M', W', (g2.trans g3).trans gr, st, KS.up (g3.trans gr) k2⟩
     | ct => exact fun σ' M' W' H' gr st => ⟨ρ5, M', W', (g2.trans g3).trans gr, st, KS.up (g3.trans gr) k2⟩
     | bk => exact fun σ' M' W' H' gr st => k2 σ' M' W' H' (g3.trans gr) st
     | rt tp => exact fun σ' M' W' H' gr st => k2 σ' M' W' H' (g3.trans gr) st
  ·have e : i = ds.length := by omega
   subst e
   rw [List.drop_length] at k2
   exact .inl ⟨w1, k2 σ M2 W2 H (Gr.refl _ _) s2⟩)
end
end Vm
namespace Vm
open PySem PySem.Spec PyProof.Rows L2 Fz
def zG (ρ : Env) : List Nat → Env
 | [] => ρ
 | v :: vs => (zG ρ vs).set v none
section
variable {K : PySem.W.Frag} {B : Bx} {M W H M' W' H' : Hp} {ρ ρ' : Env} {σ σ' : L2.St} {w : WX}
theorem St.wipes (s : St K B M W H ρ σ) : ∀ vs : List Nat, St K B M W H (zG ρ vs) (wipe σ vs)
 | [] => s
 | v :: vs => (s.wipes vs).wipe1 v none
theorem Jb (ρ : Env) (i : Nat) : ∀ vs : List Nat, (zG ρ vs)[i]? = if i ∈ vs then (ρ[i]?).map (fun _ => none) else ρ[i]?
 | [] => by simp [zG]
 | v :: vs => by
  have ih := Jb ρ i vs
  have ln : ∀ vs : List Nat, (zG ρ vs).length = ρ.length := by
   intro vs
   induction vs with
   | nil => rfl
   | cons v vs ih => unfold zG; rw [List.length_set, ih]
  unfold zG
  by_cases h : i = v
  ·subst h
   rw [if_pos List.mem_cons_self]
   by_cases hl : i < ρ.length
   ·rw [List.getElem?_set_self (by rw [ln]; exact hl), List.getElem?_eq_getElem hl]; rfl
   ·rw [List.getElem?_eq_none (by rw [List.length_set, ln]; omega), List.getElem?_eq_none (by omega)]; rfl
  ·rw [List.getElem?_set_ne (Ne.symm h), ih]
   by_cases h2 : i ∈ vs
   ·rw [if_pos h2, if_pos (List.mem_cons_of_mem _ h2)]
   ·rw [if_neg h2, if_neg (by simp [h, h2])]
theorem St.unwipe {vs : List Nat} (s : St K B M W H ρ σ') (e : wipe σ' vs = wipe σ vs) : St K B M W H (zG ρ vs) σ := by
 have gt : ∀ {j : Nat} {g : Fg} {d : D}, (zG ρ vs)[j]? = some (some (g, d)) → ρ[j]? = some (some (g, d)) ∧ σ'[j]? = σ[j]? := fun {j g d} q => by
  rw [Jb] at q
  by_cases h : j ∈ vs
  ·rw [if_pos h] at q
   cases e : ρ[j]? with
   | none => rw [e] at q; exact nomatch q
   | some x => rw [e] at q; exact nomatch q
  ·rw [if_neg h] at q
   have e2 : (L2.wipe σ' vs)[j]? = (L2.wipe σ vs)[j]? := by rw [e]
   rw [Z3, Z3, if_neg h, if_neg h] at e2
   exact ⟨q, e2⟩
 have ln : ∀ vs : List Nat, (zG ρ vs).length = ρ.length := by
  intro vs
  induction vs with
  | nil => rfl
  | cons v vs ih => unfold zG; rw [List.length_set, ih]
 refine ⟨s.bw, s.mw, s.wh, ?_, fun j g d q => ?_, fun j k g h d e a b F G hjk e1 e2 q1 q2 => ?_, s.tb⟩
 ·rw [ln, s.ln]
  have := congrArg List.length e
  rw [wipe_length, wipe_length] at this
  exact this
 ·obtain ⟨q, e1⟩ := gt q
  rw [← e1]
  exact s.sl j g d q
 ·obtain ⟨f1, p1⟩ := gt e1
  obtain ⟨f2, p2⟩ := gt e2
  exact s.sp j k g h d e a b F G hjk f1 f2 (by rw [p1]; exact q1) (by rw [p2]; exact q2)
end
def SGv (K : PySem.W.Frag) (B : Bx) (g : TG) (f : Env → D → Option Env) (vs : List Nat) : Prop := ∀ (σ : L2.St) (H M W : Hp) (ρ ρ' : Env) (v : V) (d : D) (Q : L2.St → Hp → Prop), St K B M W H ρ σ → Rp K M v d → f ρ d = some ρ' → (∀ σ', wipe σ' vs = wipe σ vs → St K B M W H ρ' σ' → Q σ' H) → g v σ H Q
def Out.dry {α : Type} (o : Out α) : Out α := match o with
 | .er _ _ => .stk
 | o => o
def qD (f : Env → D → Option Env) (rt : RT) (re : RE) (vs : List Nat) : List D → List D → Env → Out (List D)
 | [], acc, ρ => .ok ρ acc
 | d :: ds, acc, ρ => match f (zG ρ vs) d with
  | none => .stk
  | some ρ1 => (rt ρ1).dry.bind fun ρ2 x => if x = true then (re ρ2).dry.bind fun ρ3 tp => match stF ρ3 tp with
    | some (ρ4, e) => if acc.length < sizeLine then qD f rt re vs ds (acc ++ [e]) (zG ρ4 vs) else .stk
    | none => .stk
   else qD f rt re vs ds acc (zG ρ2 vs)
def rLc (ri : Env → Out (List D)) (f : Env → D → Option Env) (rt : RT) (re : RE) (vs : List Nat) : RE := fun ρ => (ri ρ).bind fun ρ1 ds => (qD f rt re vs ds [] ρ1).bind fun ρ2 es => .ok ρ2 (.ow false (.list es))
section
variable {K : PySem.W.Frag} {B : Bx} {w : WX} {vs : List Nat}
theorem ZQ {i : Nat} (hi : i ∈ vs) : SGv K B (gName i) (Zt i) vs := fun σ H M W ρ ρ' v d Q s h e q => by
 unfold Zt at e
 split at e
 ·exact nomatch e
 ·cases e
  exact q _ (yf hi) (St.set (s.wipe1 i (some v)) (g := .f) h (fun _ z => nomatch z) (fun _ q => absurd q Bool.false_ne_true))
theorem Xr {wi : TI} {g : TG} {tt : TT} {te : TE} {ri : Env → Out (List D)} {f : Env → D → Option Env} {rt : RT} {re : RE} {w1 w2 : WX} (hi : SI K B w wi ri) (hg : SGv K B g f vs) (ht : STt K B w1 tt rt) (he : SE K B w2 te re) : SE K B w (tLc wi g tt te vs) (rLc ri f rt re vs) := fun σ H M W ρ Q s k =>
 hi σ H M W ρ _ s (KG.bind k fun ρ1 ds J M1 W1 H1 _ g1 s1 hJ k1 => by
  intro Dl hD
  obtain ⟨s1', t1'⟩ := s1.newO (u := false) (o := .lst []) (d := .list []) hD .nil
  let Inv : Nat → Hp → Prop := fun i H => ∃ (ρ : Env) (M' W' : Hp) (acc : List D), Gr M1 W1 M' W' ∧ St K B M' W' H ρ σ ∧ TpOk K B M' W' H ρ σ (.ow false (.list acc)) (.ref Dl) ∧
   KG K B M' W' σ w (QV K B σ) ((qD f rt re vs (ds.drop i) acc ρ).bind fun ρ2 es => .ok ρ2 (.ow false (.list es))) Q
  refine ⟨fun i m H => i ≤ ds.length ∧ m = ds.length - i ∧ Inv i H, ⟨ds.length, Nat.zero_le _, by simp, ρ1, M1, W1, [], Gr.refl _ _, s1', t1', by simpa using k1⟩, ?_⟩
  rintro i m H ⟨hin, rfl, ρ2, M2, W2, acc, g2, s2, t2, k2⟩
  obtain ⟨w1, w2⟩ := hJ M2 H g2.m s2.mh (s2.bw.trans s2.wh)
  rcases Nat.lt_or_ge i ds.length with hlt | hge
  ·obtain ⟨w3, w4⟩ := w2 i ds[i] (List.getElem?_eq_getElem hlt)
   refine .inr ⟨w3, Inv (i + 1), fun H' h => ⟨ds.length - (i + 1), by omega, hlt, rfl, h⟩, fun x H3 y => ?_⟩
   obtain ⟨Wp, sp, pd⟩ := pend s2 t2
   obtain ⟨M3, W3, g3, s3, r3⟩ := Vk sp (w4 x H3 y)
   rw [List.drop_eq_getElem_cons hlt] at k2
   unfold qD at k2
   cases e : f (zG ρ2 vs) ds[i] with
   | none => rw [e] at k2; exact False.elim k2
   | some ρ3 =>
    simp only [e] at k2
    refine hg (wipe σ vs) H3 M3 W3 (zG ρ2 vs) ρ3 x ds[i] _ (s3.wipes vs) r3 e fun σ4 p4 s4 => ?_
    have p5 : wipe σ4 vs = wipe σ vs := by rw [p4, wj]
    refine ⟨p5, ht σ4 H3 M3 W3 ρ3 _ s4 ?_⟩
    cases e2 : rt ρ3 with
    | stk => simp only [e2, Out.dry, Out.bind] at k2; exact False.elim k2
    | er ρ4 z => simp only [e2, Out.dry, Out.bind] at k2; exact False.elim k2
    | ok ρ4 b =>
     simp only [e2, Out.dry, Out.bind] at k2
     intro b' M4 W4 H4 g4 s4' hb
     have hb : b = b' := hb
     subst hb
     cases b with
     | true =>
      rw [if_pos rfl]
      refine he σ4 H4 M4 W4 ρ4 _ s4' ?_
      cases e3 : re ρ4 with
      | stk => simp only [if_pos, e3] at k2; exact False.elim k2
      | er ρ5 z => simp only [if_pos, e3] at k2; exact False.elim k2
      | ok ρ5 tp =>
       simp only [if_pos, e3] at k2
       intro y M5 W5 H5 g5 s5 h5
       cases e4 : stF ρ5 tp with
       | none => simp only [e4] at k2; exact False.elim k2
       | some xx =>
        obtain ⟨ρ6, ed⟩ := xx
        simp only [e4] at k2
        obtain ⟨M6, W6, g6, s6, r6, _⟩ := qJ s5 h5 e4
        by_cases hl : acc.length < sizeLine
        ·rw [if_pos hl] at k2
         have gr := ((g3.trans g4).trans g5).trans g6
         obtain ⟨W7, g7, s7, _, t7⟩ := pd M6 W6 H5 (zG ρ6 vs) gr (s6.unwipe p5)
         obtain ⟨a, o, ea, q1, q2, q3, q4⟩ := t7
         cases ea
         cases o <;> first | exact False.elim q2 | skip
         rename_i accV
         have q2 : Rps K M6 accV acc := q2
         refine ⟨accV, q1, by rw [q2.length]; exact hl, zG ρ6 vs, M6, W7, acc ++ [ed], g2.trans g7, s7.turn q1 True.intro q3 q4, ⟨Dl, _, rfl, upd_same, ?_, q3, q4.turnd s7⟩, KG.up g7 k2⟩
         exact Rps.append q2 (.cons r6 .nil)
        ·rw [if_neg hl] at k2; exact False.elim k2
     | false =>
      rw [if_neg Bool.false_ne_true]
      simp only [Bool.false_eq_true, if_false] at k2
      have gr := g3.trans g4
      obtain ⟨W7, g7, s7, _, t7⟩ := pd M4 W4 H4 (zG ρ4 vs) gr (s4'.unwipe p5)
      exact ⟨zG ρ4 vs, M4, W7, acc, g2.trans g7, s7, t7, KG.up g7 k2⟩
  ·have e : i = ds.length := by omega
   subst e
   rw [List.drop_length] at k2
   exact .inl ⟨w1, k2 _ M2 W2 H (Gr.refl _ _) s2 t2⟩)
end
end Vm
namespace Vm
open PySem PySem.Spec PyProof.Rows L2 Fz
inductive zY where
 | stk
 | ok (z : Rz) (io : Env)
 | er (x : Xn) (io : Env)
def qj (vs : List V) : Nat → Option Addr := fun i => match vs[i]? with
 | some (.ref a) => some a
 | _ => none
def spM (K : PySem.W.Frag) (T : List (Addr × Str)) (m : List (Fg × D) → zY) : Sp := fun vs H Q E => ∃ (args : List (Fg × D)) (B0 M : Hp), St K ⟨B0, qj vs, fun _ => none, T⟩ M B0 H (args.map some) (vs.map some) ∧ match m args with
 | .stk => False
 | .ok z io => ∀ v M' W' H', Gr M B0 M' W' → St K ⟨B0, qj vs, fun _ => none, T⟩ M' W' H' io (vs.map some) → TpOk K ⟨B0, qj vs, fun _ => none, T⟩ M' W' H' io (vs.map some) z.tp v → Q v H'
 | .er x io => ∀ d M' W' H', Gr M B0 M' W' → St K ⟨B0, qj vs, fun _ => none, T⟩ M' W' H' io (vs.map some) → XOk K M' x d → E (xU K x.cls) d H'
def io1 : Option (Fg × D) → Option (Fg × D)
 | some (.o u true, d) => some (.o u true, d)
 | some (.q true, d) => some (.q true, d)
 | _ => none
def xW : Fg → Bool
 | .o _ p => p
 | .q p => p
 | _ => false
def qW (np : Nat) (ρ : Env) : Env := (List.range np).map fun i => io1 (ρ.getD i none)
def zbN (np : Nat) : Out Fl → zY
 | .stk => .stk
 | .ok ρ .nx => .ok (.fz .none) (qW np ρ)
 | .ok ρ (.rt (.fz d)) => .ok (.fz d) (qW np ρ)
 | .ok ρ (.rt (.ow u d)) => .ok (.ow u d) (qW np ρ)
 | .ok ρ (.rt (.tr d)) => .ok (.tr d) (qW np ρ)
 | .ok _ _ => .stk
 | .er ρ x => .er x (qW np ρ)
def ZP (np n : Nat) (r : RS) (args : List (Fg × D)) : zY := if args.length = np then zbN np (r (args.map some ++ List.replicate (n - np) none)) else .stk
section
variable {K : PySem.W.Frag} {M W H : Hp} {ρ : Env} {σ : L2.St} {vs : List V} {B0 : Hp} {T : List (Addr × Str)}
theorem wO {x : Option (Fg × D)} {g : Fg} {d : D} (h : io1 x = some (g, d)) : xW g = true ∧ x = some (g, d) := by
 unfold io1 at h
 split at h
 ·cases h; exact ⟨rfl, rfl⟩
 ·cases h; exact ⟨rfl, rfl⟩
 ·exact nomatch h
theorem zaw {np i : Nat} {g : Fg} {d : D} (h : (qW np ρ)[i]? = some (some (g, d))) : i < np ∧ xW g = true ∧ ρ[i]? = some (some (g, d)) := by
 unfold qW at h
 rw [List.getElem?_map] at h
 rcases Nat.lt_or_ge i np with hl | hl
 ·rw [List.getElem?_range hl] at h
  refine ⟨hl, ?_⟩
  obtain ⟨h1, h2⟩ := wO (Option.some.inj h)
  refine ⟨h1, ?_⟩
  rw [List.getD_eq_getElem?_getD] at h2
  cases e : ρ[i]? with
  | none => rw [e] at h2; exact nomatch h2
  | some x => rw [e] at h2; rw [show x = some (g, d) from h2]
 ·rw [List.getElem?_eq_none (by rw [List.length_range]; exact hl)] at h; exact nomatch h
theorem SlOk.pin {B : Bx} {i : Nat} {g : Fg} {v : V} {d : D} (hg : xW g = true) (h : SlOk K B M W H i g v d) : ∃ a, v = .ref a ∧ B.p i = some a := by
 cases g with
 | o u p => obtain ⟨a, o, e, _, _, _, p4⟩ := h; exact ⟨a, e, p4 hg⟩
 | q p => obtain ⟨a, o, e, _, _, _, p4⟩ := h; exact ⟨a, e, p4 hg⟩
 | _ => exact absurd hg Bool.false_ne_true
theorem kJ {np : Nat} (s : St K ⟨B0, qj vs, fun _ => none, T⟩ M W H ρ σ) {i : Nat} {g : Fg} {d : D} (q : (qW np ρ)[i]? = some (some (g, d))) : ∃ a, ρ[i]? = some (some (g, d)) ∧ σ[i]? = some (some (.ref a)) ∧ (vs.map some)[i]? = some (some (.ref a)) ∧ SlOk K ⟨B0, qj vs, fun _ => none, T⟩ M W H i g (.ref a) d := by
 obtain ⟨hi, hp, q'⟩ := zaw q
 obtain ⟨v, h1, h2⟩ := s.sl i _ _ q'
 obtain ⟨a, rfl, p5⟩ := h2.pin hp
 refine ⟨a, q', h1, ?_, h2⟩
 have p5 : qj vs i = some a := p5
 unfold qj at p5
 split at p5
 ·rename_i b e
  cases p5
  rw [List.getElem?_map, e]; rfl
 ·exact nomatch p5
theorem Apart.io {np : Nat} {x : Addr} (s : St K ⟨B0, qj vs, fun _ => none, T⟩ M W H ρ σ) (ap : Apart K M H ρ σ x) : Apart K M H (qW np ρ) (vs.map some) x := fun i g d b F q z f => by
 obtain ⟨a, r1, r2, r3, _⟩ := kJ s q
 rw [r3] at z; cases z
 exact ap i g d _ F r1 r2 f
theorem St.io {np : Nat} (hn : np = vs.length) (s : St K ⟨B0, qj vs, fun _ => none, T⟩ M W H ρ σ) : St K ⟨B0, qj vs, fun _ => none, T⟩ M W H (qW np ρ) (vs.map some) ∧ ∀ z v, TpOk K ⟨B0, qj vs, fun _ => none, T⟩ M W H ρ σ (Rz.tp z) v → TpOk K ⟨B0, qj vs, fun _ => none, T⟩ M W H (qW np ρ) (vs.map some) z.tp v := by
 refine ⟨⟨s.bw, s.mw, s.wh, ?_, fun i g d q => ?_, fun i j g h d e a b F G hij q1 q2 z1 z2 f1 f2 => ?_, s.tb⟩, fun z v h => ?_⟩
 ·unfold qW; rw [List.length_map, List.length_map, List.length_range]; exact hn
 ·obtain ⟨a, _, _, q3, q4⟩ := kJ s q
  exact ⟨_, q3, q4⟩
 ·obtain ⟨a', r1, r2, r3, _⟩ := kJ s q1
  obtain ⟨a'', t1, t2, t3, _⟩ := kJ s q2
  rw [r3] at z1; cases z1
  rw [t3] at z2; cases z2
  exact s.sp i j _ _ d e _ _ F G hij r1 t1 r2 t2 f1 f2
 ·cases z with
  | fz d => exact h
  | ow u d =>
   obtain ⟨a, o, rfl, h1, h2, h3, h4⟩ := h
   exact ⟨a, o, rfl, h1, h2, h3, h4.io s⟩
  | tr d =>
   obtain ⟨a, F, rfl, h1, h2, h3, h4⟩ := h
   exact ⟨a, F, rfl, h1, h2, h3, fun x hx => (h4 x hx).io s⟩
theorem St.pad (s : St K ⟨B0, qj vs, fun _ => none, T⟩ M W H ρ σ) (n : Nat) : St K ⟨B0, qj vs, fun _ => none, T⟩ M W H (ρ ++ List.replicate n none) (σ ++ List.replicate n none) := by
 have key : ∀ {i : Nat} {g : Fg} {d : D}, (ρ ++ List.replicate n none)[i]? = some (some (g, d)) → ρ[i]? = some (some (g, d)) ∧ (σ ++ List.replicate n none)[i]? = σ[i]? := fun {i g d} q => by
  rcases Nat.lt_or_ge i ρ.length with h | h
  ·rw [List.getElem?_append_left h] at q
   exact ⟨q, List.getElem?_append_left (by rw [← s.ln]; exact h)⟩
  ·rw [List.getElem?_append_right h, List.getElem?_replicate] at q
   split at q <;> exact nomatch q
 refine ⟨s.bw, s.mw, s.wh, by rw [List.length_append, List.length_append, s.ln, List.length_replicate, List.length_replicate], fun i g d q => ?_, fun i j g h d e a b F G hij q1 q2 z1 z2 f1 f2 => ?_, s.tb⟩
 ·obtain ⟨q, e⟩ := key q
  obtain ⟨v, h1, h2⟩ := s.sl i g d q
  exact ⟨v, by rw [e]; exact h1, h2⟩
 ·obtain ⟨q1, e1⟩ := key q1
  obtain ⟨q2, e2⟩ := key q2
  exact s.sp i j g h d e a b F G hij q1 q2 (by rw [← e1]; exact z1) (by rw [← e2]; exact z2) f1 f2
end
section
variable {P : Program} {w : World} {K : PySem.W.Frag} {mg : Str → Option Value} {base : Heap} {T : List (Addr × Str)}
theorem Yl {t : TS} {r : RS} {np n : Nat} {vs : List V} {H : Hp} {Q : VK} {E : XK} (h : spM K T (ZP np n r) vs H Q E) (hb : ∀ B : Bx, SS K (B.at T) (fun cls d _ H => E cls d H) t r) :
  vs.length = np ∧ t { nx := fun _ H' => Q .non H', rt := Q } (vs.map some ++ List.replicate (n - np) none) H := by
 obtain ⟨args, B0, M, s, k⟩ := h
 unfold ZP at k
 by_cases hl : args.length = np
 ·rw [if_pos hl] at k
  have hv : vs.length = np := by
   have := s.ln
   rw [List.length_map, List.length_map] at this
   omega
  refine ⟨hv, hb ⟨B0, qj vs, fun _ => none, T⟩ _ _ H M B0 (args.map some ++ List.replicate (n - np) none) (s.pad _) ?_⟩
  cases e : r (args.map some ++ List.replicate (n - np) none) with
  | stk => rw [e] at k; exact k
  | er ρ x =>
   rw [e] at k
   intro σ' d M' W' H' gr st hx
   exact k d M' W' H' gr (st.io hv.symm).1 hx
  | ok ρ fl =>
   rw [e] at k
   intro σ' M' W' H' gr st
   obtain ⟨st2, f2⟩ := st.io (np := np) hv.symm
   cases fl with
   | nx => exact k .non M' W' H' gr st2 (Rp.non)
   | bk => exact False.elim k
   | ct => exact False.elim k
   | rt tp =>
    cases tp with
    | sl i => exact False.elim k
    | fz d => exact fun v hv => k v M' W' H' gr st2 (f2 (.fz d) v hv)
    | ow u d => exact fun v hv => k v M' W' H' gr st2 (f2 (.ow u d) v hv)
    | tr d => exact fun v hv => k v M' W' H' gr st2 (f2 (.tr d) v hv)
 ·rw [if_neg hl] at k; exact False.elim k
theorem okM {x qual : Str} {st : Stmt} {f : Addr} {fd : FuncData} {N ps : List Str} {k : Nat} {r : RS} (F : Fun K x qual st f fd) (S : FnScope N ps (defScope st))
  (body : ∀ (cdv : Value) (Ar : Around) (outer : List PySem.Env) (s : Shared) (H : Hp) (E : XK), Room k (Ar.deeper (envOfC qual (defScope st) s.heap.objs.size f cdv)) →
   ∃ t, PSs (cxOf CX0 P w K mg base N qual (defScope st) f cdv Ar outer s H E).nox (defBody st) t ∧ ∀ B : Bx, SS K (B.at T) (fun _ _ _ _ => False) t r) :
  FnOk P w K mg base CX0 (k + 1) f fd ps (spM K T (ZP ps.length N.length fun ρ => (r ρ).dry)) := by
 have up : ∀ {t : TS} {B : Bx} {E : XK}, SS K B (fun _ _ _ _ => False) t r → SS K B (fun cls d _ H => E cls d H) t fun ρ => (r ρ).dry := fun {t B E} h D σ H M W ρ s k => h D σ H M W ρ s (by
  dsimp only at k
  cases e : r ρ with
  | stk => rw [e] at k; exact k
  | er ρ' x => rw [e] at k; exact False.elim k
  | ok ρ' fl => rw [e] at k; exact k)
 refine F.ok S (fun vs H Q E h => ?_) (fun cdv Ar outer s H vs Q E hr h => ?_)
 ·obtain ⟨args, B0, M, s, k⟩ := h
  have := s.ln
  rw [List.length_map, List.length_map] at this
  unfold ZP at k
  by_cases hl : args.length = ps.length
  ·omega
  ·rw [if_neg hl] at k; exact False.elim k
 ·obtain ⟨t, d, q⟩ := body cdv Ar outer s H E hr
  obtain ⟨h1, h2⟩ := Yl h (fun B => up (q B))
  refine ⟨t, d, ?_⟩
  unfold L2.start
  rw [h1]
  exact h2
end
end Vm
namespace Vm
open PySem PySem.Spec PyProof.Rows L2 Fz
def QS : Bool → Tp → Tp
 | false, .ow _ d => .fz d
 | _, tp => tp
def Zz : List Bool → List Tp → List Tp
 | m :: ms, tp :: tps => QS m tp :: Zz ms tps
 | _, _ => []
def Jd (ρ : Env) : Bool → Tp → Option (Fg × D)
 | false, .fz d => some (.f, d)
 | false, .sl i => match ρ[i]? with
  | some (some (.f, d)) => some (.f, d)
  | some (some (.s, d)) => some (.s, d)
  | some (some (.e, _)) => none
  | some (some (.q _, _)) => none
  | some (some (_, d)) => some (.b, d)
  | _ => none
 | true, .sl i => match ρ[i]? with
  | some (some (.o u _, d)) => some (.o u true, d)
  | some (some (.q _, d)) => some (.q true, d)
  | _ => none
 | true, .ow u d => some (.o u true, d)
 | _, _ => none
def xM (ρ : Env) : List Bool → List Tp → Option (List (Fg × D))
 | [], [] => some []
 | m :: ms, tp :: tps => match Jd ρ m tp, xM ρ ms tps with
  | some x, some xs => some (x :: xs)
  | _, _ => none
 | _, _ => none
def Qg : List Bool → List Tp → Bool
 | m :: ms, .sl i :: tps => (!m || tps.all (fun tp => match tp with | .sl j => i != j | _ => true)) && (m || (ms.zip tps).all (fun x => match x with | (true, .sl j) => i != j | _ => true)) && Qg ms tps
 | _ :: ms, _ :: tps => Qg ms tps
 | _, _ => true
def Zi (ρ : Env) : List Bool → List Tp → Env → Option Env
 | [], [], _ => some ρ
 | true :: ms, .sl i :: tps, some (.o u true, d) :: io => match ρ[i]? with
  | some (some (.o _ p, _)) => Zi (ρ.set i (some (.o u p, d))) ms tps io
  | _ => none
 | true :: ms, .sl i :: tps, some (.q true, d) :: io => match ρ[i]? with
  | some (some (.q p, _)) => Zi (ρ.set i (some (.q p, d))) ms tps io
  | _ => none
 | true :: ms, .sl i :: tps, none :: io => Zi (ρ.set i none) ms tps io
 | true :: ms, .ow _ _ :: tps, _ :: io => Zi ρ ms tps io
 | false :: ms, _ :: tps, _ :: io => Zi ρ ms tps io
 | _, _, _ => none
def Zm (m : List (Fg × D) → zY) (ms : List Bool) (a : RA) : RE := fun ρ => (a ρ).bind fun ρ1 tps => if ms.length = tps.length ∧ Qg ms tps = true then (match xM ρ1 ms (Zz ms tps) with
 | none => .stk
 | some args => match m args with
  | .stk => .stk
  | .ok z io => match Zi ρ1 ms tps io with
   | some ρ2 => .ok ρ2 z.tp
   | none => .stk
  | .er x io => match Zi ρ1 ms tps io with
   | some ρ2 => .er ρ2 x
   | none => .stk) else .stk
section
variable {K : PySem.W.Frag} {B : Bx} {M W H : Hp} {ρ : Env} {σ : L2.St} {w : WX}
theorem TpsOk.at {tps : List Tp} : ∀ {vs : List V} {k : Nat} {tp : Tp}, TpsOk K B M W H ρ σ tps vs → tps[k]? = some tp → ∃ v, vs[k]? = some v ∧ TpOkL K B M W H ρ σ tp v := by
 induction tps with
 | nil => intro vs k tp _ e; simp at e
 | cons t tps ih =>
  intro vs k tp h e
  cases vs with
  | nil => exact False.elim h
  | cons u vs =>
   cases k with
   | zero => cases e; exact ⟨u, rfl, h.1⟩
   | succ k => exact ih (vs := vs) h.2.1 (by simpa using e)
theorem TpsOk.len {tps : List Tp} : ∀ {vs : List V}, TpsOk K B M W H ρ σ tps vs → vs.length = tps.length := by
 induction tps with
 | nil => intro vs h; cases vs with
  | nil => rfl
  | cons _ _ => exact False.elim h
 | cons t tps ih =>
  intro vs h
  cases vs with
  | nil => exact False.elim h
  | cons u vs => rw [List.length_cons, List.length_cons, ih h.2.1]
theorem Jm {tps : List Tp} : ∀ {vs : List V} {k : Nat} {u : Bool} {d : D} {v : V}, tps[k]? = some (.ow u d) → vs[k]? = some v → v ∈ zJ tps vs := by
 induction tps with
 | nil => intro vs k u d v e _; simp at e
 | cons t tps ih =>
  intro vs k u d v e e2
  cases vs with
  | nil => simp at e2
  | cons x vs =>
   cases k with
   | zero => cases e; cases e2; simp [zJ]
   | succ k =>
    have := ih (vs := vs) (k := k) (by simpa using e) (by simpa using e2)
    cases t <;> simp [zJ, this]
theorem TpsOk.ne {tps : List Tp} : ∀ {vs : List V} {k l : Nat} {u u' : Bool} {d d' : D} {v : V}, TpsOk K B M W H ρ σ tps vs → tps[k]? = some (.ow u d) → tps[l]? = some (.ow u' d') → vs[k]? = some v → vs[l]? = some v → k = l := by
 induction tps with
 | nil => intro vs k l u u' d d' v _ e; simp at e
 | cons t tps ih =>
  intro vs k l u u' d d' v h e1 e2 q1 q2
  cases vs with
  | nil => exact False.elim h
  | cons x vs =>
   obtain ⟨h1, h2, h3⟩ := h
   cases k with
   | zero =>
    cases l with
    | zero => rfl
    | succ l =>
     cases e1; cases q1
     exact absurd (Jm (vs := vs) (by simpa using e2) (by simpa using q2)) (h3 _ _ rfl)
   | succ k =>
    cases l with
    | zero =>
     cases e2; cases q2
     exact absurd (Jm (vs := vs) (by simpa using e1) (by simpa using q1)) (h3 _ _ rfl)
    | succ l =>
     have := ih (vs := vs) (k := k) (l := l) h2 (by simpa using e1) (by simpa using e2) (by simpa using q1) (by simpa using q2)
     rw [this]
theorem TpsOk.keep {M' W' : Hp} {ρ' : Env} {tp : Tp} {v : V} (f1 : ∀ tp' v', TpOkL K B M W H ρ σ tp' v' → (∀ g d, tp = .ow g d → ∀ g' d', tp' = .ow g' d' → v' ≠ v) → TpOkL K B M' W' H ρ' σ tp' v') : ∀ {tps : List Tp} {vs : List V}, TpsOk K B M W H ρ σ tps vs → (∀ g d, tp = .ow g d → v ∉ zJ tps vs) → TpsOk K B M' W' H ρ' σ tps vs := by
 intro tps
 induction tps with
 | nil => intro vs h _; cases vs with
  | nil => trivial
  | cons _ _ => exact False.elim h
 | cons t tps ih =>
  intro vs h n
  cases vs with
  | nil => exact False.elim h
  | cons u vs =>
   obtain ⟨q1, q2, q3⟩ := h
   refine ⟨f1 t u q1 fun g d e g' d' e' z => ?_, ih q2 fun g d e z => n g d e ?_, q3⟩
   ·subst e'
    exact n g d e (by simp [zJ, z])
   ·cases t with
    | sl i => exact z
    | fz x => exact z
    | tr x => exact z
    | ow _ _ => simp [zJ, z]
theorem WP : ∀ {ms : List Bool} {tps : List Tp} {vs : List V} {x : V}, x ∈ zJ (Zz ms tps) vs → x ∈ zJ tps vs := by
 intro ms
 induction ms with
 | nil => intro tps vs x hx; simp [Zz, zJ] at hx
 | cons m ms ih =>
  intro tps vs x hx
  cases tps with
  | nil => simp [Zz, zJ] at hx
  | cons t tps =>
   cases vs with
   | nil => cases m <;> cases t <;> simp [Zz, QS, zJ] at hx
   | cons u vs =>
    cases t with
    | sl i => cases m <;> exact ih (tps := tps) (vs := vs) (by simpa [Zz, QS, zJ] using hx)
    | fz e => cases m <;> exact ih (tps := tps) (vs := vs) (by simpa [Zz, QS, zJ] using hx)
    | tr e => cases m <;> exact ih (tps := tps) (vs := vs) (by simpa [Zz, QS, zJ] using hx)
    | ow g e =>
     cases m with
     | false =>
      have := ih (tps := tps) (vs := vs) (x := x) (by simpa [Zz, QS, zJ] using hx)
      simp [zJ, this]
     | true =>
      have hx : x = u ∨ x ∈ zJ (Zz ms tps) vs := by simpa [Zz, QS, zJ] using hx
      rcases hx with rfl | hx
      ·simp [zJ]
      ·simp [zJ, ih hx]
theorem JG : ∀ {ms : List Bool} {tps : List Tp} {vs : List V} {M W : Hp}, ms.length = tps.length → St K B M W H ρ σ → TpsOk K B M W H ρ σ tps vs → ∃ M' W', Gr M W M' W' ∧ St K B M' W' H ρ σ ∧ TpsOk K B M' W' H ρ σ (Zz ms tps) vs ∧
  ∀ tp' v', TpOkL K B M W H ρ σ tp' v' → ((∃ g d, tp' = .ow g d) → v' ∉ zJ tps vs) → TpOkL K B M' W' H ρ σ tp' v'
 | [], [], vs, M, W, _, s, h => ⟨M, W, Gr.refl _ _, s, h, fun _ _ q _ => q⟩
 | m :: ms, tp :: tps, [], M, W, _, s, h => False.elim h
 | m :: ms, tp :: tps, v :: vs, M, W, hl, s, h => by
  obtain ⟨h1, h2, h3⟩ := h
  have xB : QS m tp = tp → ∃ M' W', Gr M W M' W' ∧ St K B M' W' H ρ σ ∧ TpsOk K B M' W' H ρ σ (Zz (m :: ms) (tp :: tps)) (v :: vs) ∧
    ∀ tp' v', TpOkL K B M W H ρ σ tp' v' → ((∃ g d, tp' = .ow g d) → v' ∉ zJ (tp :: tps) (v :: vs)) → TpOkL K B M' W' H ρ σ tp' v' := fun em => by
   obtain ⟨M1, W1, g1, s1, k1, f1⟩ := JG (ms := ms) (tps := tps) (by simpa using hl) s h2
   refine ⟨M1, W1, g1, s1, ⟨by rw [em]; exact f1 tp v h1 fun ⟨g, d, e⟩ => h3 g d e, k1, fun g d e z => ?_⟩, fun tp' v' q n => f1 tp' v' q fun x z => n x ?_⟩
   ·rw [em] at e
    exact h3 g d e (WP z)
   ·cases tp <;> simp [zJ, z]
  cases tp with
  | sl i => exact xB (by cases m <;> rfl)
  | fz d => exact xB (by cases m <;> rfl)
  | tr d => exact xB (by cases m <;> rfl)
  | ow u d =>
   cases m with
   | true => exact xB rfl
   | false =>
    obtain ⟨M1, W1, g1, s1, r1, f1⟩ := qJ (ρ' := ρ) (d := d) s (h1.ok fun _ z => nomatch z) rfl
    have k1 := TpsOk.keep f1 h2 h3
    obtain ⟨M2, W2, g2, s2, k2, f2⟩ := JG (ms := ms) (tps := tps) (by simpa using hl) s1 k1
    refine ⟨M2, W2, g1.trans g2, s2, ⟨Rp.mono g2.m r1, k2, fun g d e => nomatch e⟩, fun tp' v' q n => f2 tp' v' (f1 tp' v' q fun g d e g' d' e' z => n ⟨g', d', e'⟩ (by simp [zJ, z])) fun x z => n x (by simp [zJ, z])⟩
end
end Vm
namespace Vm
open PySem PySem.Spec PyProof.Rows L2 Fz
section
variable {K : PySem.W.Frag} {B : Bx} {M W H : Hp} {ρ : Env} {σ : L2.St} {w : WX}
theorem xD : ∀ {ms : List Bool} {tps : List Tp} {args : List (Fg × D)}, xM ρ ms tps = some args → ms.length = tps.length ∧ args.length = tps.length ∧ ∀ (k : Nat) (x : Fg × D), args[k]? = some x → ∃ m tp, ms[k]? = some m ∧ tps[k]? = some tp ∧ Jd ρ m tp = some x
 | [], [], args, e => by cases e; exact ⟨rfl, rfl, fun k x h => by simp at h⟩
 | [], _ :: _, args, e => nomatch e
 | _ :: _, [], args, e => nomatch e
 | m :: ms, tp :: tps, args, e => by
  unfold xM at e
  cases e1 : Jd ρ m tp with
  | none => rw [e1] at e; exact nomatch e
  | some x =>
   cases e2 : xM ρ ms tps with
   | none => rw [e1, e2] at e; exact nomatch e
   | some xs =>
    rw [e1, e2] at e
    cases e
    obtain ⟨h1, h2, h3⟩ := xD e2
    refine ⟨by simp [h1], by simp [h2], fun k y h => ?_⟩
    cases k with
    | zero => cases h; exact ⟨m, tp, rfl, rfl, e1⟩
    | succ k => exact h3 k y (by simpa using h)
theorem JK : ∀ {ms : List Bool} {tps : List Tp} (k : Nat), ms.length = tps.length → (Zz ms tps)[k]? = match ms[k]?, tps[k]? with | some m, some tp => some (QS m tp) | _, _ => none
 | [], [], k, _ => by simp [Zz]
 | m :: ms, tp :: tps, 0, _ => rfl
 | m :: ms, tp :: tps, k + 1, h => by
  show (Zz ms tps)[k]? = _
  rw [JK k (by simpa using h)]
  simp
theorem Ky : ∀ {ms : List Bool} {tps : List Tp}, ms.length = tps.length → (Zz ms tps).length = tps.length
 | [], [], _ => rfl
 | m :: ms, tp :: tps, h => by
  show (QS m tp :: Zz ms tps).length = _
  rw [List.length_cons, List.length_cons, Ky (by simpa using h)]
theorem JX : ∀ {ms : List Bool} {tps : List Tp} {k l i j : Nat}, ms.length = tps.length → Qg ms tps = true → ms[k]? = some true → tps[k]? = some (.sl i) → tps[l]? = some (.sl j) → k ≠ l → i ≠ j
 | [], [], k, l, i, j, _, _, h, _, _, _ => by simp at h
 | m :: ms, tp :: tps, k, l, i, j, hl, h, h1, h2, h3, hk => by
  have hl' : ms.length = tps.length := by simpa using hl
  have tail : Qg ms tps = true := by
   cases tp with
   | sl x => unfold Qg at h; simp only [Bool.and_eq_true] at h; exact h.2
   | fz d => exact h
   | ow u d => exact h
   | tr d => exact h
  cases k with
  | zero =>
   cases h1; cases h2
   cases l with
   | zero => exact absurd rfl hk
   | succ l =>
    have h3 : tps[l]? = some (.sl j) := by simpa using h3
    unfold Qg at h
    simp only [Bool.and_eq_true, Bool.or_eq_true, Bool.not_true, Bool.false_eq_true, false_or, true_or, List.all_eq_true] at h
    have := h.1.1 _ (List.mem_of_getElem? h3)
    simpa using this
  | succ k =>
   have h1 : ms[k]? = some true := by simpa using h1
   have h2 : tps[k]? = some (.sl i) := by simpa using h2
   cases l with
   | zero =>
    cases h3
    unfold Qg at h
    simp only [Bool.and_eq_true, Bool.or_eq_true, List.all_eq_true] at h
    cases m with
    | true =>
     have := h.1.1
     simp only [Bool.not_true, Bool.false_eq_true, false_or] at this
     have := this _ (List.mem_of_getElem? h2)
     intro e; subst e; simp at this
    | false =>
     have := h.1.2
     simp only [Bool.false_eq_true, false_or] at this
     have hz : (ms.zip tps)[k]? = some (true, .sl i) := by rw [List.getElem?_zip_eq_some]; exact ⟨h1, h2⟩
     have := this _ (List.mem_of_getElem? hz)
     intro e; subst e; simp at this
   | succ l => exact JX (k := k) (l := l) hl' tail h1 h2 (by simpa using h3) (by omega)
def ZZ : Fg → Bool
 | .o _ _ => true
 | .q _ => true
 | _ => false
def jf (p : Bool) : Fg → Fg
 | .o u _ => .o u p
 | .q _ => .q p
 | g => g
def Cel (K : PySem.W.Frag) (M W H : Hp) : Fg → Addr → D → List Addr → Prop
 | .o u _, r, d, F => F = [r] ∧ ∃ o, H r = some o ∧ OwnO K M u o d ∧ W r = none
 | .q _, r, d, F => TrO K M H r d F ∧ F.Nodup ∧ ∀ x ∈ F, W x = none
 | _, _, _, _ => False
theorem Cel.flag {g : Fg} {r : Addr} {d : D} {F : List Addr} (h : Cel K M W H g r d F) : ZZ g = true := by cases g <;> first | rfl | exact False.elim h
theorem Cel.sf {g : Fg} {r : Addr} {d : D} {F : List Addr} (h : Cel K M W H g r d F) : SF K M H g r d F := by
 cases g with
 | o u p => exact h.1
 | q p => exact h.1
 | _ => exact False.elim h
theorem Cel.wn {g : Fg} {r : Addr} {d : D} {F : List Addr} (h : Cel K M W H g r d F) : ∀ x ∈ F, W x = none := by
 cases g with
 | o u p => obtain ⟨rfl, o, _, _, q⟩ := h; intro x hx; rw [List.mem_singleton] at hx; rw [hx]; exact q
 | q p => exact h.2.2
 | _ => exact False.elim h
theorem Cel.cell {g : Fg} {r : Addr} {d : D} {F : List Addr} (h : Cel K M W H g r d F) : ∀ x ∈ F, ∃ o, H x = some o ∧ V3 o ∧ ∀ ps, o ≠ .tbl ps := by
 cases g with
 | o u p => obtain ⟨rfl, o, q1, q2, _⟩ := h; intro x hx; rw [List.mem_singleton] at hx; subst hx; exact ⟨o, q1, mutF q2.mut, q2.kind.nt⟩
 | q p => intro x hx; obtain ⟨o, q1, q2⟩ := h.1.cell x hx; exact ⟨o, q1, q2.mutF, q2.nt⟩
 | _ => exact False.elim h
theorem Cel.repin {g : Fg} {r : Addr} {d : D} {F : List Addr} (p : Bool) (h : Cel K M W H g r d F) : Cel K M W H (jf p g) r d F := by cases g <;> exact h
theorem SF.repin {g : Fg} {r : Addr} {d : D} {F : List Addr} {p : Bool} (h : SF K M H (jf p g) r d F) : SF K M H g r d F := by cases g <;> exact h
theorem Cel.tr {M' W' H' : Hp} {g : Fg} {r : Addr} {d : D} {F : List Addr} (h : Cel K M W H g r d F) (hm : Lq K M M') (hh : ∀ x ∈ F, ∀ o, H x = some o → H' x = some o) (hw : ∀ x ∈ F, W' x = none) : Cel K M' W' H' g r d F := by
 cases g with
 | o u p => obtain ⟨rfl, o, q1, q2, _⟩ := h; exact ⟨rfl, o, hh _ (List.mem_singleton.mpr rfl) _ q1, q2.lq hm, hw _ (List.mem_singleton.mpr rfl)⟩
 | q p => exact ⟨h.1.lq hm hh, h.2.1, hw⟩
 | _ => exact False.elim h
theorem Cel.sl {B' : Bx} {i : Nat} {g : Fg} {r : Addr} {d : D} {F : List Addr} (h : Cel K M W H g r d F) (hp : xW g = true → B'.p i = some r) : SlOk K B' M W H i g (.ref r) d := by
 cases g with
 | o u p => obtain ⟨_, o, q1, q2, q3⟩ := h; exact ⟨r, o, rfl, q1, q2, q3, hp⟩
 | q p => exact ⟨r, F, rfl, h.1, h.2.1, h.2.2, hp⟩
 | _ => exact False.elim h
theorem SlOk.cel {B' : Bx} {i : Nat} {g : Fg} {v : V} {d : D} (hg : ZZ g = true) (h : SlOk K B' M W H i g v d) : ∃ r F, v = .ref r ∧ Cel K M W H g r d F := by
 cases g with
 | o u p => obtain ⟨a, o, rfl, q1, q2, q3, _⟩ := h; exact ⟨a, _, rfl, rfl, o, q1, q2, q3⟩
 | q p => obtain ⟨a, F, rfl, q1, q2, q3, _⟩ := h; exact ⟨a, F, rfl, q1, q2, q3⟩
 | _ => exact absurd hg Bool.false_ne_true
theorem SF.flag {g : Fg} {r : Addr} {d : D} {F : List Addr} (h : SF K M H g r d F) : ZZ g = true := by cases g <;> first | rfl | exact False.elim h
theorem SF.uniq {g : Fg} {r : Addr} {d : D} {F G : List Addr} (h : SF K M H g r d F) (k : SF K M H g r d G) : F = G := by
 cases g with
 | o u p => cases h; cases k; rfl
 | q p => exact TrO.uniq (.of (Same.refl _)) h k
 | _ => exact False.elim h
def IO (K : PySem.W.Frag) (M H : Hp) (ms : List Bool) (args : List (Fg × D)) (vs : List V) (a : Addr) : Prop := ∃ (k : Nat) (x : Fg × D) (r : Addr) (F : List Addr), ms[k]? = some true ∧ args[k]? = some x ∧ vs[k]? = some (.ref r) ∧ SF K M H x.1 r x.2 F ∧ a ∈ F
open Classical in
noncomputable def bIO (P : Addr → Prop) (H : Hp) : Hp := fun a => if P a ∨ ∃ ps, H a = some (.tbl ps) then none else H a
theorem zaI {P : Addr → Prop} {a : Addr} (h : P a) : bIO P H a = none := if_pos (.inl h)
theorem X4 {P : Addr → Prop} {a : Addr} (h : ¬ P a) (ht : ∀ ps, H a ≠ some (.tbl ps)) : bIO P H a = H a := if_neg fun z => z.elim h fun ⟨ps, e⟩ => ht ps e
theorem Wn {P : Addr → Prop} {a : Addr} {o : HO} (h : bIO P H a = some o) : H a = some o := by
 unfold bIO at h
 split at h
 ·exact nomatch h
 ·exact h
theorem wy {P : Addr → Prop} : NoTb (bIO P H) := fun b ps e => by
 unfold bIO at e
 split at e
 ·exact nomatch e
 ·rename_i h; exact h (.inr ⟨ps, e⟩)
structure Ent (K : PySem.W.Frag) (B : Bx) (M W H : Hp) (ρ : Env) (σ : L2.St) (ms : List Bool) (tps : List Tp) (vs : List V) (args : List (Fg × D)) : Prop where
 s : St K B M W H ρ σ
 t : TpsOk K B M W H ρ σ (Zz ms tps) vs
 p : xM ρ ms (Zz ms tps) = some args
 o : Qg ms tps = true
 l : ms.length = tps.length
variable {ms : List Bool} {tps : List Tp} {vs : List V} {args : List (Fg × D)}
theorem Ent.io (E : Ent K B M W H ρ σ ms tps vs args) {k : Nat} {x : Fg × D} (hx : args[k]? = some x) (hm : ms[k]? = some true) : ∃ r F, vs[k]? = some (.ref r) ∧ xW x.1 = true ∧ Cel K M W H x.1 r x.2 F ∧
  ((∃ i g0, tps[k]? = some (.sl i) ∧ ρ[i]? = some (some (g0, x.2)) ∧ σ[i]? = some (some (.ref r)) ∧ SF K M H g0 r x.2 F) ∨ (∃ u d, F = [r] ∧ tps[k]? = some (.ow u d) ∧ (Zz ms tps)[k]? = some (.ow u d) ∧ Apart K M H ρ σ r)) := by
 obtain ⟨_, _, h3⟩ := xD E.p
 obtain ⟨m, tp', q1, q2, q3⟩ := h3 k x hx
 rw [hm] at q1; cases q1
 obtain ⟨v, v1, v2⟩ := E.t.at q2
 have q2' := q2
 rw [JK k E.l, hm] at q2
 cases e : tps[k]? with
 | none => rw [e] at q2; exact nomatch q2
 | some tp =>
  rw [e] at q2
  have q2 : tp = tp' := by cases tp <;> exact Option.some.inj q2
  subst q2
  cases tp with
  | fz d => exact nomatch q3
  | tr d => exact nomatch q3
  | ow u d =>
   cases q3
   obtain ⟨a, o, rfl, p1, p2, p3, p4⟩ := v2
   exact ⟨a, [a], v1, rfl, ⟨rfl, o, p1, p2, p3⟩, .inr ⟨u, d, rfl, rfl, q2', p4⟩⟩
  | sl i =>
   have v2 : σ[i]? = some (some v) := v2
   unfold Jd at q3
   dsimp only at q3
   split at q3
   ·rename_i u p d hr
    cases q3
    obtain ⟨v', r1, r2⟩ := E.s.sl i _ _ hr
    rw [v2] at r1; cases r1
    obtain ⟨r, F, rfl, c⟩ := SlOk.cel (g := .o u p) rfl r2
    exact ⟨r, F, v1, rfl, c, .inl ⟨i, _, rfl, hr, v2, c.sf⟩⟩
   ·rename_i p d hr
    cases q3
    obtain ⟨v', r1, r2⟩ := E.s.sl i _ _ hr
    rw [v2] at r1; cases r1
    obtain ⟨r, F, rfl, c⟩ := SlOk.cel (g := .q p) rfl r2
    exact ⟨r, F, v1, rfl, c, .inl ⟨i, _, rfl, hr, v2, c.sf⟩⟩
   ·exact nomatch q3
theorem Ent.len (E : Ent K B M W H ρ σ ms tps vs args) : args.length = vs.length ∧ ms.length = vs.length := by
 obtain ⟨_, h2, _⟩ := xD E.p
 have h3 := E.t.len
 have h4 := Ky E.l
 have := E.l
 omega
theorem Ent.ioW (E : Ent K B M W H ρ σ ms tps vs args) {a : Addr} (h : IO K M H ms args vs a) : W a = none := by
 obtain ⟨k, x, r, F, h1, h2, h3, h4, h5⟩ := h
 obtain ⟨r', F', q1, q2, q3, _⟩ := E.io h2 h1
 rw [h3] at q1; cases q1
 have := q3.sf.uniq h4
 subst this
 exact q3.wn a h5
theorem Ent.sameB (E : Ent K B M W H ρ σ ms tps vs args) : Same W (bIO (IO K M H ms args vs) H) := fun a o h => by
 have : ¬ IO K M H ms args vs a := fun q => by
  have hw := E.ioW q
  rw [h] at hw; cases hw
 have hh := E.s.wh _ _ h
 rw [X4 this fun ps z => by rw [hh] at z; cases z; exact E.s.tb.1 _ _ h]; exact hh
theorem Ent.notIO (E : Ent K B M W H ρ σ ms tps vs args) {j : Nat} {g : Fg} {d : D} {b : Addr} {G : List Addr} (hr : ρ[j]? = some (some (g, d))) (hs : σ[j]? = some (some (.ref b))) (hf : SF K M H g b d G) (hn : ∀ k : Nat, ms[k]? = some true → tps[k]? ≠ some (.sl j)) : ∀ a ∈ G, ¬ IO K M H ms args vs a := fun a ha q => by
 obtain ⟨k, x, r, F, h1, h2, h3, h4, h5⟩ := q
 obtain ⟨r', F', q1, _, q3, q5⟩ := E.io h2 h1
 rw [h3] at q1; cases q1
 have := q3.sf.uniq h4
 subst this
 rcases q5 with ⟨i, g0, t1, t2, t3, t4⟩ | ⟨u, d', rfl, t1, _, ap⟩
 ·by_cases hij : i = j
  ·subst hij; exact hn k h1 t1
  ·exact E.s.sp i j _ _ _ _ _ _ _ _ hij t2 hr t3 hs t4 hf a h5 ha
 ·rw [List.mem_singleton] at h5; subst h5
  exact ap j g d b G hr hs hf ha
theorem Ent.stay (E : Ent K B M W H ρ σ ms tps vs args) {j : Nat} {g : Fg} {d : D} {b : Addr} {G : List Addr} (hr : ρ[j]? = some (some (g, d))) (hs : σ[j]? = some (some (.ref b))) (hf : SF K M H g b d G) (hn : ∀ k : Nat, ms[k]? = some true → tps[k]? ≠ some (.sl j)) : ∀ a ∈ G, ∃ o, H a = some o ∧ V3 o ∧ bIO (IO K M H ms args vs) H a = some o := fun a ha => by
 obtain ⟨v, v1, v2⟩ := E.s.sl j g d hr
 rw [hs] at v1; cases v1
 obtain ⟨r, F, e, c⟩ := v2.cel hf.flag
 cases e
 have := c.sf.uniq hf
 subst this
 obtain ⟨o, q1, q2, q3⟩ := c.cell a ha
 exact ⟨o, q1, q2, by rw [X4 (E.notIO hr hs hf hn a ha) fun ps z => by rw [q1] at z; cases z; exact q3 _ rfl]; exact q1⟩
theorem Ent.own (E : Ent K B M W H ρ σ ms tps vs args) {k : Nat} {g : Fg} {d : D} (hg : ZZ g = true) (q : (args.map some)[k]? = some (some (g, d))) : args[k]? = some (g, d) ∧ ms[k]? = some true := by
 rw [List.getElem?_map] at q
 cases hx : args[k]? with
 | none => rw [hx] at q; exact nomatch q
 | some x =>
  rw [hx] at q
  have q : x = (g, d) := Option.some.inj (Option.some.inj q)
  subst q
  obtain ⟨_, _, h3⟩ := xD E.p
  obtain ⟨m, tp', q1, q2, q3⟩ := h3 k _ hx
  cases m with
  | true => exact ⟨rfl, q1⟩
  | false =>
   exfalso
   cases tp' with
   | fz d' => cases q3; exact absurd hg Bool.false_ne_true
   | ow u d' => exact nomatch q3
   | tr d' => exact nomatch q3
   | sl i =>
    unfold Jd at q3
    dsimp only at q3
    split at q3
    ·cases q3; exact absurd hg Bool.false_ne_true
    ·cases q3; exact absurd hg Bool.false_ne_true
    ·exact nomatch q3
    ·exact nomatch q3
    ·cases q3; exact absurd hg Bool.false_ne_true
    ·exact nomatch q3
theorem Ent.enter (E : Ent K B M W H ρ σ ms tps vs args) : St K ⟨bIO (IO K M H ms args vs) H, qj vs, fun _ => none, B.t⟩ M (bIO (IO K M H ms args vs) H) H (args.map some) (vs.map some) := by
 have sb := E.sameB
 obtain ⟨hl1, hl2⟩ := E.len
 refine ⟨Same.refl _, E.s.mw.trans sb, fun a o h => ?_, by rw [List.length_map, List.length_map]; exact hl1, fun k g d q => ?_, fun k l g h d e a b F G hkl q1 q2 z1 z2 f1 f2 => ?_, ⟨wy, E.s.tb.2⟩⟩
 ·exact Wn h
 ·rw [List.getElem?_map] at q
  cases hx : args[k]? with
  | none => rw [hx] at q; exact nomatch q
  | some x =>
   rw [hx] at q
   have q : x = (g, d) := Option.some.inj (Option.some.inj q)
   subst q
   obtain ⟨_, _, h3⟩ := xD E.p
   obtain ⟨m, tp', q1, q2, q3⟩ := h3 k _ hx
   cases m with
   | true =>
    obtain ⟨r, F, r1, r2, r3, _⟩ := E.io hx q1
    refine ⟨.ref r, by rw [List.getElem?_map, r1]; rfl, (r3.tr (W' := bIO (IO K M H ms args vs) H) (.of (Same.refl _)) (fun _ _ _ h => h) fun y hy => zaI ⟨k, _, r, F, q1, hx, r1, r3.sf, hy⟩).sl fun _ => ?_⟩
    show qj vs k = some r
    unfold qj
    rw [r1]
   | false =>
    obtain ⟨v, v1, v2⟩ := E.t.at q2
    refine ⟨v, by rw [List.getElem?_map, v1]; rfl, ?_⟩
    cases tp' with
    | fz d' => cases q3; exact v2
    | ow u d' => exact nomatch q3
    | tr d' => exact nomatch q3
    | sl i =>
     have v2 : σ[i]? = some (some v) := v2
     have htp : tps[k]? = some (.sl i) := by
      rw [JK k E.l, q1] at q2
      cases e : tps[k]? with
      | none => rw [e] at q2; exact nomatch q2
      | some tp =>
       rw [e] at q2
       cases tp with
       | sl j => exact q2
       | fz _ => exact nomatch q2
       | tr _ => exact nomatch q2
       | ow _ _ => exact nomatch q2
     unfold Jd at q3
     dsimp only at q3
     split at q3
     ·rename_i d' hr
      cases q3
      obtain ⟨v', r1, r2⟩ := E.s.sl i _ _ hr
      rw [v2] at r1; cases r1
      exact r2
     ·rename_i d' hr
      cases q3
      obtain ⟨v', r1, r2⟩ := E.s.sl i _ _ hr
      rw [v2] at r1; cases r1
      obtain ⟨a, ns, e1, e2, e3⟩ := r2
      exact ⟨a, ns, e1, (E.s.bw.trans sb).seq e2, e3⟩
     ·exact nomatch q3
     ·exact nomatch q3
     ·rename_i g' d' hf hf2 hf3 hf4 hr
      cases q3
      obtain ⟨v', r1, r2⟩ := E.s.sl i _ _ hr
      rw [v2] at r1; cases r1
      cases g' with
      | f => exact (hf rfl).elim
      | s => exact (hf2 rfl).elim
      | e => exact (hf3 rfl).elim
      | q p => exact (hf4 _ rfl).elim
      | l => exact r2.2.r1 (E.s.mw.trans sb) (E.s.bw.trans sb)
      | b => exact R1.mono (E.s.bw.trans sb) (Same.refl _) r2
      | o u p =>
       obtain ⟨a, o, rfl, p1, p2, p3, _⟩ := r2
       have ni : ¬ IO K M H ms args vs a := E.notIO (g := .o u p) (G := [a]) hr v2 rfl (fun l hl e => by
        by_cases hk : l = k
        ·subst hk; rw [q1] at hl; cases hl
        ·exact JX E.l E.o hl e htp hk rfl) a (List.mem_singleton.mpr rfl)
       exact p2.r1 (by show bIO _ H a = some o; rw [X4 ni fun ps z => by rw [p1] at z; cases z; exact p2.kind]; exact p1)
     ·exact nomatch q3
 ·obtain ⟨x1, m1⟩ := E.own f1.flag q1
  obtain ⟨x2, m2⟩ := E.own f2.flag q2
  obtain ⟨a1, F1, r1, _, r3, r6⟩ := E.io x1 m1
  obtain ⟨a2, F2, t1, _, t3, t6⟩ := E.io x2 m2
  have z1' := z1
  have z2' := z2
  rw [List.getElem?_map, r1] at z1'
  rw [List.getElem?_map, t1] at z2'
  cases z1'; cases z2'
  have := r3.sf.uniq f1
  subst this
  have := t3.sf.uniq f2
  subst this
  intro y hy hy2
  rcases r6 with ⟨i, g1, p1, p2, p3, p4⟩ | ⟨u1, d1, rfl, p1, p2, p3⟩
  ·rcases t6 with ⟨j, g2, s1, s2, s3, s4⟩ | ⟨u2, d2, rfl, s1, s2, s3⟩
   ·exact E.s.sp i j _ _ _ _ _ _ _ _ (JX E.l E.o m1 p1 s1 hkl) p2 s2 p3 s3 p4 s4 y hy hy2
   ·rw [List.mem_singleton] at hy2; subst hy2
    exact s3 i _ _ _ _ p2 p3 p4 hy
  ·rw [List.mem_singleton] at hy; subst hy
   rcases t6 with ⟨j, g2, s1, s2, s3, s4⟩ | ⟨u2, d2, rfl, s1, s2, s3⟩
   ·exact p3 j _ _ _ _ s2 s3 s4 hy2
   ·rw [List.mem_singleton] at hy2; subst hy2
    exact hkl (E.t.ne p2 s2 r1 t1)
theorem JB : ∀ {ms : List Bool} {tps : List Tp} {io ρ ρ2 : Env}, Zi ρ ms tps io = some ρ2 → ρ2.length = ρ.length ∧
  (∀ (j : Nat) (x : Fg × D), ρ2[j]? = some (some x) → (ρ[j]? = some (some x) ∧ ∀ k : Nat, ms[k]? = some true → tps[k]? ≠ some (.sl j)) ∨ ∃ (k : Nat) (g g0 : Fg) (d d0 : D), ms[k]? = some true ∧ tps[k]? = some (.sl j) ∧ io[k]? = some (some (g, d)) ∧ ZZ g = true ∧ ZZ g0 = true ∧ ρ[j]? = some (some (g0, d0)) ∧ x = (jf (xW g0) g, d))
 | [], [], io, ρ, ρ2, e => by
  have e : ρ = ρ2 := by simpa [Zi] using e
  subst e; exact ⟨rfl, fun j x h => .inl ⟨h, fun k h => by simp at h⟩⟩
 | m :: ms, tp :: tps, io, ρ, ρ2, e => by
  cases io with
  | nil => cases m <;> cases tp <;> simp [Zi] at e
  | cons y io =>
   have xB : (m = false ∨ ∀ i, tp ≠ .sl i) → Zi ρ ms tps io = some ρ2 → ρ2.length = ρ.length ∧
    (∀ (j : Nat) (x : Fg × D), ρ2[j]? = some (some x) → (ρ[j]? = some (some x) ∧ ∀ k : Nat, (m :: ms)[k]? = some true → (tp :: tps)[k]? ≠ some (.sl j)) ∨ ∃ (k : Nat) (g g0 : Fg) (d d0 : D), (m :: ms)[k]? = some true ∧ (tp :: tps)[k]? = some (.sl j) ∧ (y :: io)[k]? = some (some (g, d)) ∧ ZZ g = true ∧ ZZ g0 = true ∧ ρ[j]? = some (some (g0, d0)) ∧ x = (jf (xW g0) g, d)) := fun hmt e => by
    obtain ⟨h1, h2⟩ := JB e
    refine ⟨h1, fun j x h => ?_⟩
    rcases h2 j x h with ⟨q1, q2⟩ | ⟨k, g, g0, d, d0, q1, q2, q3, q4⟩
    ·refine .inl ⟨q1, fun k hk => ?_⟩
     cases k with
     | zero =>
      rcases hmt with rfl | hmt
      ·simp at hk
      ·intro z; exact hmt j (Option.some.inj z)
     | succ k => simpa using q2 k (by simpa using hk)
    ·exact .inr ⟨k + 1, g, g0, d, d0, by simpa using q1, by simpa using q2, by simpa using q3, q4⟩
   cases m with
   | false => exact xB (.inl rfl) (by simpa [Zi] using e)
   | true =>
    cases tp with
    | fz d => simp [Zi] at e
    | tr d => simp [Zi] at e
    | ow u' d' => exact xB (.inr fun i z => nomatch z) (by simpa [Zi] using e)
    | sl i =>
     have step : ∀ nv : Option (Fg × D), Zi (ρ.set i nv) ms tps io = some ρ2 → (∀ x, nv = some x → i < ρ.length → ∃ (g g0 : Fg) (d d0 : D), y = some (g, d) ∧ ZZ g = true ∧ ZZ g0 = true ∧ ρ[i]? = some (some (g0, d0)) ∧ x = (jf (xW g0) g, d)) → (∀ x, nv = some x → jf (xW x.1) x.1 = x.1 ∧ ∀ g0 : Fg, (∃ d0, ρ[i]? = some (some (g0, d0))) → xW x.1 = xW g0 ∧ ZZ g0 = true) → ρ2.length = ρ.length ∧
      (∀ (j : Nat) (x : Fg × D), ρ2[j]? = some (some x) → (ρ[j]? = some (some x) ∧ ∀ k : Nat, (true :: ms)[k]? = some true → (Tp.sl i :: tps)[k]? ≠ some (.sl j)) ∨ ∃ (k : Nat) (g g0 : Fg) (d d0 : D), (true :: ms)[k]? = some true ∧ (Tp.sl i :: tps)[k]? = some (.sl j) ∧ (y :: io)[k]? = some (some (g, d)) ∧ ZZ g = true ∧ ZZ g0 = true ∧ ρ[j]? = some (some (g0, d0)) ∧ x = (jf (xW g0) g, d)) := fun nv e hnv hpin => by
      obtain ⟨h1, h2⟩ := JB e
      refine ⟨by rw [h1, List.length_set], fun j x h => ?_⟩
      rcases h2 j x h with ⟨q1, q2⟩ | ⟨k, g, g0, d, d0, q1, q2, q3, q4, q5, q6, q7⟩
      ·by_cases hj : j = i
       ·subst hj
        rw [List.getElem?_set, if_pos rfl] at q1
        split at q1
        ·rename_i hl
         obtain ⟨g, g0, d, d0, e1, e2, e3, e4, e5⟩ := hnv x (Option.some.inj q1) hl
         exact .inr ⟨0, g, g0, d, d0, rfl, rfl, by rw [e1]; rfl, e2, e3, e4, e5⟩
        ·exact nomatch q1
       ·rw [List.getElem?_set_ne (Ne.symm hj)] at q1
        refine .inl ⟨q1, fun k hk => ?_⟩
        cases k with
        | zero => intro z; cases z; exact hj rfl
        | succ k => simpa using q2 k (by simpa using hk)
      ·by_cases hj : j = i
       ·subst hj
        rw [List.getElem?_set, if_pos rfl] at q6
        split at q6
        ·rename_i hl
         obtain ⟨g', g0', d', d0', e1, e2, e3, e4, e5⟩ := hnv _ (Option.some.inj q6) hl
         obtain ⟨p1, p2⟩ := (hpin _ (Option.some.inj q6)).2 g0' ⟨_, e4⟩
         exact .inr ⟨k + 1, g, g0', d, d0', by simpa using q1, by simpa using q2, by simpa using q3, q4, e3, e4, by rw [← p1]; exact q7⟩
        ·exact nomatch q6
       ·rw [List.getElem?_set_ne (Ne.symm hj)] at q6
        exact .inr ⟨k + 1, g, g0, d, d0, by simpa using q1, by simpa using q2, by simpa using q3, q4, q5, q6, q7⟩
     cases y with
     | none => exact step none (by simpa [Zi] using e) (fun _ z => nomatch z) (fun _ z => nomatch z)
     | some z =>
      obtain ⟨g, d⟩ := z
      cases g with
      | o u p =>
       cases p with
       | false => simp [Zi] at e
       | true =>
        simp only [Zi] at e
        split at e
        ·rename_i u0 p d0 hr
         exact step (some (.o u p, d)) e (fun x z _ => by cases z; exact ⟨.o u true, .o u0 p, d, d0, rfl, rfl, rfl, hr, rfl⟩) (fun x z => by cases z; exact ⟨rfl, fun g0 ⟨d1, q⟩ => by rw [hr] at q; cases q; exact ⟨rfl, rfl⟩⟩)
        ·exact nomatch e
      | q p =>
       cases p with
       | false => simp [Zi] at e
       | true =>
        simp only [Zi] at e
        split at e
        ·rename_i p d0 hr
         exact step (some (.q p, d)) e (fun x z _ => by cases z; exact ⟨.q true, .q p, d, d0, rfl, rfl, rfl, hr, rfl⟩) (fun x z => by cases z; exact ⟨rfl, fun g0 ⟨d1, q⟩ => by rw [hr] at q; cases q; exact ⟨rfl, rfl⟩⟩)
        ·exact nomatch e
      | _ => simp [Zi] at e
 | [], _ :: _, io, ρ, ρ2, e => by simp [Zi] at e
 | m :: _, [], io, ρ, ρ2, e => by cases m <;> simp [Zi] at e
end
end Vm
namespace Vm
open PySem PySem.Spec PyProof.Rows L2 Fz
def vg (M W : Hp) : Hp := fun a => match M a with
 | some o => some o
 | none => W a
theorem xR {M W : Hp} {a : Addr} {o : HO} (h : M a = some o) : vg M W a = some o := by unfold vg; rw [h]
theorem Z5 {M W : Hp} {a : Addr} (h : M a = none) : vg M W a = W a := by unfold vg; rw [h]
section
variable {K : PySem.W.Frag} {B : Bx} {M W H : Hp} {ρ : Env} {σ : L2.St} {w : WX} {ms : List Bool} {tps : List Tp} {vs : List V} {args : List (Fg × D)}
theorem Ent.leave (E : Ent K B M W H ρ σ ms tps vs args) {M' W' H' : Hp} {io ρ2 : Env} (gr : Gr M (bIO (IO K M H ms args vs) H) M' W') (s' : St K ⟨bIO (IO K M H ms args vs) H, qj vs, fun _ => none, B.t⟩ M' W' H' io (vs.map some)) (e : Zi ρ ms tps io = some ρ2) :
  ∃ W'', Gr M W M' W'' ∧ St K B M' W'' H' ρ2 σ ∧ ∀ z v, TpOk K ⟨bIO (IO K M H ms args vs) H, qj vs, fun _ => none, B.t⟩ M' W' H' io (vs.map some) (Rz.tp z) v → TpOk K B M' W'' H' ρ2 σ z.tp v := by
 obtain ⟨b1, b2⟩ := JB e
 have sb := E.sameB
 have bh : Same (bIO (IO K M H ms args vs) H) H' := (gr.w.trans s'.wh)
 have whH : Same W H' := sb.trans bh
 have mh : Same M' H' := s'.mw.trans s'.wh
 have free : ∀ {a : Addr}, W' a = none → M' a = none := fun h => s'.mw.free h
 have wn : ∀ {a : Addr}, W' a = none → W a = none := fun {a} h => by
  cases q : W a with
  | none => rfl
  | some o =>
   have := gr.w _ _ (sb _ _ q)
   rw [h] at this; cases this
 have stay : ∀ {j : Nat} {g : Fg} {d : D} {b : Addr} {G : List Addr}, ρ[j]? = some (some (g, d)) → σ[j]? = some (some (.ref b)) → SF K M H g b d G → (∀ k : Nat, ms[k]? = some true → tps[k]? ≠ some (.sl j)) → ∀ a ∈ G, (∀ o, H a = some o → H' a = some o) ∧ M' a = none ∧ W a = none ∧ W' a ≠ none := fun {j g d b G} hr hs hf hn a ha => by
  obtain ⟨o, q1, q2, q3⟩ := E.stay hr hs hf hn a ha
  have hw := (E.s.cells hr hs hf a ha).1
  refine ⟨fun o' h => by rw [q1] at h; cases h; exact bh _ _ q3, gr.n a o q3 q2 (E.s.mw.free hw), hw, fun z => ?_⟩
  rw [gr.w _ _ q3] at z; cases z
 have turned : ∀ {k : Nat} {g : Fg} {d : D}, ZZ g = true → io[k]? = some (some (g, d)) → ∃ r F, vs[k]? = some (.ref r) ∧ (vs.map some)[k]? = some (some (.ref r)) ∧ Cel K M' W' H' g r d F := fun {k g d} hg hi => by
  obtain ⟨v, q1, q2⟩ := s'.sl k _ _ hi
  obtain ⟨r, F, rfl, c⟩ := q2.cel hg
  have q1' := q1
  rw [List.getElem?_map] at q1
  cases hv : vs[k]? with
  | none => rw [hv] at q1; exact nomatch q1
  | some x =>
   rw [hv] at q1
   cases Option.some.inj (Option.some.inj q1)
   exact ⟨r, F, rfl, q1', c⟩
 have slotA : ∀ {k j : Nat} {a : Addr}, ms[k]? = some true → tps[k]? = some (.sl j) → vs[k]? = some (.ref a) → σ[j]? = some (some (.ref a)) := fun {k j a} hm ht hv => by
  have hk : k < args.length := by
   have := E.len.1
   have : k < vs.length := by
    rcases Nat.lt_or_ge k vs.length with q | q
    ·exact q
    ·rw [List.getElem?_eq_none q] at hv; cases hv
   omega
  obtain ⟨r, F, q1, _, _, q6⟩ := E.io (List.getElem?_eq_getElem hk) hm
  rw [hv] at q1; cases q1
  rcases q6 with ⟨i, g0, t1, t2, t3, _⟩ | ⟨u, d, _, t1, _⟩
  ·rw [ht] at t1; cases t1; exact t3
  ·rw [ht] at t1; cases t1
 have slot : ∀ {j : Nat} {g : Fg} {d : D} {b : Addr} {F : List Addr}, ρ2[j]? = some (some (g, d)) → σ[j]? = some (some (.ref b)) → SF K M' H' g b d F → (ρ[j]? = some (some (g, d)) ∧ SF K M H g b d F ∧ (∀ a ∈ F, W' a ≠ none)) ∨ ∃ (k : Nat) (g' : Fg), io[k]? = some (some (g', d)) ∧ tps[k]? = some (.sl j) ∧ (vs.map some)[k]? = some (some (.ref b)) ∧ SF K M' H' g' b d F ∧ (∀ a ∈ F, W' a = none) := fun {j g d b F} q hs hf => by
  rcases b2 j (g, d) q with ⟨q1, q2⟩ | ⟨k, g', g0, d', d0, q1, q2, q3, q4, q5, q6, q7⟩
  ·have hf0 := E.s.sfBack (H' := H') (.of gr.m) q1 hs (fun F0 h0 x hx o ho => (stay q1 hs h0 q2 x hx).1 o ho) hf
   exact .inl ⟨q1, hf0, fun a ha => (stay q1 hs hf0 q2 a ha).2.2.2⟩
  ·cases q7
   obtain ⟨r, F', t1, t2, t3⟩ := turned q4 q3
   have t5 := slotA q1 q2 t1
   rw [hs] at t5; cases t5
   have hf := hf.repin
   have := t3.sf.uniq hf
   subst this
   exact .inr ⟨k, g', q3, q2, t2, hf, t3.wn⟩
 have apart : ∀ {x : Addr}, W' x = none → Apart K M' H' io (vs.map some) x → Apart K M' H' ρ2 σ x := fun {x} hw ap j g d b F q z f m => by
  rcases slot q z f with ⟨_, _, t⟩ | ⟨k, g', t1, _, t2, t3, _⟩
  ·exact t x m hw
  ·exact ap k g' d b F t1 t2 t3 m
 refine ⟨vg M' W, ⟨gr.m, fun a o h => ?_, fun a o h1 hm h2 => gr.n a o (sb _ _ h1) hm h2⟩, ⟨fun a o h => ?_, fun a o h => xR h, fun a o h => ?_, ?_, fun j g d q => ?_, fun j l g h d e' a b F G hjl q1 q2 z1 z2 f1 f2 => ?_, ⟨fun b ps e => by
  cases hm : M' b with
  | none => rw [Z5 hm] at e; exact E.s.tb.1 _ _ e
  | some o' => rw [xR hm] at e; cases e; exact s'.tb.1 _ _ (s'.mw _ _ hm), s'.tb.2⟩⟩, fun z v h => ?_⟩
 ·cases hm : M' a with
  | none => rw [Z5 hm]; exact h
  | some o' =>
   rw [xR hm]
   have h1 := whH _ _ h
   rw [mh _ _ hm] at h1
   exact h1
 ·have h := E.s.bw _ _ h
  cases hm : M' a with
  | none => rw [Z5 hm]; exact h
  | some o' =>
   rw [xR hm]
   have h1 := whH _ _ h
   rw [mh _ _ hm] at h1
   exact h1
 ·cases hm : M' a with
  | none => rw [Z5 hm] at h; exact whH _ _ h
  | some o' => rw [xR hm] at h; cases h; exact mh _ _ hm
 ·rw [b1]; exact E.s.ln
 ·rcases b2 j (g, d) q with ⟨q1, q2⟩ | ⟨k, g', g0, d', d0, q1, q2, q3, q4, q5, q6, q7⟩
  ·obtain ⟨v, h1, h2⟩ := E.s.sl j g d q1
   refine ⟨v, h1, ?_⟩
   by_cases hc : ZZ g = true
   ·obtain ⟨r, F, rfl, c⟩ := h2.cel hc
    refine (c.tr (.of gr.m) (fun x hx o ho => (stay q1 h1 c.sf q2 x hx).1 o ho) fun x hx => ?_).sl fun hp => ?_
    ·obtain ⟨_, t2, t3, _⟩ := stay q1 h1 c.sf q2 x hx
     rw [Z5 t2]; exact t3
    ·obtain ⟨a, e1, e2⟩ := h2.pin hp
     cases e1; exact e2
   ·cases g with
    | f => exact Rp.mono gr.m h2
    | b => exact R1.mono (Same.refl _) gr.m h2
    | s => exact h2
    | e => first | exact h2 | (obtain ⟨_, _, _, e1, e2, e0, e3⟩ := h2; exact ⟨_, _, _, e1, e2, e0, e3.mono gr.m⟩)
    | l => first | exact h2 | exact ⟨h2.1, h2.2.mono gr.m⟩
    | o u p => exact absurd rfl hc
    | q p => exact absurd rfl hc
  ·cases q7
   obtain ⟨r, F, t1, _, t3⟩ := turned q4 q3
   have t5 := slotA q1 q2 t1
   refine ⟨.ref r, t5, ((t3.repin (xW g0)).tr (.of (Same.refl _)) (fun _ _ _ h => h) fun x hx => ?_).sl fun hp => ?_⟩
   ·have := t3.wn x hx
    rw [Z5 (free this)]; exact wn this
   ·obtain ⟨v, r1, r2⟩ := E.s.sl j _ _ q6
    rw [t5] at r1; cases r1
    have hp : xW g0 = true := by cases g' <;> first | exact hp | exact absurd q4 Bool.false_ne_true
    obtain ⟨a, e1, e2⟩ := r2.pin hp
    cases e1; exact e2
 ·intro x hx hy
  rcases slot q1 z1 f1 with ⟨r1, r2, r3⟩ | ⟨k, g', r1, r2, r3, r4, r5⟩
  ·rcases slot q2 z2 f2 with ⟨t1, t2, t3⟩ | ⟨k', g'', t1, t2, t3, t4, t5⟩
   ·exact E.s.sp j l _ _ _ _ _ _ _ _ hjl r1 t1 z1 z2 r2 t2 x hx hy
   ·exact r3 x hx (t5 x hy)
  ·rcases slot q2 z2 f2 with ⟨t1, t2, t3⟩ | ⟨k', g'', t1, t2, t3, t4, t5⟩
   ·exact t3 x hy (r5 x hx)
   ·refine s'.sp k k' _ _ _ _ _ _ _ _ (fun z => ?_) r1 t1 r3 t3 r4 t4 x hx hy
    subst z
    rw [r2] at t2; cases t2
    exact hjl rfl
 ·cases z with
  | fz d => exact h
  | ow u d =>
   obtain ⟨a, o, rfl, h1, h2, h3, h4⟩ := h
   exact ⟨a, o, rfl, h1, h2, by rw [Z5 (free h3)]; exact wn h3, apart h3 h4⟩
  | tr d =>
   obtain ⟨a, F, rfl, h1, h2, h3, h4⟩ := h
   exact ⟨a, F, rfl, h1, h2, fun x hx => by rw [Z5 (free (h3 x hx))]; exact wn (h3 x hx), fun x hx => apart (h3 x hx) (h4 x hx)⟩
theorem YH {m m' : List (Fg × D) → zY} {tA : TA} {rA : RA} (hA : SA K B w tA rA) {M W H : Hp} {ρ : Env} {σ : L2.St} {Q : VK} {X : XK} (s : St K B M W H ρ σ) (k : KG K B M W σ w (QV K B σ) (Zm m' ms rA ρ) Q)
  (hm : ∀ args, m' args = .stk ∨ (m' args = m args ∧ ∀ x io, m' args = .er x io → ∀ cls d H, w cls d σ H → X cls d H)) :
  tA σ H fun vs H1 => spM K B.t m vs H1 Q X :=
 hA σ H M W ρ _ s (KG.bind k fun ρ1 tps vs M1 W1 H1 _ g1 s1 h1 k1 => by
  by_cases ho : ms.length = tps.length ∧ Qg ms tps = true
  ·rw [if_pos ho] at k1
   cases e : xM ρ1 ms (Zz ms tps) with
   | none => rw [e] at k1; exact False.elim k1
   | some args =>
    rw [e] at k1
    dsimp only at k1
    obtain ⟨M2, W2, g2, s2, h2, _⟩ := JG ho.1 s1 h1
    have E : Ent K B M2 W2 H1 ρ1 σ ms tps vs args := ⟨s2, h2, e, ho.2, ho.1⟩
    refine ⟨args, _, M2, E.enter, ?_⟩
    rcases hm args with q | ⟨q, hx⟩
    ·rw [q] at k1; exact False.elim k1
    rw [← q]
    cases e2 : m' args with
    | stk => rw [e2] at k1; exact k1
    | ok z io =>
     rw [e2] at k1
     dsimp only at k1 ⊢
     intro v M' W' H' gr s' hv
     cases e3 : Zi ρ1 ms tps io with
     | none => rw [e3] at k1; exact False.elim k1
     | some ρ2 =>
      rw [e3] at k1
      obtain ⟨W'', g3, s3, f3⟩ := E.leave gr s' e3
      exact k1 v M' W'' H' (g2.trans g3) s3 (f3 z v hv)
    | er x io =>
     rw [e2] at k1
     dsimp only at k1 ⊢
     intro d M' W' H' gr s' hv
     cases e3 : Zi ρ1 ms tps io with
     | none => rw [e3] at k1; exact False.elim k1
     | some ρ2 =>
      rw [e3] at k1
      obtain ⟨W'', g3, s3, f3⟩ := E.leave gr s' e3
      exact hx x io e2 _ _ _ (k1 d M' W'' H' (g2.trans g3) s3 hv)
  ·rw [if_neg ho] at k1; exact False.elim k1)
def Zy (m : List (Fg × D) → zY) (args : List (Fg × D)) : zY := match m args with
 | .er _ _ => .stk
 | o => o
theorem Yv (m : List (Fg × D) → zY) (args : List (Fg × D)) : Zy m args = .stk ∨ (Zy m args = m args ∧ ∀ x io, Zy m args ≠ .er x io) := by
 unfold Zy
 cases e : m args with
 | stk => exact .inl rfl
 | ok z io => exact .inr ⟨rfl, fun _ _ q => nomatch q⟩
 | er x io => exact .inl rfl
theorem zK {m : List (Fg × D) → zY} {tA : TA} {rA : RA} {E : XK} (ms : List Bool) (hA : SA K B w tA rA) : SE K B w (tCall (spM K B.t m) [] E tA) (Zm (Zy m) ms rA) := fun σ H M W ρ Q s k => by
 have := YH (m := m) (m' := Zy m) (X := E) hA s k fun args => by
  rcases Yv m args with q | ⟨q1, q2⟩
  ·exact .inl q
  ·exact .inr ⟨q1, fun x io e => absurd e (q2 x io)⟩
 show tA σ H fun vs H1 => spM K B.t m (vs ++ []) H1 Q E
 have e : (fun vs H1 => spM K B.t m (vs ++ []) H1 Q E) = fun vs H1 => spM K B.t m vs H1 Q E := by
  funext vs H1; rw [List.append_nil]
 rw [e]
 exact this
end
end Vm
namespace Vm
open PySem PySem.Spec PyProof.Rows L2 Fz
def f2 (f : D → D → Option Rz) : List D → Option Rz
 | [d, e] => f d e
 | _ => none
def f1 (f : D → Option Rz) : List D → Option Rz
 | [d] => f d
 | _ => none
def Op2 (K : PySem.W.Frag) (r : R2) (f : D → D → Option Rz) : Prop := ∀ (x y : V) (d e : D) (H M : Hp) (Q : VK) (z : Rz), Same M H → R1 K H M x d → R1 K H M y e → f d e = some z → ResK K H M z Q → r x y H Q
def Op1 (K : PySem.W.Frag) (r : V → Hp → VK → Prop) (f : D → Option Rz) : Prop := ∀ (x : V) (d : D) (H M : Hp) (Q : VK) (z : Rz), Same M H → R1 K H M x d → f d = some z → ResK K H M z Q → r x H Q
def zF (f : D → D → Option Rz) (a b : RE) : RE := rOp (f2 f) (zm a (zm b zQ))
def JZ (f : D → Option Rz) (a : RE) : RE := rOp (f1 f) (zm a zQ)
section
variable {K : PySem.W.Frag} {B : Bx} {w : WX} {t ta tb : TE} {ra rb : RE} {tA : TA} {rA : RA}
theorem zbn {r : R2} {f : D → D → Option Rz} (ho : Op2 K r f) : OpN K (fun vs H Q => match vs with | [x, y] => r x y H Q | _ => False) (f2 f) := fun vs ds H M Q z sm h e q => by
 cases h with
 | nil => exact nomatch e
 | cons h1 h =>
  cases h with
  | nil => exact nomatch e
  | cons h2 h =>
   cases h with
   | nil => exact ho _ _ _ _ H M Q z sm h1 h2 e q
   | cons h3 h => exact nomatch e
theorem zbO {r : V → Hp → VK → Prop} {f : D → Option Rz} (ho : Op1 K r f) : OpN K (fun vs H Q => match vs with | [x] => r x H Q | _ => False) (f1 f) := fun vs ds H M Q z sm h e q => by
 cases h with
 | nil => exact nomatch e
 | cons h1 h =>
  cases h with
  | nil => exact ho _ _ H M Q z sm h1 e q
  | cons h2 h => exact nomatch e
theorem zq {r : R2} {f : D → D → Option Rz} (ho : Op2 K r f) (ha : SE K B w ta ra) (hb : SE K B w tb rb) : SE K B w (tOp r ta tb) (zF f ra rb) := fun σ H M W ρ Q s k =>
 yE (zf ha (zf hb zr)) (zbn ho) σ H M W ρ Q s k
theorem JF {rr : List V → Hp → VK → Prop} {f : D → Option Rz} (ho : Op1 K (fun x H Q => rr [x] H Q) f) (ha : SE K B w ta ra) : SE K B w (tCB rr (tCons ta tNil)) (JZ f ra) := fun σ H M W ρ Q s k =>
 yE (zf ha zr) (zbO ho) σ H M W ρ Q s k
theorem wN {rr : List V → Hp → VK → Prop} {f : D → D → Option Rz} (ho : Op2 K (fun x y H Q => rr [x, y] H Q) f) (ha : SE K B w ta ra) (hb : SE K B w tb rb) : SE K B w (tCB rr (tCons ta (tCons tb tNil))) (zF f ra rb) := fun σ H M W ρ Q s k =>
 yE (zf ha (zf hb zr)) (zbn ho) σ H M W ρ Q s k
end
section
variable {K : PySem.W.Frag}
def oI (g : Int → Int → Int) : D → D → Option Rz
 | .int i, .int j => some (.fz (.int (g i j)))
 | _, _ => none
def oIb (g : Int → Int → Bool) : D → D → Option Rz
 | .int i, .int j => some (.fz (.bool (g i j)))
 | _, _ => none
def oIc (c : Int → Int → Bool) (g : Int → Int → Int) : D → D → Option Rz
 | .int i, .int j => if c i j = true then some (.fz (.int (g i j))) else none
 | _, _ => none
theorem za9 {g : Int → Int → Int} : Op2 K (rI0 fun i j => .int (g i j)) (oI g) := fun x y d e H M Q z sm h1 h2 q k => by
 cases h1 <;> cases h2 <;> first | (cases q; done) | skip
 cases q; exact ⟨_, _, rfl, rfl, k.1 _ (.int _)⟩
theorem vY {g : Int → Int → Bool} : Op2 K (rI0 fun i j => .bl (g i j)) (oIb g) := fun x y d e H M Q z sm h1 h2 q k => by
 cases h1 <;> cases h2 <;> first | (cases q; done) | skip
 cases q; exact ⟨_, _, rfl, rfl, k.1 _ (.bl _)⟩
theorem vX {C : Int → Int → Prop} {c : Int → Int → Bool} {g : Int → Int → Int} (hc : ∀ i j, c i j = true → C i j) : Op2 K (rI C fun i j => .int (g i j)) (oIc c g) := fun x y d e H M Q z sm h1 h2 q k => by
 cases h1 <;> cases h2 <;> first | (cases q; done) | skip
 unfold oIc at q
 dsimp only at q
 split at q
 ·rename_i h; cases q; exact ⟨_, _, rfl, rfl, hc _ _ h, k.1 _ (.int _)⟩
 ·exact nomatch q
def Xx := oI (· + ·)
def Yt := oI (· - ·)
def oLt := oIb fun i j => decide (i < j)
def oLe := oIb fun i j => decide (i ≤ j)
def oGt := oIb fun i j => decide (j < i)
def oGe := oIb fun i j => decide (j ≤ i)
def Yy (i j : Int) : Bool := decide ((-(2 ^ 64) < i ∧ i < 2 ^ 64) ∨ (-(2 ^ 64) < j ∧ j < 2 ^ 64))
def jX := oIc Yy (· * ·)
def za0 (_ j : Int) : Bool := decide (0 < j)
def Kc := oIc za0 (· % ·)
def WL (_ j : Int) : Bool := decide (0 < j ∧ j < 2 ^ 256)
def yR := oIc WL (· / ·)
def YG (i j : Int) : Bool := decide (0 ≤ j ∧ j ≤ 1000000 ∧ i.natAbs < 2 ^ 64)
def vP := oIc YG fun i j => i ^ j.toNat
theorem ZL : Op2 K (rI0 fun i j => .int (i + j)) Xx := za9
theorem Vl : Op2 K (rI0 fun i j => .int (i - j)) Yt := za9
theorem WD : Op2 K (rI0 fun i j => .bl (decide (i < j))) oLt := vY
theorem wU : Op2 K (rI0 fun i j => .bl (decide (i ≤ j))) oLe := vY
theorem wA : Op2 K (rI0 fun i j => .bl (decide (j < i))) oGt := vY
theorem zaY : Op2 K (rI0 fun i j => .bl (decide (j ≤ i))) oGe := vY
theorem Z7 : Op2 K (rI CMul fun i j => .int (i * j)) jX := vX fun _ _ h => by
 unfold Yy at h
 have := of_decide_eq_true h
 exact this
theorem Qz : Op2 K (rI (fun _ j => 0 < j) fun i j => .int (i % j)) Kc := vX fun _ _ h => of_decide_eq_true h
theorem YB : Op2 K (rI CDivW fun i j => .int (i / j)) yR := vX fun i j h => by
 have h := of_decide_eq_true h
 exact wide_div (b := 256) h.1 (by omega) (by decide) (by decide)
theorem Vt : Op2 K (rI CPow fun i j => .int (i ^ j.toNat)) vP := vX fun _ _ h => by
 unfold YG at h
 have := of_decide_eq_true h
 exact this
def zbS : D → Option Rz
 | .int i => some (.fz (.int (-i)))
 | _ => none
def oEq : D → D → Option Rz
 | .int i, .int j => some (.fz (.bool (decide (i = j))))
 | .str i, .str j => some (.fz (.bool (decide (i = j))))
 | .bool i, .bool j => some (.fz (.bool (decide (i = j))))
 | _, _ => none
def oNe : D → D → Option Rz
 | .int i, .int j => some (.fz (.bool (!decide (i = j))))
 | .str i, .str j => some (.fz (.bool (!decide (i = j))))
 | .bool i, .bool j => some (.fz (.bool (!decide (i = j))))
 | _, _ => none
theorem Wk : Op2 K rEq oEq := fun x y d e H M Q z sm h1 h2 q k => by
 cases h1 <;> cases h2 <;> first | (cases q; done) | skip
 all_goals (cases q; refine ⟨rfl, ?_⟩; have := k.1 _ (Rp.bl _); simpa using this)
theorem WN : Op2 K rNe oNe := fun x y d e H M Q z sm h1 h2 q k => by
 cases h1 <;> cases h2 <;> first | (cases q; done) | skip
 all_goals (cases q; refine ⟨rfl, ?_⟩; have := k.1 _ (Rp.bl _); simpa using this)
mutual
theorem Rp.dp {M : Hp} : ∀ {v : V} {d : D}, Rp K M v d → d.canLay0 = true → Dp K M v d
 | _, _, .non, _ => .non
 | _, _, .bl b, _ => .bl b
 | _, _, .int i, _ => .int i
 | _, _, .str x, _ => .str x
 | _, _, .lst h t, c => .lst (.inl (.inl h)) (Rps.dp t (by unfold PyData.canLay0 at c; exact c))
 | _, _, .tup h t, c => .tup (.inl (.inl h)) (Rps.dp t (by unfold PyData.canLay0 at c; exact c))
 | _, _, .tupK h _ t, c => .tup (h M) (Rps.dp t (by unfold PyData.canLay0 at c; exact c))
 | _, _, .dic _ _ _, c => by unfold PyData.canLay0 at c; cases c
 | _, _, .diT _ _ _, c => by unfold PyData.canLay0 at c; cases c
 | _, _, .tupN _ _ _, c => by unfold PyData.canLay0 at c; cases c
 | _, _, .adr _, c => by unfold PyData.canLay0 at c; cases c
theorem Rps.dp {M : Hp} : ∀ {vs : List V} {ds : List D}, Rps K M vs ds → PyData.canLayAll0 ds = true → DpAll K M vs ds
 | _, _, .nil, _ => .nil
 | _, _, .cons h t, c => by
  unfold PyData.canLayAll0 at c
  rw [Bool.and_eq_true] at c
  exact .cons (Rp.dp h c.1) (Rps.dp t c.2)
end
def Xy (d e : D) : Option Rz := if (SeqAt.shaped d && SeqAt.shaped e) = true then some (.fz (.bool (PyData.eqv d e))) else none
def VN (d e : D) : Option Rz := if (SeqAt.shaped d && SeqAt.shaped e) = true then some (.fz (.bool (!PyData.eqv d e))) else none
theorem R1.dp {H M : Hp} {v : V} {d : D} (sm : Same M H) (h : R1 K H M v d) (c : SeqAt.shaped d = true) : Dp K H v d := (h.all sm).dp (SeqAt.canLay_of_shaped c)
theorem Vq : Op2 K (rEqD K) Xy := fun x y d e H M Q z sm h1 h2 q k => by
 unfold Xy at q
 split at q
 ·rename_i h
  rw [Bool.and_eq_true] at h
  cases q
  exact ⟨d, e, h1.dp sm h.1, h2.dp sm h.2, h.1, h.2, k.1 _ (.bl _)⟩
 ·exact nomatch q
def zbX : D → D → Option Rz
 | d, .none => some (.fz (.bool (isNone d)))
 | _, _ => none
def zbq : D → D → Option Rz
 | d, .none => some (.fz (.bool (!isNone d)))
 | _, _ => none
theorem zaL {M : Hp} {vs : List V} {ds : List D} {i : Int} {d : D} (h : Rps K M vs ds) (e : atI ds i = some d) : ∃ v, atI vs i = some v ∧ Rp K M v d := by
 unfold atI at e ⊢
 rw [h.length]
 cases q : ixN ds.length i with
 | none => rw [q] at e; cases e
 | some j => rw [q] at e; exact h.get e
def zb2 : D → D → Option Rz
 | .tuple ds, .int i => match atI ds i with
  | some d => some (.fz d)
  | none => none
 | _, _ => none
def Kr : D → D → Option Rz
 | .list ds, .int i => match atI ds i with
  | some d => some (.fz d)
  | none => none
 | _, _ => none
theorem R1.sqT {H M : Hp} {a : Addr} {ds : List D} (sm : Same M H) (h : R1 K H M (.ref a) (.tuple ds)) : ∃ xs, SqT K H a xs ∧ Rps K M xs ds := by
 cases h with
 | tup h t => exact ⟨_, .inl (.inl (sm _ _ h)), t⟩
 | tupK h _ t => exact ⟨_, h H, t⟩
theorem R1.tupR {H M : Hp} {v : V} {ds : List D} (h : R1 K H M v (.tuple ds)) : ∃ a, v = .ref a := by cases h <;> exact ⟨_, rfl⟩
theorem R1.rpT {H M : Hp} {v : V} {ds : List D} (h : R1 K H M v (.tuple ds)) : Rp K M v (.tuple ds) := by
 cases h with
 | tup h t => exact .tup h t
 | tupK h c t => exact .tupK h c t
theorem xN : Op2 K (rIxL K) Kr := fun x y d e H M Q z sm h1 h2 q k => by
 unfold Kr at q
 split at q
 ·rename_i ds i
  cases e1 : atI ds i with
  | none => rw [e1] at q; exact nomatch q
  | some d' =>
   rw [e1] at q
   cases q
   cases h1 with
   | lst t1 t2 =>
    obtain ⟨v, v1, v2⟩ := zaL t2 e1
    have := ZG h2
    subst this
    exact ⟨_, _, i, v, rfl, rfl, .inl (.inl t1), v1, k.1 v v2⟩
 ·exact nomatch q
def jU : D → D → Option Rz
 | .str x, .int i => if x.length ≤ sizeLine then (match atI x.cps.toList i with
  | some c => some (.fz (.str (sgn c)))
  | none => none) else none
 | _, _ => none
theorem xP : Op2 K rIxS jU := fun x y d e H M Q z sm h1 h2 q k => by
 unfold jU at q
 split at q
 ·rename_i s i
  split at q
  ·rename_i hl
   cases e1 : atI s.cps.toList i with
   | none => rw [e1] at q; exact nomatch q
   | some c =>
    rw [e1] at q
    cases q
    have := ZG h2
    subst this
    have := Qn h1
    subst this
    exact ⟨s, i, c, rfl, rfl, hl, e1, k.1 _ (.str _)⟩
  ·exact nomatch q
 ·exact nomatch q
def YW : D → D → Option Rz
 | .tuple ds, .tuple es => if ds.length + es.length ≤ sizeLine then some (.fz (.tuple (ds ++ es))) else none
 | _, _ => none
theorem ResK.newT {H M : Hp} {p : Addr} {xs : List V} {ds : List D} {Q : VK} (k : ResK K H M (.fz (.tuple ds)) Q) (sm : Same M H) (hp : H p = none) (h : Rps K M xs ds) : Q (.ref p) (upd H p (.tup xs)) :=
 k.2 _ p xs hp (.tup upd_same (h.mono (ZC (sm.free hp))))
def Y0 : D → D → Option Rz
 | .tuple ds, .int n => if (!ds.isEmpty && decide (-1000 ≤ n ∧ n ≤ 1000 ∧ ds.length ≤ 1000)) = true then some (.fz (.tuple (List.replicate n.toNat ds).flatten)) else none
 | _, _ => none
def zad : D → D → Option Rz
 | .list ds, .list es => if ds.length + es.length ≤ sizeLine then some (.ow false (.list (ds ++ es))) else none
 | _, _ => none
def zba : D → D → Option Rz
 | .list ds, .int n => if -1000000 ≤ n ∧ n ≤ 1000000 ∧ ds.length * n.toNat ≤ sizeLine then some (.ow false (.list (List.replicate n.toNat ds).flatten)) else none
 | _, _ => none
end
end Vm
namespace Vm
open PySem PySem.Spec PyProof.Rows L2 Fz
section
variable {K : PySem.W.Frag}
def ZS : D → Bool
 | .none => true
 | .bool _ => true
 | .int _ => true
 | .str _ => true
 | _ => false
def oIn (neg : Bool) : D → D → Option Rz
 | d, .list es => if (ZS d && es.all ZS) = true then some (.fz (.bool (if neg then !(es.any fun e => PyData.eqv e d) else es.any fun e => PyData.eqv e d))) else none
 | d, .tuple es => if (ZS d && es.all ZS) = true then some (.fz (.bool (if neg then !(es.any fun e => PyData.eqv e d) else es.any fun e => PyData.eqv e d))) else none
 | _, _ => none
theorem vW {H M : Hp} {v : V} {d : D} (h : R1 K H M v d) (f : ZS d = true) : flatV v = true ∧ Rp K M v d := by
 cases h with
 | non => exact ⟨rfl, .non⟩
 | bl b => exact ⟨rfl, .bl b⟩
 | int i => exact ⟨rfl, .int i⟩
 | str x => exact ⟨rfl, .str x⟩
 | _ => exact absurd f Bool.false_ne_true
theorem Yj {M : Hp} {v : V} {d : D} (h : Rp K M v d) (f : ZS d = true) : flatV v = true := by
 cases h <;> first | rfl | exact absurd f Bool.false_ne_true
theorem yK {M : Hp} {v u : V} {d e : D} (h : Rp K M v d) (g : Rp K M u e) (f : ZS d = true) (f' : ZS e = true) : eqV v u = PyData.eqv d e := by
 cases h <;> first | exact absurd f Bool.false_ne_true | skip
 all_goals (cases g <;> first | exact absurd f' Bool.false_ne_true | skip)
 all_goals simp [eqV, PyData.eqv]
theorem jH {M : Hp} {v : V} {d : D} (h : Rp K M v d) (f : ZS d = true) : ∀ {xs : List V} {es : List D}, Rps K M xs es → es.all ZS = true → xs.all flatV = true ∧ inV v xs = es.any fun e => PyData.eqv e d
 | _, _, .nil, _ => ⟨rfl, rfl⟩
 | _, _, .cons hx t, g => by
  rw [List.all_cons, Bool.and_eq_true] at g
  obtain ⟨i1, i2⟩ := jH h f t g.2
  refine ⟨by rw [List.all_cons, Yj hx g.1, i1]; rfl, ?_⟩
  unfold inV at i2 ⊢
  rw [List.any_cons, List.any_cons, i2, yK hx h g.1 f]
theorem zaK {neg : Bool} : Op2 K (rIn K neg) (oIn neg) := fun x y d e H M Q z sm h1 h2 q k => by
 cases e with
 | list es =>
  unfold oIn at q
  dsimp only at q
  split at q
  ·rename_i hf
   rw [Bool.and_eq_true] at hf
   cases q
   obtain ⟨f1, r1⟩ := vW h1 hf.1
   cases h2 with
   | lst t1 t2 =>
    obtain ⟨i1, i2⟩ := jH r1 hf.1 t2 hf.2
    refine ⟨_, _, rfl, .inl (.inl (.inl t1)), f1, i1, ?_⟩
    rw [i2]
    exact k.1 _ (.bl _)
  ·exact nomatch q
 | tuple es =>
  unfold oIn at q
  dsimp only at q
  split at q
  ·rename_i hf
   rw [Bool.and_eq_true] at hf
   cases q
   obtain ⟨f1, r1⟩ := vW h1 hf.1
   obtain ⟨a, rfl⟩ := h2.tupR
   obtain ⟨xs, t1, t2⟩ := h2.sqT sm
   obtain ⟨i1, i2⟩ := jH r1 hf.1 t2 hf.2
   refine ⟨_, _, rfl, .inr t1, f1, i1, ?_⟩
   rw [i2]
   exact k.1 _ (.bl _)
  ·exact nomatch q
 | _ => exact nomatch q
def yQ (neg : Bool) : D → D → Option Rz
 | .str x, .str z => match x.cps.toList with
  | [c] => some (.fz (.bool (if neg then !decide (c ∈ z.cps.toList) else decide (c ∈ z.cps.toList))))
  | _ => none
 | _, _ => none
theorem yV {x : Str} {c : Nat} (h : x.cps.toList = [c]) : x = ⟨#[c]⟩ := XR (by rw [h])
theorem vL : Op2 K (fun x y H Q => ∃ (c : Nat) (z : Str), x = .str ⟨#[c]⟩ ∧ y = .str z ∧ Q (.bl (!decide (c ∈ z.cps.toList))) H) (yQ true) := fun x y d e H M Q z sm h1 h2 q k => by
 cases h1 <;> cases h2 <;> first | (cases q; done) | skip
 rename_i a b
 unfold yQ at q
 dsimp only at q
 split at q
 ·rename_i c hc
  cases q
  have := yV hc; subst this
  exact ⟨c, b, rfl, rfl, k.1 _ (.bl _)⟩
 ·exact nomatch q
def Jr : D → D → Option Rz
 | .str x, .str y => if x.length + y.length ≤ sizeLine then some (.fz (.str (x ++ y))) else none
 | _, _ => none
theorem jy : Op2 K (fun x y H Q => ∃ i j, x = .str i ∧ y = .str j ∧ i.length + j.length ≤ sizeLine ∧ Q (.str (i ++ j)) H) Jr := fun x y d e H M Q z sm h1 h2 q k => by
 cases h1 <;> cases h2 <;> first | (cases q; done) | skip
 unfold Jr at q
 dsimp only at q
 split at q
 ·rename_i hl; cases q; exact ⟨_, _, rfl, rfl, hl, k.1 _ (.str _)⟩
 ·exact nomatch q
def Vy : D → Bool
 | .dict ((.list _, _) :: _) => true
 | .dict ((.none, _) :: _) => true
 | _ => false
def isN : D → Bool
 | .dict [(.list [], .list _)] => true
 | _ => false
theorem R1.n {H M : Hp} {v : V} {d : D} (h : R1 K H M v d) (i : isN d = true) : ∃ (a : Addr) (o : Obj) (xs : List V) (ds : List D), v = .ref a ∧ d = .dict [(.list [], .list ds)] ∧ M a = some (.frz o (.tup xs)) ∧ (o.cls = .type "tuple" ∧ o.dict = none) ∧ Rps K M xs ds := by
 have key : ∃ ds, d = .dict [(.list [], .list ds)] := by
  unfold isN at i
  split at i
  ·exact ⟨_, rfl⟩
  ·exact nomatch i
 obtain ⟨ds, rfl⟩ := key
 generalize e : PyData.dict [(.list [], .list ds)] = d at h
 cases h with
 | tupN h1 h2 h3 => cases e; exact ⟨_, _, _, _, rfl, rfl, h1, h2, h3⟩
 | adr _ => cases e
 | dic h1 h2 h3 =>
  cases e
  rename_i kvs
  cases kvs with
  | nil => cases h2
  | cons p t => obtain ⟨k, w⟩ := p; cases k <;> cases h2
 | diT h1 h2 h3 =>
  cases e
  rename_i kvs
  cases kvs with
  | nil => cases h2
  | cons p t => cases h2
 | _ => cases e
def yW : D → Option Rz
 | .list ds => some (.fz (.int ds.length))
 | .tuple ds => some (.fz (.int ds.length))
 | .dict [(.list [], .list ds)] => some (.fz (.int ds.length))
 | _ => none
def Jp : D → Option Rz
 | .str x => if x.length ≤ sizeLine then some (.fz (.int x.length)) else none
 | _ => none
theorem jj : Op1 K (fun x H Q => ∃ z, [x] = [.str z] ∧ z.length ≤ sizeLine ∧ Q (.int z.length) H) Jp := fun x d H M Q z sm h q k => by
 cases h <;> first | (cases q; done) | skip
 unfold Jp at q
 dsimp only at q
 split at q
 ·rename_i hl; cases q; exact ⟨_, rfl, hl, k.1 _ (.int _)⟩
 ·exact nomatch q
def zbW : D → Option Rz
 | .int i => some (.fz (.int (if i < 0 then -i else i)))
 | _ => none
def zbY := oI fun i j => if j > i then j else i
def zaj := oI fun i j => if j < i then j else i
theorem YF : Op2 K (fun x y H Q => ∃ i j, [x, y] = [.int i, .int j] ∧ Q (.int (if j < i then j else i)) H) zaj := fun x y d e H M Q z sm h1 h2 q k => by
 cases h1 <;> cases h2 <;> first | (cases q; done) | skip
 cases q; exact ⟨_, _, rfl, k.1 _ (.int _)⟩
def zb5 : D → Option Rz
 | .int i => some (.fz (.int i))
 | .bool b => some (.fz (.int (if b then 1 else 0)))
 | _ => none
def YT : D → Option Rz
 | .list ds => some (.ow false (.list ds))
 | .tuple ds => some (.ow false (.list ds))
 | _ => none
def JC : D → Option Rz
 | .list ds => some (.fz (.tuple ds))
 | .tuple ds => some (.fz (.tuple ds))
 | _ => none
theorem V2 : Op1 K (fun x H Q => ∃ p ys, [x] = [.ref p] ∧ ((SqL K H p ys ∧ ∀ l, H l = none → Q (.ref l) (upd H l (.tup ys))) ∨ (SqT K H p ys ∧ Q (.ref p) H))) JC := fun x d H M Q z sm h q k => by
 cases d with
 | list ds =>
  cases q
  cases h with
  | lst t1 t2 => exact ⟨_, _, rfl, .inl ⟨.inl (.inl t1), fun l hl => k.newT sm hl t2⟩⟩
 | tuple ds =>
  cases q
  obtain ⟨a, rfl⟩ := h.tupR
  obtain ⟨xs, t1, t2⟩ := h.sqT sm
  exact ⟨_, _, rfl, .inr ⟨t1, k.1 _ h.rpT⟩⟩
 | _ => exact nomatch q
def zbe : D → Bool
 | .dict ((.int _, _) :: _) => true
 | .dict ((.str _, _) :: _) => true
 | .dict _ => false
 | _ => true
def zX (n : String) (d : D) : Option Rz := if zbe d = true then (match kitB (dTy d) n with
 | some b => some (.fz (.bool b))
 | none => none) else if isN d = true then (match kitB "tuple" n with
 | some b => some (.fz (.bool b))
 | none => none) else none
def zbc (n : String) (r : RE) : RE := JZ (zX n) r
def yZ (ds : List D) (lo hi : Option Int) : List D := (ds.drop (HT.sIx ds.length 0 lo)).take (HT.sIx ds.length ds.length hi - HT.sIx ds.length 0 lo)
def SlO (K : PySem.W.Frag) (r : V → Option Int → Option Int → Hp → VK → Prop) (f : D → Option Int → Option Int → Option Rz) : Prop := ∀ (x : V) (d : D) (lo hi : Option Int) (H M : Hp) (Q : VK) (z : Rz), Same M H → R1 K H M x d → f d lo hi = some z → ResK K H M z Q → r x lo hi H Q
def Xz : Env → Out (Option Int) := fun ρ => .ok ρ none
def Jh (r : RE) : Env → Out (Option Int) := fun ρ => (r ρ).bind fun ρ1 tp => match rdT ρ1 tp with
 | some (.int i) => .ok ρ1 (some i)
 | _ => .stk
def rSl (f : D → Option Int → Option Int → Option Rz) (a : RE) (lo hi : Env → Out (Option Int)) : RE := fun ρ => (a ρ).bind fun ρ1 tp => (lo ρ1).bind fun ρ2 l => (hi ρ2).bind fun ρ3 h => match rdT ρ3 tp with
 | some d => match f d l h with
  | some z => .ok ρ3 z.tp
  | none => .stk
 | none => .stk
theorem Vz {B : Bx} {w : WX} : SO K B w tNoPart Xz := fun σ H M W ρ Q s k => k _ _ _ _ (Gr.refl _ _) s rfl
theorem XF {B : Bx} {w : WX} {t : TE} {r : RE} (h : SE K B w t r) : SO K B w (tPart t) (Jh r) := fun σ H M W ρ Q s k =>
 h σ H M W ρ _ s (KG.bind k fun ρ1 tp v M1 W1 H1 _ g1 s1 h1 k1 => by
  split at k1
  ·rename_i i e
   exact ⟨i, ZG (h1.r1 s1 e), k1 _ _ _ _ (Gr.refl _ _) s1 rfl⟩
  ·exact False.elim k1)
theorem Wq {B : Bx} {w : WX} {te : TE} {ra : RE} {tl th : TO} {lo hi : Env → Out (Option Int)} {r : V → Option Int → Option Int → Hp → VK → Prop} {f : D → Option Int → Option Int → Option Rz} (ho : SlO K r f) (ha : SE K B w te ra) (hl : SO K B w tl lo) (hh : SO K B w th hi) : SE K B w (tSl r te tl th) (rSl f ra lo hi) := fun σ H M W ρ Q s k =>
 ha σ H M W ρ _ s (KG.bind k fun ρ1 tp v M1 W1 H1 _ g1 s1 h1 k1 => by
  obtain ⟨Wp, sp, pd⟩ := pend s1 h1
  refine hl σ H1 M1 Wp ρ1 _ sp ?_
  cases e : lo ρ1 with
  | stk => rw [e] at k1; exact k1
  | er ρ2 x =>
   rw [e] at k1
   intro d M2 W2 H2 g2 s2 hx
   obtain ⟨W3, g3, s3, _, _⟩ := pd M2 W2 H2 ρ2 g2 s2
   exact k1 d M2 W3 H2 g3 s3 hx
  | ok ρ2 l =>
   rw [e] at k1
   intro l' M2 W2 H2 g2 s2 hx
   have hx : l = l' := hx
   subst hx
   refine hh σ H2 M2 W2 ρ2 _ s2 ?_
   have k1 : KG K B M1 W1 σ w (QV K B σ) ((hi ρ2).bind fun ρ3 h => match rdT ρ3 tp with
    | some d => match f d l h with
     | some z => .ok ρ3 z.tp
     | none => .stk
    | none => .stk) Q := k1
   cases e3 : hi ρ2 with
   | stk => rw [e3] at k1; exact k1
   | er ρ3 x =>
    rw [e3] at k1
    intro d M3 W3 H3 g3 s3 hx
    obtain ⟨W4, g4, s4, _, _⟩ := pd M3 W3 H3 ρ3 (g2.trans g3) s3
    exact k1 d M3 W4 H3 g4 s4 hx
   | ok ρ3 h =>
    rw [e3] at k1
    intro h' M3 W3 H3 g3 s3 hx
    have hx : h = h' := hx
    subst hx
    obtain ⟨W4, g4, s4, _, t4⟩ := pd M3 W3 H3 ρ3 (g2.trans g3) s3
    simp only [Out.bind] at k1
    cases e4 : rdT ρ3 tp with
    | none => rw [e4] at k1; exact False.elim k1
    | some d =>
     rw [e4] at k1
     dsimp only at k1
     cases e5 : f d l h with
     | none => rw [e5] at k1; exact False.elim k1
     | some z =>
      rw [e5] at k1
      exact ho v d l h H3 M3 Q z s4.mh (t4.r1 s4 e4) e5 (ResK.mk (w := w) s4 (KG.up g4 k1)))
def zbV (d : D) (lo hi : Option Int) : Option Rz := match d with
 | .list ds => some (.ow false (.list (yZ ds lo hi)))
 | _ => none
def Ke (d : D) (lo hi : Option Int) : Option Rz := match d with
 | .str x => if x.length ≤ sizeLine then some (.fz (.str (cutS x lo hi))) else none
 | _ => none
theorem Wm : SlO K rSlS Ke := fun x d lo hi H M Q z sm h q k => by
 cases d with
 | str s =>
  unfold Ke at q
  dsimp only at q
  split at q
  ·rename_i hl
   cases q
   have := Qn h
   subst this
   exact ⟨s, rfl, hl, k.1 _ (.str _)⟩
  ·exact nomatch q
 | _ => exact nomatch q
def Xi (i : Nat) : RE := fun ρ => match ρ[i]? with
 | some (some (.s, .list ds)) => .ok ρ (.fz (.int ds.length))
 | _ => .stk
def Km (i : Nat) (r : RE) : RE := fun ρ => match ρ[i]? with
 | some (some (.s, .list ds)) => (r ρ).bind fun ρ1 tp => match rdT ρ1 tp with
  | some (.int j) => match atI ds j with
   | some (.int n) => .ok ρ1 (.fz (.int n))
   | _ => .stk
  | _ => .stk
 | _ => .stk
theorem Kd {B : Bx} {w : WX} {i : Nat} : SE K B w (tCB (fun xs H Q => ∃ p ys, xs = [.ref p] ∧ (SqL K H p ys ∨ SqT K H p ys) ∧ Q (.int ys.length) H) (tCons (tVar i) tNil)) (Xi i) := fun σ H M W ρ Q s k => by
 unfold Xi at k
 split at k
 ·rename_i ds hr
  obtain ⟨v, h1, a, ns, rfl, h2, h3⟩ := s.sl i _ _ hr
  refine ⟨.ref a, h1, a, ns.map V.int, rfl, .inl ((s.bw.trans s.wh).seq h2), ?_⟩
  have := k (.int ds.length) M W H (Gr.refl _ _) s (Rp.int _)
  cases h3
  rw [List.length_map] at this ⊢
  exact this
 ·exact False.elim k
theorem Yo {B : Bx} {w : WX} {i : Nat} {tb : TE} {r : RE} (hb : SE K B w tb r) : SE K B w (tOp (rIxL K) (tVar i) tb) (Km i r) := fun σ H M W ρ Q s k => by
 unfold Km at k
 split at k
 ·rename_i ds hr
  obtain ⟨v, h1, a, ns, rfl, h2, h3⟩ := s.sl i _ _ hr
  refine ⟨.ref a, h1, hb σ H M W ρ _ s (KG.bind k fun ρ1 tp u M1 W1 H1 _ g1 s1 t1 k1 => ?_)⟩
  split at k1
  ·rename_i j e
   split at k1
   ·rename_i n e2
    have := ZG (t1.r1 s1 e)
    subst this
    cases h3
    have hm : atI (ns.map V.int) j = some (.int n) := by
     unfold atI at e2 ⊢
     rw [List.length_map] at e2 ⊢
     cases q : ixN ns.length j with
     | none => rw [q] at e2; exact nomatch e2
     | some m =>
      rw [q] at e2
      simp only [Option.bind, List.getElem?_map] at e2 ⊢
      cases q2 : ns[m]? with
      | none => rw [q2] at e2; exact nomatch e2
      | some x => rw [q2] at e2; cases e2; rfl
    exact ⟨a, ns.map V.int, j, .int n, rfl, rfl, (s1.bw.trans s1.wh).seq h2, hm, k1 _ _ _ _ (Gr.refl _ _) s1 (Rp.int _)⟩
   ·exact False.elim k1
  ·exact False.elim k1
 ·exact False.elim k
end
end Vm
namespace Vm
open PySem PySem.Spec PyProof.Rows L2 Fz
section
variable {K : PySem.W.Frag} {B : Bx} {w : WX} {M W H : Hp} {ρ : Env} {σ : L2.St}
theorem St.turnSlot {i : Nat} {u p : Bool} {d d' : D} {a : Addr} {o o' : HO} (s : St K B M W H ρ σ) (hr : ρ[i]? = some (some (.o u p, d))) (hσ : σ[i]? = some (some (.ref a))) (ha : H a = some o) (hW : W a = none) (ho' : OwnO K M u o' d') : St K B M W (upd H a o') (ρ.set i (some (.o u p, d'))) σ := by
 have ap := qP s (g := .o u p) rfl hr hσ
 have hmu : OwnK o := by
  obtain ⟨v, q1, q2⟩ := s.sl i _ _ hr
  rw [hσ] at q1; cases q1
  obtain ⟨a', o1, e, h1, h2, _⟩ := q2
  cases e
  rw [ha] at h1; cases h1
  exact h2.kind
 have s2 := (s.forget i).turn (o' := o') ha hmu hW ap
 refine s2.put hσ (g := .o u p) ⟨a, o', rfl, upd_same, ho', hW, fun hp => ?_⟩ (fun _ z => nomatch z) (fun b _ e => by cases e; exact ap.turnd (s.forget i))
 obtain ⟨v, q1, q2⟩ := s.sl i _ _ hr
 rw [hσ] at q1; cases q1
 obtain ⟨a', o2, e, _, _, _, q⟩ := q2
 cases e
 exact q hp
theorem St.cell {i : Nat} {u p : Bool} {d : D} (s : St K B M W H ρ σ) (hr : ρ[i]? = some (some (.o u p, d))) : ∃ a o, σ[i]? = some (some (.ref a)) ∧ H a = some o ∧ OwnO K M u o d ∧ W a = none := by
 obtain ⟨v, q1, a, o, rfl, q2, q3, q4, _⟩ := s.sl i _ _ hr
 exact ⟨a, o, q1, q2, q3, q4⟩
end
def zan (K : PySem.W.Frag) (r : V → List V → Hp → VK → Prop) (f : List D → List D → Option (List D × D)) : Prop := ∀ (a : Addr) (xs : List V) (ds : List D) (vs : List V) (es : List D) (H M : Hp) (Q : VK) (ds' : List D) (res : D), H a = some (.lst xs) → Rps K M xs ds → Rps K M vs es → Same M H → f ds es = some (ds', res) → (∀ v xs', Rps K M xs' ds' → Rp K M v res → Q v (upd H a (.lst xs'))) → r (.ref a) vs H Q
def QZ (i : Nat) (f : List D → List D → Option (List D × D)) (a : RA) : RE := fun ρ => match ρ[i]? with
 | some (some (.o false _, .list _)) => (a ρ).bind fun ρ1 tps => match Xk ρ1 tps with
  | some (ρ2, es) => match ρ2[i]? with
   | some (some (.o false p, .list ds)) => match f ds es with
    | some (ds', res) => .ok (ρ2.set i (some (.o false p, .list ds'))) (.fz res)
    | none => .stk
   | _ => .stk
  | none => .stk
 | _ => .stk
section
variable {K : PySem.W.Frag} {B : Bx} {w : WX} {tA : TA} {rA : RA}
theorem zaB {M : Hp} {o : HO} {ds : List D} (h : OwnO K M false o (.list ds)) : ∃ xs, o = .lst xs ∧ Rps K M xs ds := by
 cases o <;> first | exact False.elim h | exact ⟨_, rfl, h⟩
theorem yD {r : V → List V → Hp → VK → Prop} {f : List D → List D → Option (List D × D)} {i : Nat} (ho : zan K r f) {M1 W1 H1 : Hp} {ρ1 : Env} {σ : L2.St} {tps : List Tp} {vs : List V} {Q : VK} {v : V} (s1 : St K B M1 W1 H1 ρ1 σ) (h1 : TpsOk K B M1 W1 H1 ρ1 σ tps vs) (hσ : σ[i]? = some (some v))
  (k1 : KG K B M1 W1 σ w (QV K B σ) (match Xk ρ1 tps with
  | some (ρ2, es) => match ρ2[i]? with
   | some (some (.o false p, .list ds)) => match f ds es with
    | some (ds', res) => .ok (ρ2.set i (some (.o false p, .list ds'))) (.fz res)
    | none => .stk
   | _ => .stk
  | none => .stk) Q) : r v vs H1 Q := by
 cases e : Xk ρ1 tps with
 | none => rw [e] at k1; exact False.elim k1
 | some x =>
  obtain ⟨ρ2, es⟩ := x
  rw [e] at k1
  dsimp only at k1
  obtain ⟨M2, W2, g2, s2, r2⟩ := kY s1 h1 e
  split at k1
  ·rename_i p ds hr2
   obtain ⟨a, o, q1, q2, q3, q4⟩ := s2.cell hr2
   rw [hσ] at q1; cases q1
   obtain ⟨xs, rfl, q3⟩ := zaB q3
   cases e3 : f ds es with
   | none => rw [e3] at k1; exact False.elim k1
   | some y =>
    obtain ⟨ds', res⟩ := y
    rw [e3] at k1
    dsimp only at k1
    refine ho a xs ds vs es H1 M2 Q ds' res q2 q3 r2 s2.mh e3 fun v xs' hx hv => ?_
    exact k1 v M2 W2 _ g2 (s2.turnSlot hr2 hσ q2 q4 (o' := .lst xs') (d' := .list ds') hx) hv
  ·exact False.elim k1
theorem jK {r : V → List V → Hp → VK → Prop} {f : List D → List D → Option (List D × D)} {i : Nat} (ho : zan K r f) (hA : SA K B w tA rA) : SE K B w (tBM K "list" r (tVar i) tA) (QZ i f rA) := fun σ H M W ρ Q s k => by
 unfold QZ at k
 split at k
 ·rename_i p0 ds0 hr
  obtain ⟨a, o, q1, q2, q3, q4⟩ := s.cell hr
  obtain ⟨xs, rfl, q3⟩ := zaB q3
  refine ⟨.ref a, q1, .inl ⟨rfl, xs, .inl (.inl q2)⟩, hA σ H M W ρ _ s (KG.bind k fun ρ1 tps vs M1 W1 H1 _ g1 s1 h1 k1 => yD ho s1 h1 q1 k1)⟩
 ·exact False.elim k
def QJ (ds es : List D) : Option (List D × D) := match es with
 | [e] => if ds.length < sizeLine then some (ds ++ [e], .none) else none
 | _ => none
theorem Q9 : zan K rAppend QJ := fun a xs ds vs es H M Q ds' res ha hx hv sm e k => by
 cases hv with
 | nil => exact nomatch e
 | cons h1 h =>
  cases h with
  | cons _ _ => exact nomatch e
  | nil =>
   unfold QJ at e
   dsimp only at e
   split at e
   ·rename_i hl; cases e
    exact ⟨a, xs, _, rfl, rfl, ha, by rw [hx.length]; exact hl, k _ _ (hx.append (.cons h1 .nil)) .non⟩
   ·exact nomatch e
theorem Rps.dropLast {M : Hp} {vs : List V} {ds : List D} (h : Rps K M vs ds) : Rps K M vs.dropLast ds.dropLast := by
 rw [List.dropLast_eq_take, List.dropLast_eq_take, h.length]
 exact h.take _
def zbx (ds : List D) : D → Option (List D × D)
 | .tuple fs => if ds.length + fs.length ≤ sizeLine then some (ds ++ fs, .none) else none
 | _ => none
def wu (ds es : List D) : Option (List D × D) := match es with
 | [x] => zbx ds x
 | _ => none
def zbp (ds : List D) : D → Option (List D × D)
 | .list fs => if ds.length + fs.length ≤ sizeLine then some (ds ++ fs, .none) else none
 | _ => none
def wC (ds es : List D) : Option (List D × D) := match es with
 | [x] => zbp ds x
 | _ => none
end
def r2 {α : Type} (a b : RE) (kf : Env → Tp → Tp → Out α) : Env → Out α := fun ρ => (a ρ).bind fun ρ1 t1 => (b ρ1).bind fun ρ2 t2 => kf ρ2 t1 t2
section
variable {K : PySem.W.Frag} {B : Bx} {w : WX} {ta tb : TE} {ra rb : RE} {M W H : Hp} {ρ : Env} {σ : L2.St}
def Two (K : PySem.W.Frag) (B : Bx) (M W H : Hp) (ρ : Env) (σ : L2.St) (t1 t2 : Tp) (v1 v2 : V) : Prop := TpOkL K B M W H ρ σ t1 v1 ∧ TpOkL K B M W H ρ σ t2 v2 ∧ ((∃ g d, t1 = .ow g d) → (∃ g d, t2 = .ow g d) → v2 ≠ v1)
theorem zbo {D : Ends} {kf : Env → Tp → Tp → Out Fl} {G : V → Hp → Prop} {P : V → V → Hp → Prop} (ha : SE K B w ta ra) (hb : SE K B w tb rb) (s : St K B M W H ρ σ) (k : KS K B M W w D (r2 ra rb kf ρ))
  (hw : ∀ x H1, (tb σ H1 fun y H2 => P x y H2) → G x H1)
  (fin : ∀ ρ2 t1 t2 v1 v2 M2 W2 H2, Gr M W M2 W2 → St K B M2 W2 H2 ρ2 σ → Two K B M2 W2 H2 ρ2 σ t1 t2 v1 v2 → KS K B M2 W2 w D (kf ρ2 t1 t2) → P v1 v2 H2) : ta σ H G :=
 ha σ H M W ρ _ s (KS.bind k fun ρ1 t1 v1 M1 W1 H1 _ g1 s1 h1 k1 => by
  obtain ⟨Wp, sp, pd⟩ := pend s1 h1
  refine hw _ _ (hb σ H1 M1 Wp ρ1 _ sp ?_)
  cases e : rb ρ1 with
  | stk => rw [e] at k1; exact k1
  | er ρ2 x =>
   rw [e] at k1
   intro d M2 W2 H2 g2 s2 hx
   obtain ⟨W3, g3, s3, _, _⟩ := pd M2 W2 H2 ρ2 g2 s2
   exact k1 σ d M2 W3 H2 g3 s3 hx
  | ok ρ2 t2 =>
   rw [e] at k1
   intro v2 M2 W2 H2 g2 s2 h2
   obtain ⟨W3, g3, s3, f3, h3⟩ := pd M2 W2 H2 ρ2 g2 s2
   obtain ⟨q1, q2⟩ := f3 t2 v2 h2.l
   exact fin ρ2 t1 t2 v1 v2 M2 W3 H2 (g1.trans g3) s3 ⟨h3, q1, q2⟩ (KS.up g3 k1))
theorem zbT {kf : Env → Tp → Tp → Out Tp} {Q : VK} {G : V → Hp → Prop} {P : V → V → Hp → Prop} (ha : SE K B w ta ra) (hb : SE K B w tb rb) (s : St K B M W H ρ σ) (k : KG K B M W σ w (QV K B σ) (r2 ra rb kf ρ) Q)
  (hw : ∀ x H1, (tb σ H1 fun y H2 => P x y H2) → G x H1)
  (fin : ∀ ρ2 t1 t2 v1 v2 M2 W2 H2, Gr M W M2 W2 → St K B M2 W2 H2 ρ2 σ → Two K B M2 W2 H2 ρ2 σ t1 t2 v1 v2 → KG K B M2 W2 σ w (QV K B σ) (kf ρ2 t1 t2) Q → P v1 v2 H2) : ta σ H G :=
 ha σ H M W ρ _ s (KG.bind k fun ρ1 t1 v1 M1 W1 H1 _ g1 s1 h1 k1 => by
  obtain ⟨Wp, sp, pd⟩ := pend s1 h1
  refine hw _ _ (hb σ H1 M1 Wp ρ1 _ sp ?_)
  cases e : rb ρ1 with
  | stk => rw [e] at k1; exact k1
  | er ρ2 x =>
   rw [e] at k1
   intro d M2 W2 H2 g2 s2 hx
   obtain ⟨W3, g3, s3, _, _⟩ := pd M2 W2 H2 ρ2 g2 s2
   exact k1 d M2 W3 H2 g3 s3 hx
  | ok ρ2 t2 =>
   rw [e] at k1
   intro v2 M2 W2 H2 g2 s2 h2
   obtain ⟨W3, g3, s3, f3, h3⟩ := pd M2 W2 H2 ρ2 g2 s2
   obtain ⟨q1, q2⟩ := f3 t2 v2 h2.l
   exact fin ρ2 t1 t2 v1 v2 M2 W3 H2 (g1.trans g3) s3 ⟨h3, q1, q2⟩ (KG.up g3 k1))
end
def WF (i : Nat) (ρ1 : Env) (tv ti : Tp) : Out Fl := match stF ρ1 tv with
 | some (ρ2, e) => match rdT ρ2 ti, ρ2[i]? with
  | some (.int n), some (some (.o false p, .list ds)) => match ixN ds.length n with
   | some j => .ok (ρ2.set i (some (.o false p, .list (ds.set j e)))) .nx
   | none => .stk
  | _, _ => .stk
 | none => .stk
def Ka (i : Nat) (a b : RE) : RS := fun ρ => match ρ[i]? with
 | some (some (.o false _, .list _)) => r2 a b (WF i) ρ
 | _ => .stk
section
variable {K : PySem.W.Frag} {B : Bx} {w : WX} {ta tb : TE} {ra rb : RE}
theorem YL {i : Nat} (ha : SE K B w ta ra) (hb : SE K B w tb rb) : SS K B w (tAsg ta (gSub (tVar i) tb rSetL)) (Ka i ra rb) := fun D σ H M W ρ s k => by
 unfold Ka at k
 split at k
 ·rename_i p0 ds0 hr
  obtain ⟨a, o, q1, q2, q3, q4⟩ := s.cell hr
  refine zbo (P := fun v x H3 => rSetL (.ref a) x v H3 fun H4 => D.nx σ H4) ha hb s k (fun x H1 h => ⟨.ref a, q1, h⟩) fun ρ1 tv ti v x M1 W1 H1 g1 s1 ⟨h1, h2, h3⟩ k1 => ?_
  unfold WF at k1
  cases e : stF ρ1 tv with
  | none => rw [e] at k1; exact False.elim k1
  | some y =>
   obtain ⟨ρ2, ed⟩ := y
   rw [e] at k1
   dsimp only at k1
   obtain ⟨M2, W2, g2, s2, r2, f2⟩ := Vh s1 h1 e
   have h2' := f2 ti x h2 (fun g d e1 g' d' e2 => h3 ⟨g, d, e1⟩ ⟨g', d', e2⟩)
   split at k1
   ·rename_i n p ds hn hr2
    obtain ⟨a', o', t1, t2, t3, t4⟩ := s2.cell hr2
    rw [q1] at t1; cases t1
    obtain ⟨xs, rfl, t3⟩ := zaB t3
    have := ZG (h2'.r1 s2 hn)
    subst this
    cases ej : ixN ds.length n with
    | none => rw [ej] at k1; exact False.elim k1
    | some j =>
     rw [ej] at k1
     refine ⟨a, xs, n, j, rfl, rfl, t2, by rw [t3.length]; exact ej, ?_⟩
     exact k1 σ M2 W2 _ g2 (s2.turnSlot hr2 q1 t2 t4 (o' := .lst (xs.set j v)) (d' := .list (ds.set j ed)) (t3.set r2 j))
   ·exact False.elim k1
 ·exact False.elim k
end
end Vm
namespace Vm
open PySem PySem.Spec PyProof.Rows L2 Fz
def X8 : D → Option Key
 | .int i => some (.inl i)
 | .str x => some (.inr x)
 | _ => none
def Qq : List D → Option (List Key)
 | [] => some []
 | d :: ds => match X8 d, Qq ds with
  | some k, some ks => some (k :: ks)
  | _, _ => none
def jT : D → Option (List Key)
 | .tuple ds => if cst ds = true then none else Qq ds
 | _ => none
def keyOf (u : Bool) (d : D) : Option (Key ⊕ List Key) := if u = true then (jT d).map .inr else (X8 d).map .inl
def Zx (k : Key ⊕ List Key) (d : D) : Bool := match k, d with
 | .inl k, d => decide (X8 d = some k)
 | .inr ks, .tuple ds => decide (Qq ds = some ks)
 | _, _ => false
def Zb (kds : List (D × D)) (k : Key ⊕ List Key) : Option D := (kds.find? fun p => Zx k p.1).map (·.2)
def kh (kds : List (D × D)) (k : Key ⊕ List Key) (kd d : D) : List (D × D) := if (kds.any fun p => Zx k p.1) = true then kds.map (fun p => if Zx k p.1 = true then (p.1, d) else p) else kds ++ [(kd, d)]
def Y4 (kds : List (D × D)) (k : Key ⊕ List Key) : List (D × D) := kds.filter fun p => !Zx k p.1
theorem Vn (k : Key) : X8 (kD k) = some k := by cases k <;> rfl
theorem je : ∀ ks : List Key, Qq (ks.map kD) = some ks
 | [] => rfl
 | k :: ks => by rw [List.map_cons]; unfold Qq; rw [Vn, je ks]
theorem Jz {d : D} {k : Key} (h : X8 d = some k) : d = kD k := by
 cases d <;> first | (cases h; done) | (cases h; rfl)
theorem xV : ∀ {ds : List D} {ks : List Key}, Qq ds = some ks → ds = ks.map kD
 | [], ks, h => by cases h; rfl
 | d :: ds, ks, h => by
  unfold Qq at h
  cases e1 : X8 d with
  | none => rw [e1] at h; exact nomatch h
  | some k =>
   cases e2 : Qq ds with
   | none => rw [e1, e2] at h; exact nomatch h
   | some ks' => rw [e1, e2] at h; cases h; rw [List.map_cons, Jz e1, xV e2]
section
variable {K : PySem.W.Frag} {M : Hp}
theorem v7 (k k' : Key) : Zx (.inl k) (kD k') = decide (k' = k) := by
 unfold Zx
 dsimp only
 rw [Vn]
 simp
theorem JP (k k' : List Key) : Zx (.inr k) (.tuple (k'.map kD)) = decide (k' = k) := by
 unfold Zx
 dsimp only
 rw [je]
 simp
inductive Prs (K : PySem.W.Frag) (M : Hp) {κ : Type} (kd : κ → D) : List (κ × V) → List (D × D) → Prop
 | nil : Prs K M kd [] []
 | cons {k : κ} {v : V} {d : D} {kvs : List (κ × V)} {kds : List (D × D)} : Rp K M v d → Prs K M kd kvs kds → Prs K M kd ((k, v) :: kvs) ((kd k, d) :: kds)
theorem Xe {κ : Type} {kd : κ → D} : ∀ {kvs : List (κ × V)} {kds : List (D × D)}, kvs.map (fun p => kd p.1) = kds.map (·.1) → Rps K M (kvs.map (·.2)) (kds.map (·.2)) → Prs K M kd kvs kds
 | [], [], _, _ => .nil
 | [], _ :: _, e, _ => by simp at e
 | _ :: _, [], e, _ => by simp at e
 | (k, v) :: kvs, (x, d) :: kds, e, h => by
  rw [List.map_cons, List.map_cons] at e
  injection e with e1 e2
  dsimp only at e1
  subst e1
  rw [List.map_cons, List.map_cons] at h
  cases h with
  | cons h1 h2 => exact .cons h1 (Xe e2 h2)
theorem vO {κ : Type} {kd : κ → D} : ∀ {kvs : List (κ × V)} {kds : List (D × D)}, Prs K M kd kvs kds → kvs.map (fun p => kd p.1) = kds.map (·.1) ∧ Rps K M (kvs.map (·.2)) (kds.map (·.2))
 | _, _, .nil => ⟨rfl, .nil⟩
 | _, _, .cons h t => by
  obtain ⟨h1, h2⟩ := vO t
  exact ⟨by rw [List.map_cons, List.map_cons, h1], .cons h h2⟩
section
variable {κ : Type} [DecidableEq κ] {kd : κ → D} {kk : Key ⊕ List Key} {k : κ} (hs : ∀ k', Zx kk (kd k') = decide (k' = k))
include hs
theorem xA : ∀ {kvs : List (κ × V)} {kds : List (D × D)}, Prs K M kd kvs kds → (∀ d, Zb kds kk = some d → ∃ v, valV kvs k = some v ∧ Rp K M v d) ∧ (Zb kds kk = none → valV kvs k = none)
 | _, _, .nil => And.intro (fun d h => nomatch h) (fun _ => rfl)
 | _, _, .cons (k := k') (v := v) (d := d) (kvs := kvs) (kds := kds) h t => by
  obtain ⟨i1, i2⟩ := xA t
  by_cases e : k' = k
  ·have e1 : Zb ((kd k', d) :: kds) kk = some d := by
    unfold Zb
    rw [List.find?_cons_of_pos (by rw [hs]; exact decide_eq_true e)]; rfl
   rw [e1, valV_pos (show (k', v).1 = k from e)]
   exact ⟨fun d' q => by cases q; exact ⟨v, rfl, h⟩, fun q => nomatch q⟩
  ·have e1 : Zb ((kd k', d) :: kds) kk = Zb kds kk := by
    unfold Zb
    rw [List.find?_cons_of_neg (by rw [hs]; simpa using e)]
   rw [e1, valV_neg (show ¬ (k', v).1 = k from e)]
   exact ⟨i1, i2⟩
theorem Vw : ∀ {kvs : List (κ × V)} {kds : List (D × D)}, Prs K M kd kvs kds → (kvs.any fun kv => decide (kv.1 = k)) = kds.any fun p => Zx kk p.1
 | _, _, .nil => rfl
 | _, _, .cons h t => by rw [List.any_cons, List.any_cons, hs, Vw t]
theorem vZ {v : V} {d : D} {kvs : List (κ × V)} {kds : List (D × D)} (h : Prs K M kd kvs kds) (hv : Rp K M v d) : Prs K M kd (putK kvs k v) (kh kds kk (kd k) d) := by
 unfold putK kh
 rw [Vw hs h]
 split
 ·rename_i hany
  clear hany
  induction h with
  | nil => exact .nil
  | @cons k' x e kvs kds h t ih =>
   rw [List.map_cons, List.map_cons]
   by_cases q : k' = k
   ·have e1 : Zx kk (kd k') = true := by rw [hs]; exact decide_eq_true q
    rw [if_pos (show (k', x).1 = k from q), if_pos (show Zx kk (kd k', e).1 = true from e1)]
    exact .cons hv ih
   ·have e1 : ¬ Zx kk (kd k') = true := by rw [hs]; simpa using q
    rw [if_neg (show ¬ (k', x).1 = k from q), if_neg (show ¬ Zx kk (kd k', e).1 = true from e1)]
    exact .cons h ih
 ·rename_i hany
  clear hany
  induction h with
  | nil => exact .cons hv .nil
  | cons h t ih => exact .cons h ih
end
theorem Prs.len {κ : Type} {kd : κ → D} : ∀ {kvs : List (κ × V)} {kds : List (D × D)}, Prs K M kd kvs kds → kvs.length = kds.length
 | _, _, .nil => rfl
 | _, _, .cons _ t => by rw [List.length_cons, List.length_cons, t.len]
end
def VG (ks : List Key) : D := .tuple (ks.map kD)
def Xm : List (D × D) → Option Bool
 | [] => none
 | (.tuple _, _) :: _ => some true
 | (.list _, _) :: _ => none
 | (.none, _) :: _ => none
 | _ :: _ => some false
def Qt : D → D → Option Rz
 | .dict kds, k => match Xm kds with
  | some u => match keyOf u k with
   | some kk => match Zb kds kk with
    | some d => some (.fz d)
    | none => none
   | none => none
  | none => none
 | _, _ => none
def inD (kds : List (D × D)) (k : D) : Option Bool := match Xm kds with
 | some u => match keyOf u k with
  | some kk => some (Zb kds kk).isSome
  | none => none
 | none => none
def wZ (neg : Bool) : D → D → Option Rz
 | k, .dict kds => match inD kds k with
  | some b => some (.fz (.bool (if neg then !b else b)))
  | none => none
 | _, _ => none
section
variable {K : PySem.W.Frag}
theorem za1 {M : Hp} {v : V} {k : Key} (h : Rp K M v (kD k)) : v = kV k := by
 cases k <;> (cases h; rfl)
theorem xm {M : Hp} : ∀ {ks : List Key} {xs : List V}, Rps K M xs (ks.map kD) → xs = ks.map kV
 | [], _, .nil => rfl
 | k :: ks, _, .cons h t => by rw [List.map_cons, za1 h, xm t]
theorem Ye {H M : Hp} {x y : V} {kds : List (D × D)} {k : D} {u : Bool} {kk : Key ⊕ List Key} (sm : Same M H) (h1 : R1 K H M x (.dict kds)) (h2 : R1 K H M y k) (hu : Xm kds = some u) (hk : keyOf u k = some kk) :
  ∃ a o, x = .ref a ∧ DGet H a y o ∧ (∀ d, Zb kds kk = some d → ∃ v, o = some v ∧ Rp K M v d) ∧ (Zb kds kk = none → o = none) := by
 cases h1 with
 | dic t1 t2 t3 =>
  rename_i a kvs
  have pr := Xe t2 t3
  have hu' : u = false := by
   cases pr with
   | nil => exact nomatch hu
   | @cons k' _ _ _ _ _ _ => cases k' <;> exact (Option.some.inj hu).symm
  subst hu'
  unfold keyOf at hk
  rw [if_neg Bool.false_ne_true] at hk
  cases e : X8 k with
  | none => rw [e] at hk; exact nomatch hk
  | some kx =>
   rw [e] at hk
   cases hk
   have := Jz e
   subst this
   obtain ⟨l1, l2⟩ := xA (k := kx) (kd := kD) (kk := .inl kx) (fun k' => v7 kx k') pr
   have hy : y = kV kx := by cases kx <;> (cases h2; rfl)
   exact ⟨a, valV kvs kx, rfl, .inl ⟨kvs, kx, t1, hy, rfl⟩, l1, l2⟩
 | diT t1 t2 t3 =>
  rename_i a kvs
  have pr : Prs K M VG kvs kds := Xe t2 t3
  have hu' : u = true := by
   cases pr with
   | nil => exact nomatch hu
   | cons _ _ => exact (Option.some.inj hu).symm
  subst hu'
  unfold keyOf at hk
  rw [if_pos rfl] at hk
  cases e : jT k with
  | none => rw [e] at hk; exact nomatch hk
  | some ks =>
   rw [e] at hk
   cases hk
   cases k <;> first | (cases e; done) | skip
   rename_i ds
   unfold jT at e
   dsimp only at e
   split at e
   ·exact nomatch e
   ·rename_i hc
    have := xV e
    subst this
    obtain ⟨l1, l2⟩ := xA (k := ks) (kd := VG) (kk := .inr ks) (fun k' => JP ks k') pr
    cases h2 with
    | tupK _ c _ => exact absurd c hc
    | tup b1 b2 =>
     have := xm b2
     subst this
     exact ⟨a, valV kvs ks, rfl, .inr ⟨kvs, ks, _, t1, rfl, sm _ _ b1, rfl⟩, l1, l2⟩
 | tupN _ _ _ => exact nomatch hu
 | adr _ => exact nomatch hu
 | ins _ _ _ _ => exact nomatch hu
theorem wH : Op2 K (fun x y H Q => ∃ a v, x = .ref a ∧ DGet H a y (some v) ∧ Q v H) Qt := fun x y d e H M Q z sm h1 h2 q k => by
 cases d with
 | dict kds =>
  unfold Qt at q
  dsimp only at q
  split at q
  ·rename_i u hu
   split at q
   ·rename_i kk hk
    split at q
    ·rename_i dd hd
     cases q
     obtain ⟨a, o, rfl, g, l1, _⟩ := Ye sm h1 h2 hu hk
     obtain ⟨v, rfl, rv⟩ := l1 dd hd
     exact ⟨a, v, rfl, g, k.1 v rv⟩
    ·exact nomatch q
   ·exact nomatch q
  ·exact nomatch q
 | _ => exact nomatch q
variable {B : Bx} {w : WX} {td ty tv : TE} {rd ry rv : RE}
theorem YC (h1 : SE K B w td rd) (h2 : SE K B w ty ry) : SE K B w (tDGet td ty) (zF Qt rd ry) := zq wH h1 h2
end
def yo (i : Nat) (ρ1 : Env) (tv tk : Tp) : Out Fl := match stF ρ1 tv with
 | some (ρ2, e) => match rdT ρ2 tk, ρ2[i]? with
  | some k, some (some (.o u p, .dict kds)) => match keyOf u k with
   | some kk => if kds.length < sizeLine then .ok (ρ2.set i (some (.o u p, .dict (kh kds kk k e)))) .nx else .stk
   | none => .stk
  | _, _ => .stk
 | none => .stk
def KZ (i : Nat) (v k : RE) : RS := fun ρ => match ρ[i]? with
 | some (some (.o _ _, .dict _)) => r2 v k (yo i) ρ
 | _ => .stk
section
variable {K : PySem.W.Frag} {B : Bx} {w : WX} {td ty tv : TE} {rd ry rv : RE}
theorem Yk {i : Nat} (hv : SE K B w tv rv) (hk : SE K B w ty ry) : SS K B w (sDPut (tVar i) ty tv) (KZ i rv ry) := fun D σ H M W ρ s k => by
 unfold KZ at k
 split at k
 ·rename_i u0 p0 ds0 hr
  obtain ⟨a, o, q1, q2, q3, q4⟩ := s.cell hr
  refine zbo (P := fun v x H3 => ∃ a' H4, V.ref a = .ref a' ∧ DPut H3 a' x v H4 ∧ D.nx σ H4) hv hk s k (fun x H1 h => ⟨.ref a, q1, h⟩) fun ρ1 tv ti v x M1 W1 H1 g1 s1 ⟨h1, h2, h3⟩ k1 => ?_
  unfold yo at k1
  cases e : stF ρ1 tv with
  | none => rw [e] at k1; exact False.elim k1
  | some y =>
   obtain ⟨ρ2, ed⟩ := y
   rw [e] at k1
   dsimp only at k1
   obtain ⟨M2, W2, g2, s2, r2, f2⟩ := Vh s1 h1 e
   have h2' := f2 ti x h2 (fun g d e1 g' d' e2 => h3 ⟨g, d, e1⟩ ⟨g', d', e2⟩)
   split at k1
   ·rename_i kd u p kds hn hr2
    obtain ⟨a', o', t1, t2, t3, t4⟩ := s2.cell hr2
    rw [q1] at t1; cases t1
    have rk := h2'.r1 s2 hn
    split at k1
    ·rename_i kk hkk
     split at k1
     ·rename_i hl
      cases u with
      | false =>
       cases o' <;> first | exact False.elim t3 | skip
       rename_i kvs
       have pr : Prs K M2 kD kvs kds := Xe t3.1 t3.2
       unfold keyOf at hkk
       rw [if_neg Bool.false_ne_true] at hkk
       cases ek : X8 kd with
       | none => rw [ek] at hkk; exact nomatch hkk
       | some kx =>
        rw [ek] at hkk
        cases hkk
        have := Jz ek
        subst this
        have hy : x = kV kx := by cases kx <;> (cases rk; rfl)
        subst hy
        refine ⟨a, _, rfl, DPut.k (k := kx) t2 (by rw [pr.len]; exact hl), ?_⟩
        exact k1 σ M2 W2 _ g2 (s2.turnSlot hr2 q1 t2 t4 (o' := .dK (putK kvs kx v)) (vO (vZ (fun k' => v7 kx k') pr r2)))
      | true =>
       cases o' <;> first | exact False.elim t3 | skip
       rename_i kvs
       have pr : Prs K M2 VG kvs kds := Xe t3.1 t3.2
       unfold keyOf at hkk
       rw [if_pos rfl] at hkk
       cases ek : jT kd with
       | none => rw [ek] at hkk; exact nomatch hkk
       | some ks =>
        rw [ek] at hkk
        cases hkk
        cases kd <;> first | (cases ek; done) | skip
        rename_i ds
        unfold jT at ek
        dsimp only at ek
        split at ek
        ·exact nomatch ek
        ·rename_i hc
         have := xV ek
         subst this
         cases rk with
         | tupK _ c _ => exact absurd c hc
         | tup b1 b2 =>
          have := xm b2
          subst this
          refine ⟨a, _, rfl, DPut.t (k := ks) t2 (s2.mh _ _ b1) (by rw [pr.len]; exact hl), ?_⟩
          exact k1 σ M2 W2 _ g2 (s2.turnSlot hr2 q1 t2 t4 (o' := .dT (putK kvs ks v)) (vO (vZ (kd := VG) (fun k' => JP ks k') pr r2)))
     ·exact False.elim k1
    ·exact False.elim k1
   ·exact False.elim k1
 ·exact False.elim k
end
end Vm
namespace Vm
open PySem PySem.Spec PyProof.Rows L2 Fz
def Wj (i : Nat) (f : D → D → Option Rz) (r : RE) : RS := fun ρ => match zp i ρ with
 | .ok _ _ => (r ρ).bind fun ρ1 tp => match rdT ρ1 (.sl i), rdT ρ1 tp with
  | some d, some e => match f d e with
   | some z => match asg ρ1 i z.tp with
    | some ρ2 => .ok ρ2 .nx
    | none => .stk
   | none => .stk
  | _, _ => .stk
 | _ => .stk
section
variable {K : PySem.W.Frag} {B : Bx} {w : WX} {t ta tb tc : TE} {r ra rb rc : RE}
theorem ResK.mkG {M W H : Hp} {ρ : Env} {σ : L2.St} {z : Rz} {Q : VK} (s : St K B M W H ρ σ) (k : ∀ v M' W' H', Gr M W M' W' → St K B M' W' H' ρ σ → TpOk K B M' W' H' ρ σ z.tp v → Q v H') : ResK K H M z Q := by
 cases z with
 | tr d => trivial
 | fz d =>
  refine ⟨fun v hv => k v M W H (Gr.refl _ _) s hv, fun v a o ha hv => ?_⟩
  obtain ⟨gr, s'⟩ := s.newF (o := .tup o) ha fun _ z => nomatch z
  exact k v _ _ _ gr s' hv
 | ow g d =>
  intro a o ha ho
  obtain ⟨s', h'⟩ := s.newO ha ho
  exact k _ _ _ _ (Gr.refl _ _) s' h'
theorem zag {i : Nat} {ti : TIp} {f : D → D → Option Rz} (ho : Op2 K ti f) (h : SE K B w t r) : SS K B w (tAug i t ti) (Wj i f r) := fun D σ H M W ρ s k => by
 unfold Wj at k
 split at k
 ·rename_i ρ0 tp0 e0
  have ex : ∃ v, σ[i]? = some (some v) := by
   unfold zp at e0
   split at e0
   ·rename_i gd hr
    obtain ⟨g, d⟩ := gd
    obtain ⟨v, h1, _⟩ := s.sl i g d hr
    exact ⟨v, h1⟩
   ·exact nomatch e0
  obtain ⟨x, hx⟩ := ex
  refine ⟨x, hx, h σ H M W ρ _ s (KS.bind k fun ρ1 tp v M1 W1 H1 _ g1 s1 h1 k1 => ?_)⟩
  split at k1
  ·rename_i d e ed ee
   have rx : R1 K H1 M1 x d := TpOk.r1 (tp := .sl i) s1 hx ed
   have ry := h1.r1 s1 ee
   cases ef : f d e with
   | none => rw [ef] at k1; exact False.elim k1
   | some z =>
    rw [ef] at k1
    dsimp only at k1
    refine ho x v d e H1 M1 _ z s1.mh rx ry ef (ResK.mkG s1 fun y M2 W2 H2 g2 s2 h2 => ?_)
    cases ea : asg ρ1 i z.tp with
    | none => rw [ea] at k1; exact False.elim k1
    | some ρ2 =>
     rw [ea] at k1
     obtain ⟨M3, W3, g3, s3⟩ := Wu s2 h2 ea
     exact k1 _ M3 W3 H2 (g2.trans g3) s3
  ·exact False.elim k1
 ·exact False.elim k
theorem zaG {f : Int → Int → Int} : Op2 K (ipI f) (oI f) := fun x y d e H M Q z sm h1 h2 q k => by
 cases h1 <;> cases h2 <;> first | (cases q; done) | skip
 cases q; exact ⟨_, _, rfl, rfl, k.1 _ (.int _)⟩
def rFz (r : RE) : RE := fun ρ => (r ρ).bind fun ρ1 tp => match stF ρ1 tp with
 | some (ρ2, d) => .ok ρ2 (.fz d)
 | none => .stk
theorem za6 (h : SE K B w t r) : SE K B w t (rFz r) := fun σ H M W ρ Q s k =>
 h σ H M W ρ _ s (KG.bind k fun ρ1 tp v M1 W1 H1 _ g1 s1 h1 k1 => by
  split at k1
  ·rename_i ρ2 d e
   obtain ⟨M2, W2, g2, s2, r2, _⟩ := qJ s1 h1 e
   exact k1 v M2 W2 H1 g2 s2 r2
  ·exact False.elim k1)
def vz (f g : D → D → Option Rz) (c : RE) (ρ2 : Env) (t1 t2 : Tp) : Out Tp := match t2 with
 | .fz e => match rdT ρ2 t1 with
  | some d => match f d e with
   | some (.fz (.bool x)) => if x = true then (c ρ2).bind fun ρ3 t3 => match rdT ρ3 t3 with
     | some d3 => match g e d3 with
      | some z => .ok ρ3 z.tp
      | none => .stk
     | none => .stk
    else .ok ρ2 (.fz (.bool false))
   | _ => .stk
  | none => .stk
 | _ => .stk
def kW (f g : D → D → Option Rz) (a b c : RE) : RE := r2 a (rFz b) (vz f g c)
theorem yq {r r' : R2} {f g : D → D → Option Rz} (h1 : Op2 K r f) (h2 : Op2 K r' g) (ha : SE K B w ta ra) (hb : SE K B w tb rb) (hc : SE K B w tc rc) : SE K B w (tChain r r' ta tb tc) (kW f g ra rb rc) := fun σ H M W ρ Q s k =>
 zbT (G := fun x H1 => tb σ H1 fun y H2 => r x y H2 fun z H3 => ∃ k, z = .bl k ∧ (if k = true then tc σ H3 fun w' H4 => r' y w' H4 Q else Q (.bl false) H3)) ha (za6 hb) s k (fun _ _ h => h) fun ρ2 t1 t2 v1 v2 M2 W2 H2 g2 s2 ⟨q1, q2, _⟩ k2 => by
  cases t2 with
  | sl _ => exact False.elim k2
  | ow _ _ => exact False.elim k2
  | tr _ => exact False.elim k2
  | fz e =>
   have q2 : Rp K M2 v2 e := q2
   unfold vz at k2
   dsimp only at k2
   cases ed : rdT ρ2 t1 with
   | none => rw [ed] at k2; exact False.elim k2
   | some d =>
    rw [ed] at k2
    dsimp only at k2
    cases ef : f d e with
    | none => rw [ef] at k2; exact False.elim k2
    | some z =>
     rw [ef] at k2
     refine h1 v1 v2 d e H2 M2 _ z s2.mh (q1.r1 s2 ed) (Rp.r1 s2.mh q2) ef (ResK.mkG s2 fun y M3 W3 H3 g3 s3 h3 => ?_)
     split at k2
     ·rename_i x e1
      cases e1
      have hy : y = .bl x := by have h3 : Rp K M3 y (.bool x) := h3; cases h3; rfl
      refine ⟨x, hy, ?_⟩
      cases x with
      | false => rw [if_neg Bool.false_ne_true] at k2 ⊢; exact k2 _ _ _ _ g3 s3 (Rp.bl false)
      | true =>
       rw [if_pos rfl] at k2 ⊢
       refine hc σ H3 M3 W3 ρ2 _ s3 (KG.bind (KG.up g3 k2) fun ρ4 t4 v4 M4 W4 H4 _ g4 s4 h4 k4 => ?_)
       split at k4
       ·rename_i d3 e3
        split at k4
        ·rename_i z4 e4
         exact h2 v2 v4 e d3 H4 M4 Q z4 s4.mh (Rp.r1 s4.mh (Rp.mono (g3.trans g4).m q2)) (h4.r1 s4 e3) e4 (ResK.mk (w := w) s4 k4)
        ·exact False.elim k4
       ·exact False.elim k4
     ·exact False.elim k2
def rgD (lo : Int) (n : Nat) : List D := (List.range n).map fun i : Nat => .int (lo + (i : Int))
def Xw (a : RE) : Env → Out (List D) := fun ρ => (a ρ).bind fun ρ1 tp => match rdT ρ1 tp with
 | some (.int j) => if -(2 ^ 62) ≤ j ∧ j < 2 ^ 62 then .ok ρ1 (rgD 0 j.toNat) else .stk
 | _ => .stk
theorem yH {M : Hp} {lo : Int} {n : Nat} : wW K B M (Itr lo n) (rgD lo n) := fun M2 H2 _ _ _ => by
 refine ⟨by unfold rgD; rw [List.length_map, List.length_range]; exact Nat.le_refl _, fun i d h => ?_⟩
 unfold rgD at h
 rw [List.getElem?_map] at h
 have hi : i < n := by
  rcases Nat.lt_or_ge i n with q | q
  ·exact q
  ·rw [List.getElem?_eq_none (by rw [List.length_range]; exact q)] at h; exact nomatch h
 rw [List.getElem?_range hi] at h
 cases h
 exact ⟨hi, fun x H3 ⟨e1, e2⟩ => .inl ⟨e1, by rw [e2]; exact .int _⟩⟩
theorem QM (ha : SE K B w ta ra) : SI K B w (iRng1 (tCons ta tNil)) (Xw ra) := fun σ H M W ρ R s k =>
 ha σ H M W ρ _ s (KG.bind k fun ρ1 tp v M1 W1 H1 _ g1 s1 h1 k1 => by
  split at k1
  ·rename_i j e
   split at k1
   ·rename_i hb
    have := ZG (h1.r1 s1 e)
    subst this
    exact ⟨j, rfl, hb.1, hb.2, k1 _ M1 W1 H1 (Gr.refl _ _) s1 yH⟩
   ·exact False.elim k1
  ·exact False.elim k1)
def VB (a b : RE) : Env → Out (List D) := fun ρ => r2 a b (fun ρ1 t1 t2 => match rdT ρ1 t1, rdT ρ1 t2 with
 | some (.int i), some (.int j) => if -(2 ^ 62) ≤ i ∧ i < 2 ^ 62 ∧ -(2 ^ 62) ≤ j ∧ j < 2 ^ 62 then .ok ρ1 (rgD i (j - i).toNat) else .stk
 | _, _ => .stk) ρ
theorem zbL {Q : It → Hp → Prop} {M W H : Hp} {ρ : Env} {σ : L2.St} {kf : Env → Tp → Tp → Out (List D)} {G : V → Hp → Prop} {P : V → V → Hp → Prop} (ha : SE K B w ta ra) (hb : SE K B w tb rb) (s : St K B M W H ρ σ) (k : KG K B M W σ w (fun M' _ _ _ ds J => wW K B M' J ds) (r2 ra rb kf ρ) Q)
  (hw : ∀ x H1, (tb σ H1 fun y H2 => P x y H2) → G x H1)
  (fin : ∀ ρ2 t1 t2 v1 v2 M2 W2 H2, Gr M W M2 W2 → St K B M2 W2 H2 ρ2 σ → Two K B M2 W2 H2 ρ2 σ t1 t2 v1 v2 → KG K B M2 W2 σ w (fun M' _ _ _ ds J => wW K B M' J ds) (kf ρ2 t1 t2) Q → P v1 v2 H2) : ta σ H G :=
 ha σ H M W ρ _ s (KG.bind k fun ρ1 t1 v1 M1 W1 H1 _ g1 s1 h1 k1 => by
  obtain ⟨Wp, sp, pd⟩ := pend s1 h1
  refine hw _ _ (hb σ H1 M1 Wp ρ1 _ sp ?_)
  cases e : rb ρ1 with
  | stk => rw [e] at k1; exact k1
  | er ρ2 x =>
   rw [e] at k1
   intro d M2 W2 H2 g2 s2 hx
   obtain ⟨W3, g3, s3, _, _⟩ := pd M2 W2 H2 ρ2 g2 s2
   exact k1 d M2 W3 H2 g3 s3 hx
  | ok ρ2 t2 =>
   rw [e] at k1
   intro v2 M2 W2 H2 g2 s2 h2
   obtain ⟨W3, g3, s3, f3, h3⟩ := pd M2 W2 H2 ρ2 g2 s2
   obtain ⟨q1, q2⟩ := f3 t2 v2 h2.l
   exact fin ρ2 t1 t2 v1 v2 M2 W3 H2 (g1.trans g3) s3 ⟨h3, q1, q2⟩ (KG.up g3 k1))
theorem Yb (ha : SE K B w ta ra) (hb : SE K B w tb rb) : SI K B w (iRng2 (tCons ta (tCons tb tNil))) (VB ra rb) := fun σ H M W ρ R s k =>
 zbL (G := fun x H1 => tb σ H1 fun y H2 => ∃ i j : Int, [x, y] = [.int i, .int j] ∧ (-(2 ^ 62) ≤ i ∧ i < 2 ^ 62 ∧ -(2 ^ 62) ≤ j ∧ j < 2 ^ 62) ∧ R (Itr i (j - i).toNat) H2) (P := fun x y H1 => ∃ i j : Int, [x, y] = [.int i, .int j] ∧ (-(2 ^ 62) ≤ i ∧ i < 2 ^ 62 ∧ -(2 ^ 62) ≤ j ∧ j < 2 ^ 62) ∧ R (Itr i (j - i).toNat) H1) ha hb s k (fun _ _ h => h) fun ρ2 t1 t2 v1 v2 M2 W2 H2 g2 s2 ⟨q1, q2, _⟩ k2 => by
  split at k2
  ·rename_i i j e1 e2
   split at k2
   ·rename_i hb
    have := ZG (q1.r1 s2 e1)
    subst this
    have := ZG (q2.r1 s2 e2)
    subst this
    exact ⟨i, j, rfl, hb, k2 _ M2 W2 H2 (Gr.refl _ _) s2 yH⟩
   ·exact False.elim k2
  ·exact False.elim k2
def wk (ρ : Env) (tp : Tp) : Option (Env × D) := match tp with
 | .sl i => match ρ[i]? with
  | some (some (.b, d)) => some (ρ, d)
  | _ => stF ρ tp
 | tp => stF ρ tp
theorem Y5 {M W H : Hp} {ρ ρ' : Env} {σ : L2.St} {tp : Tp} {v : V} {d : D} (s : St K B M W H ρ σ) (h : TpOk K B M W H ρ σ tp v) (e : wk ρ tp = some (ρ', d)) : ∃ M' W', Gr M W M' W' ∧ St K B M' W' H ρ' σ ∧ (Rp K M' v d ∨ R1 K B.b M' v d) := by
 have st : stF ρ tp = some (ρ', d) → ∃ M' W', Gr M W M' W' ∧ St K B M' W' H ρ' σ ∧ (Rp K M' v d ∨ R1 K B.b M' v d) := fun e => by
  obtain ⟨M1, W1, g1, s1, r1, _⟩ := qJ s h e
  exact ⟨M1, W1, g1, s1, .inl r1⟩
 cases tp with
 | fz _ => exact st e
 | ow _ _ => exact st e
 | tr _ => exact st e
 | sl i =>
  unfold wk at e
  dsimp only at e
  split at e
  ·rename_i d' hr
   cases e
   have h : σ[i]? = some (some v) := h
   obtain ⟨v', q1, q2⟩ := s.sl i _ _ hr
   rw [h] at q1; cases q1
   exact ⟨M, W, Gr.refl _ _, s, .inr q2⟩
  ·exact st e
def yx (a : RE) : Env → Out (List D) := fun ρ => (a ρ).bind fun ρ1 tp => match wk ρ1 tp with
 | some (ρ2, .list ds) => .ok ρ2 ds
 | _ => .stk
theorem JR (ha : SE K B w ta ra) : SI K B w (iList K ta) (yx ra) := fun σ H M W ρ R s k =>
 ha σ H M W ρ _ s (KG.bind k fun ρ1 tp v M1 W1 H1 _ g1 s1 h1 k1 => by
  split at k1
  ·rename_i ρ2 ds e
   obtain ⟨M2, W2, g2, s2, r2⟩ := Y5 s1 h1 e
   have key : ∃ a xs, v = .ref a ∧ Rps K M2 xs ds ∧ (M2 a = some (.lst xs) ∨ B.b a = some (.lst xs)) := by
    rcases r2 with r2 | r2
    ·cases r2 with
     | lst t1 t2 => exact ⟨_, _, rfl, t2, .inl t1⟩
    ·cases r2 with
     | lst t1 t2 => exact ⟨_, _, rfl, t2, .inr t1⟩
   obtain ⟨a, xs, rfl, t2, t1⟩ := key
   have at_ : ∀ {M3 H3 : Hp}, Same M2 M3 → Same M3 H3 → Same B.b H3 → H3 a = some (.lst xs) := fun q1 q2 q3 => by
    rcases t1 with t1 | t1
    ·exact q2 _ _ (q1 _ _ t1)
    ·exact q3 _ _ t1
   refine ⟨a, rfl, ⟨xs, .inl (.inl (at_ (Same.refl _) s2.mh (s2.bw.trans s2.wh)))⟩, k1 _ M2 W2 H1 g2 s2 fun M3 H3 q1 q2 q3 => ?_⟩
   have hs : SqL K H3 a xs := .inl (.inl (at_ q1 q2 q3))
   refine ⟨⟨xs, hs, by rw [t2.length]; exact Nat.le_refl _⟩, fun i d hd => ?_⟩
   obtain ⟨v, v1, v2⟩ := t2.get hd
   refine ⟨⟨xs, v, hs, v1⟩, fun x H4 ⟨e1, e2⟩ => .inl ⟨e1, ?_⟩⟩
   have := e2 xs hs
   rw [v1] at this; cases this
   exact v2.mono q1
  ·exact False.elim k1)
def zax (a : RE) : Env → Out (List D) := fun ρ => (a ρ).bind fun ρ1 tp => match wk ρ1 tp with
 | some (ρ2, .tuple ds) => .ok ρ2 ds
 | _ => .stk
theorem zaH (ha : SE K B w ta ra) : SI K B w (iTup K ta) (zax ra) := fun σ H M W ρ R s k =>
 ha σ H M W ρ _ s (KG.bind k fun ρ1 tp v M1 W1 H1 _ g1 s1 h1 k1 => by
  split at k1
  ·rename_i ρ2 ds e
   obtain ⟨M2, W2, g2, s2, r2⟩ := Y5 s1 h1 e
   have rp : Rp K M2 v (.tuple ds) := by
    rcases r2 with r2 | r2
    ·exact r2
    ·exact r2.rpT
   have r1 := Rp.r1 (Same.refl _) rp
   obtain ⟨a, rfl⟩ := r1.tupR
   obtain ⟨xs, t1, t2⟩ := r1.sqT (Same.refl _)
   have hs0 : ∀ {H3 : Hp}, Same M2 H3 → SqT K H3 a xs := fun q => wB q t1
   refine ⟨a, rfl, ⟨xs, hs0 s2.mh⟩, k1 _ M2 W2 H1 g2 s2 fun M3 H3 q1 q2 q3 => ?_⟩
   have hs := hs0 (q1.trans q2)
   refine ⟨⟨xs, hs, by rw [t2.length]; exact Nat.le_refl _⟩, fun i d hd => ?_⟩
   obtain ⟨v, v1, v2⟩ := t2.get hd
   refine ⟨⟨xs, v, hs, v1⟩, fun x H4 ⟨e1, e2⟩ => .inl ⟨e1, ?_⟩⟩
   have := e2 xs hs
   rw [v1] at this; cases this
   exact v2.mono q1
  ·exact False.elim k1)
def YK (a : RE) : Env → Out (List D) := fun ρ => (a ρ).bind fun ρ1 tp => match rdT ρ1 tp with
 | some (.str x) => .ok ρ1 (x.cps.toList.map fun c => .str (sgn c))
 | _ => .stk
theorem wz (ha : SE K B w ta ra) : SI K B w (iStr ta) (YK ra) := fun σ H M W ρ R s k =>
 ha σ H M W ρ _ s (KG.bind k fun ρ1 tp v M1 W1 H1 _ g1 s1 h1 k1 => by
  split at k1
  ·rename_i x e
   have := Qn (h1.r1 s1 e)
   subst this
   refine ⟨x, rfl, k1 _ M1 W1 H1 (Gr.refl _ _) s1 fun M3 H3 q1 q2 q3 => ⟨by rw [List.length_map]; exact Nat.le_refl _, fun i d hd => ?_⟩⟩
   rw [List.getElem?_map] at hd
   cases ec : x.cps.toList[i]? with
   | none => rw [ec] at hd; exact nomatch hd
   | some c =>
    rw [ec] at hd
    cases hd
    have hi : i < x.cps.size := by
     rcases Nat.lt_or_ge i x.cps.size with q | q
     ·exact q
     ·rw [List.getElem?_eq_none (by simpa using q)] at ec; cases ec
    refine ⟨hi, fun y H4 ⟨e1, c', hc, e2⟩ => .inl ⟨e1, ?_⟩⟩
    rw [Array.getElem?_toList] at ec
    rw [ec] at hc; cases hc
    rw [e2]; exact .str _
  ·exact False.elim k1)
def enD (ds : List D) : List D := (List.range ds.length).map fun i : Nat => .tuple [.int (i : Int), ds.getD i .none]
def zbZ (a : RE) : Env → Out (List D) := fun ρ => (a ρ).bind fun ρ1 tp => match wk ρ1 tp with
 | some (ρ2, .list ds) => .ok ρ2 (enD ds)
 | _ => .stk
end
end Vm
namespace Vm
open PySem PySem.Spec PyProof.Rows L2 Fz
def zaz (x : Str) : RS := fun ρ => .er ρ ⟨x, none⟩
def V8 (x : Xn) : D := match x.fld with
 | none => .tuple [.str x.cls]
 | some (f, n) => .tuple [.str x.cls, .str f, .int n]
def zbm (b : RS) (sub : Str → Option Bool) (i : Nat) (su : RS) : RS := fun ρ => match b ρ with
 | .er ρ1 x => match sub x.cls with
  | some true => if qb ρ1 i = true then .stk else (match su (ρ1.set i (some (.e, V8 x))) with
   | .ok _ (.rt (.sl _)) => .stk
   | .ok ρ2 fl => .ok (ρ2.set i none) fl
   | _ => .stk)
  | some false => .er ρ1 x
  | none => .stk
 | o => o
section
variable {K : PySem.W.Frag} {B : Bx} {w : WX}
theorem St.base {B' : Bx} {M W H : Hp} {ρ : Env} {σ : L2.St} (s : St K B M W H ρ σ) (hb : B'.b = B.b) (hp : B'.p = B.p) (ht : B'.t = B.t) (hx : ∀ (i : Nat) (d : D), ρ[i]? = some (some (.e, d)) → B'.x i = B.x i) (hl : ∀ (i : Nat) (d : D), ρ[i]? = some (some (.l, d)) → B'.x i = B.x i) : St K B' M W H ρ σ := by
 refine ⟨by rw [hb]; exact s.bw, s.mw, s.wh, s.ln, fun i g d e => ?_, s.sp, by rw [ht]; exact s.tb⟩
 obtain ⟨v, h1, h2⟩ := s.sl i g d e
 refine ⟨v, h1, ?_⟩
 cases g with
 | f => exact h2
 | b => show R1 K B'.b M v d; rw [hb]; exact h2
 | s => obtain ⟨a, ns, e1, e2, e3⟩ := h2; exact ⟨a, ns, e1, by rw [hb]; exact e2, e3⟩
 | e => obtain ⟨a, c, dd, e1, e2, e3, e4⟩ := h2; exact ⟨a, c, dd, e1, by rw [hx i d e]; exact e2, e3, e4⟩
 | l => obtain ⟨⟨c, dd, a, e1, e2⟩, e3⟩ := h2; exact ⟨⟨c, dd, a, e1, by rw [hl i d e]; exact e2⟩, by rw [hb]; exact e3⟩
 | o u p => obtain ⟨a, o, e1, e2, e3, e4, e5⟩ := h2; exact ⟨a, o, e1, e2, e3, e4, by rw [hp]; exact e5⟩
 | q p => obtain ⟨a, o, e1, e2, e3, e4, e5⟩ := h2; exact ⟨a, o, e1, e2, e3, e4, by rw [hp]; exact e5⟩
theorem TpOk.base {B' : Bx} {M W H : Hp} {ρ ρ' : Env} {σ σ' : L2.St} {tp : Tp} {v : V} (hs : ∀ i, tp ≠ .sl i) (ha : ∀ a, Apart K M H ρ σ a → Apart K M H ρ' σ' a) (h : TpOk K B M W H ρ σ tp v) : TpOk K B' M W H ρ' σ' tp v := by
 cases tp with
 | sl i => exact absurd rfl (hs i)
 | fz d => exact h
 | ow u d => obtain ⟨a, o, e1, e2, e3, e4, e5⟩ := h; exact ⟨a, o, e1, e2, e3, e4, ha a e5⟩
 | tr d => obtain ⟨a, F, e1, e2, e3, e4, e5⟩ := h; exact ⟨a, F, e1, e2, e3, e4, fun x hx => ha x (e5 x hx)⟩
def rIsE (i : Nat) (tab : Str → Option Bool) : RE := fun ρ => match ρ[i]? with
 | some (some (.e, .tuple (.str c :: _))) => match tab c with
  | some b => .ok ρ (.fz (.bool b))
  | none => .stk
 | _ => .stk
def Y7 (i : Nat) (x f : Str) : RE := fun ρ => match ρ[i]? with
 | some (some (.e, .tuple [.str c, .str g, .int n])) => if c = x ∧ g = f then .ok ρ (.fz (.int n)) else .stk
 | _ => .stk
end
end Vm
namespace Vm
open PySem PySem.Spec PyProof.Rows L2 Fz
theorem zbz {K : PySem.W.Frag} {H : Hp} {a : Addr} {xs : List V} (hS : SqL K H a xs) : SqL K (bIO (fun _ => False) H) a xs := by
 have at_ : ∀ o, H a = some o → (∀ ps, o ≠ .tbl ps) → bIO (fun _ => False) H a = some o := fun o e n => by
  rw [X4 (fun h => h) fun ps z => by
   rw [e] at z; cases z
   exact n _ rfl]
  exact e
 rcases hS with (h | ⟨o, h⟩) | h
 ·exact .inl (.inl (at_ _ h fun _ z => nomatch z))
 ·exact .inl (.inr ⟨o, at_ _ h fun _ z => nomatch z⟩)
 ·exact .inr h
theorem law_start {K : PySem.W.Frag} {H : Hp} {T : List (Addr × Str)} {a : Addr} {ns : List Int} {E : XK} {m : List (Fg × D) → zY} {io : Env} (hT : ∀ p ∈ T, H p.1 = some (.tbl #[])) (hS : SqL K H a (ns.map V.int)) (hm : m [(.s, .list (ns.map PyData.int))] = .ok (.fz (.bool true)) io) : spM K T m [.ref a] H (fun v _ => v = .bl true) E := by
 refine ⟨[(.s, .list (ns.map PyData.int))], bIO (fun _ => False) H, fun _ => none, ⟨Same.refl _, (fun _ _ e => nomatch e), (fun _ _ h => Wn h), rfl, fun i g d e => ?_, fun i j g h d e a b F G hij e1 e2 _ _ f1 f2 => ?_, ⟨wy, fun p hp => LamX.TabS.nil (hT p hp)⟩⟩, ?_⟩
 ·match i, e with
  | 0, e => cases e; exact ⟨.ref a, rfl, a, ns, rfl, zbz hS, rfl⟩
  | i + 1, e => simp at e
 ·match i, e1 with
  | 0, e1 => cases e1; exact False.elim f1
  | i + 1, e1 => simp at e1
 ·rw [hm]
  intro v M' W' H' _ _ hv
  have hv : Rp K M' v (.bool true) := hv
  cases hv; rfl
def wI (a : RE) : RE := fun ρ => (a ρ).bind fun ρ1 tp => match rdT ρ1 tp with
 | some (.int j) => if -1000000 ≤ j ∧ j ≤ 1000000 then .ok ρ1 (.ow false (.list (rgD 0 j.toNat))) else .stk
 | _ => .stk
def KH (a b : RE) : RE := fun ρ => r2 a b (fun ρ1 t1 t2 => match rdT ρ1 t1, rdT ρ1 t2 with
 | some (.int i), some (.int j) => if -1000000 ≤ i ∧ i ≤ 1000000 ∧ -1000000 ≤ j ∧ j ≤ 1000000 then .ok ρ1 (.ow false (.list (rgD i (j - i).toNat))) else .stk
 | _, _ => .stk) ρ
section
variable {K : PySem.W.Frag} {B : Bx} {w : WX} {ta tb : TE} {ra rb : RE}
def XS : List (D × D) → Option (List Int)
 | [] => some []
 | (.int i, _) :: r => match XS r with
  | some l => some (i :: l)
  | none => none
 | _ => none
def JQ : D → Option Rz
 | .dict kds => match kds, XS kds with
  | _ :: _, some ks => if ks.length < 64 then some (.ow false (.list ((PySem.W.sortI ks).map PyData.int))) else none
  | _, _ => none
 | _ => none
def YZ : D → Option Rz
 | .dict kds => match Xm kds with
  | some false => some (.fz (.int kds.length))
  | _ => none
 | _ => none
end
end Vm
namespace Vm
open PySem PySem.Spec PyProof.Rows L2 Fz
end Vm
namespace Vm
open PySem PySem.Spec PyProof.Rows L2 Fz
def yP (x f : Str) (r : RE) : RS := fun ρ => (r ρ).bind fun ρ1 tp => match rdT ρ1 tp with
 | some (.int n) => if n.natAbs.log2 < 1920 then .er ρ1 ⟨x, some (f, n)⟩ else .stk
 | _ => .stk
end Vm
namespace Vm
open PySem PySem.Spec PyProof.Rows L2 Fz
def ZF (vs : List Nat) (r : RS) : RS := fun ρ => match r ρ with
 | .ok ρ1 .nx => .ok (zG ρ1 vs) .nx
 | o => o
def Y6 (vs : List Nat) (r : RS) : RS := fun ρ => match r ρ with
 | .ok ρ1 .nx => .ok (zG ρ1 vs) .nx
 | .ok ρ1 .ct => .ok (zG ρ1 vs) .ct
 | .ok ρ1 .bk => .ok (zG ρ1 vs) .bk
 | o => o
section
variable {K : PySem.W.Frag} {B : Bx} {w : WX} {M W H : Hp} {ρ : Env} {σ : L2.St}
theorem St.forgets (s : St K B M W H ρ σ) : ∀ vs : List Nat, St K B M W H (zG ρ vs) σ
 | [] => s
 | v :: vs => (St.forgets s vs).forget v
theorem zM {ts : TS} {rs : RS} {vs : List Nat} (h : SS K B w ts rs) : SS K B w ts (ZF vs rs) := fun D σ H M W ρ s k => h D σ H M W ρ s (by
 unfold ZF at k
 generalize rs ρ = o at k ⊢
 cases o with
 | stk => exact k
 | er ρ1 x => exact k
 | ok ρ1 fl =>
  cases fl with
  | nx => exact fun σ' M' W' H' gr s' => k σ' M' W' H' gr (s'.forgets vs)
  | bk => exact k
  | ct => exact k
  | rt t => exact k)
end
end Vm
namespace Vm
open PySem PySem.Spec PyProof.Rows L2 Fz
def vJ (i c : Int) (n : Nat) : List D := (List.range n).map fun k : Nat => .int (i + (k : Int) * c)
def yu (a : RA) : Env → Out (List D) := fun ρ => (a ρ).bind fun ρ1 tps => match Qc ρ1 tps with
 | some [.int i, .int j, .int c] => if c ≠ 0 ∧ c.natAbs < 1073741824 ∧ Builtin.Range.small i j c = true ∧ Builtin.Range.rangeSize i j c = ((Builtin.Range.rangeSize i j c).toNat : Int) then .ok ρ1 (vJ i c (Builtin.Range.rangeSize i j c).toNat) else .stk
 | _ => .stk
section
variable {K : PySem.W.Frag} {B : Bx} {w : WX} {t ta tb : TE} {ra rb : RE} {tA : TA} {rA : RA}
theorem Yd {M : Hp} {lo c : Int} {n : Nat} : wW K B M (Itc lo c n) (vJ lo c n) := fun M2 H2 _ _ _ => by
 refine ⟨by unfold vJ; rw [List.length_map, List.length_range]; exact Nat.le_refl _, fun i d h => ?_⟩
 unfold vJ at h
 rw [List.getElem?_map] at h
 have hi : i < n := by
  rcases Nat.lt_or_ge i n with q | q
  ·exact q
  ·rw [List.getElem?_eq_none (by rw [List.length_range]; exact q)] at h; exact nomatch h
 rw [List.getElem?_range hi] at h
 cases h
 exact ⟨hi, fun x H3 ⟨e1, e2⟩ => .inl ⟨e1, by rw [e2]; exact .int _⟩⟩
theorem Yg (hA : SA K B w tA rA) : SI K B w (iRng3 tA) (yu rA) := fun σ H M W ρ R s k =>
 hA σ H M W ρ _ s (KG.bind k fun ρ1 tps vs M1 W1 H1 _ g1 s1 h1 k1 => by
  cases e : Qc ρ1 tps with
  | none => rw [e] at k1; exact False.elim k1
  | some ds =>
   rw [e] at k1
   try dsimp only at k1
   split at k1
   ·rename_i i j c he
    cases he
    split at k1
    ·rename_i hb
     have r := xq s1 h1 e
     cases r with | cons r1 r => cases r with | cons r2 r => cases r with | cons r3 r => cases r with | nil =>
     have := ZG r1; subst this
     have := ZG r2; subst this
     have := ZG r3; subst this
     exact ⟨i, j, c, _, rfl, ⟨hb.1, hb.2.1, hb.2.2.1, hb.2.2.2⟩, k1 _ M1 W1 H1 (Gr.refl _ _) s1 Yd⟩
    ·exact False.elim k1
   ·exact False.elim k1)
def jG (ok : D → Bool) (f : List D → Option Rz) (o : RE) (a : RA) : RE := fun ρ => (o ρ).bind fun ρ1 t1 => match rdT ρ1 t1 with
 | some d => if ok d = true then (a ρ1).bind fun ρ2 tps => match Qc ρ2 (t1 :: tps) with
   | some ds => match f ds with
    | some z => .ok ρ2 z.tp
    | none => .stk
   | none => .stk
  else .stk
 | none => .stk
def MtO (K : PySem.W.Frag) (T : String) (r : V → List V → Hp → VK → Prop) (ok : D → Bool) (f : List D → Option Rz) : Prop :=
 (∀ (x : V) (d : D) (H M : Hp), R1 K H M x d → ok d = true → tyV K T x H) ∧ OpN K (fun vs H Q => match vs with | x :: xs => r x xs H Q | [] => False) f
theorem xK {T : String} {r : V → List V → Hp → VK → Prop} {ok : D → Bool} {f : List D → Option Rz} (ho : MtO K T r ok f) (ha : SE K B w ta ra) (hA : SA K B w tA rA) : SE K B w (tBM K T r ta tA) (jG ok f ra rA) := fun σ H M W ρ Q s k =>
 ha σ H M W ρ _ s (KG.bind k fun ρ1 t1 v M1 W1 H1 _ g1 s1 h1 k1 => by
  cases e1 : rdT ρ1 t1 with
  | none => rw [e1] at k1; exact False.elim k1
  | some d =>
   rw [e1] at k1
   try dsimp only at k1
   split at k1
   ·rename_i hok
    refine ⟨ho.1 _ _ _ _ (h1.r1 s1 e1) hok, ?_⟩
    obtain ⟨W1', s1', pd⟩ := pend s1 h1
    refine hA σ H1 M1 W1' ρ1 _ s1' ?_
    cases e : rA ρ1 with
    | stk => rw [e] at k1; exact k1
    | er ρ2 x =>
     rw [e] at k1
     intro d M2 W2 H2 g2 s2 hx
     obtain ⟨W3, g3, s3, _, _⟩ := pd M2 W2 H2 ρ2 g2 s2
     exact k1 d M2 W3 H2 g3 s3 hx
    | ok ρ2 tps =>
     rw [e] at k1
     intro vs M2 W2 H2 g2 s2 hv
     obtain ⟨W3, g3, s3, f3, h3⟩ := pd M2 W2 H2 ρ2 g2 s2
     obtain ⟨q1, q2⟩ := TpsOk.pend f3 hv
     have k2 : KG K B M1 W1 σ w (QV K B σ) (match Qc ρ2 (t1 :: tps) with
      | some ds => match f ds with
       | some z => Out.ok ρ2 z.tp
       | none => .stk
      | none => .stk) Q := k1
     cases e3 : Qc ρ2 (t1 :: tps) with
     | none => rw [e3] at k2; exact False.elim k2
     | some ds =>
      rw [e3] at k2
      dsimp only at k2
      cases e4 : f ds with
      | none => rw [e4] at k2; exact False.elim k2
      | some z =>
       rw [e4] at k2
       exact ho.2 (v :: vs) ds H2 M2 Q z s3.mh (xq s3 (tps := t1 :: tps) ⟨h3, q1, q2⟩ e3) e4 (ResK.mk s3 (KG.up g3 k2))
   ·exact False.elim k1)
def Kz : List D → Option (List Int)
 | [] => some []
 | .int i :: r => match Kz r with
  | some l => some (i :: l)
  | none => none
 | _ => none
theorem V6 (l : List Int) : Kz (l.map PyData.int) = some l := by
 induction l with
 | nil => rfl
 | cons a l ih => show (match Kz (l.map PyData.int) with | some l => some (a :: l) | none => none) = _; rw [ih]
def Xo : D → Bool
 | .str _ => true
 | _ => false
theorem Wl {x : V} {d : D} {H M : Hp} (h : R1 K H M x d) (e : Xo d = true) : tyV K "str" x H := by
 cases d with
 | str ds => have := Qn h; subst this; exact rfl
 | _ => exact nomatch e
def za4 : List D → Option Rz
 | [.list ds, .int k] => match Kz ds with
  | some ns => some (.fz (.int (ns.count k : Nat)))
  | none => none
 | _ => none
theorem WR {r : V → List V → Hp → VK → Prop} {g : Str → Str → D} {c : Str → Str → Bool} (hr : ∀ a b H Q, c a b = true → (∀ v, (∀ M, Rp K M v (g a b)) → Q v H) → r (.str a) [.str b] H Q) (hg : ∀ a b, (∃ i, g a b = .int i) ∨ (∃ x, g a b = .str x)) :
  OpN K (fun vs H Q => match vs with | x :: xs => r x xs H Q | [] => False) (fun ds => match ds with | [.str a, .str b] => if c a b = true then some (.fz (g a b)) else none | _ => none) := fun vs ds H M Q z sm h e k => by
 try dsimp only at e
 split at e
 ·rename_i a b
  cases h with | cons r1 r => cases r with | cons r2 r => cases r with | nil =>
  split at e
  ·rename_i hc
   cases e
   have := Qn r1; subst this
   have := Qn r2; subst this
   refine hr a b H Q hc fun v hv => k.1 v (hv M)
  ·exact nomatch e
 ·exact nomatch e
def xr : List D → Option (List Str)
 | [] => some []
 | .str i :: r => match xr r with
  | some l => some (i :: l)
  | none => none
 | _ => none
theorem jN {M : Hp} : ∀ {vs : List V} {ds : List D} {ns : List Str}, Rps K M vs ds → xr ds = some ns → vs = ns.map V.str
 | _, _, ns, .nil, e => by cases e; rfl
 | _, _, ns, .cons (d := d) h t, e => by
  cases d with
  | str i =>
   unfold xr at e
   try dsimp only at e
   split at e
   ·rename_i l hl
    cases e
    cases h
    rw [List.map_cons, jN t hl]
   ·exact nomatch e
  | _ => exact nomatch e
theorem V7 (l : List Str) : xr (l.map PyData.str) = some l := by
 induction l with
 | nil => rfl
 | cons a l ih => show (match xr (l.map PyData.str) with | some l => some (a :: l) | none => none) = _; rw [ih]
def jA (a : Str) (ys : List Str) : Bool := decide ((ys.map (·.length)).sum + ys.length * a.length ≤ 16777216)
def jJ : List D → Option Rz
 | [.str a, .list ds] => match xr ds with
  | some ys => if jA a ys = true then some (.fz (.str (Txt.join a ys))) else none
  | none => none
 | [.str a, .tuple ds] => match xr ds with
  | some ys => if jA a ys = true then some (.fz (.str (Txt.join a ys))) else none
  | none => none
 | _ => none
theorem jR : MtO K "str" (fun x xs H Q => ∃ a p, ∃ ys : List Str, x = .str a ∧ xs = [.ref p] ∧ (SqL K H p (ys.map V.str) ∨ SqT K H p (ys.map V.str)) ∧ (ys.map (·.length)).sum + ys.length * a.length ≤ 16777216 ∧ Q (.str (Txt.join a ys)) H) Xo jJ := ⟨fun x d H M h e => Wl h e, fun vs ds H M Q z sm h e k => by
 unfold jJ at e
 split at e
 ·rename_i a ds0
  cases h with | cons r1 r => cases r with | cons r2 r => cases r with | nil =>
  split at e
  ·rename_i ys hy
   split at e
   ·rename_i hc
    cases e
    have := Qn r1; subst this
    cases r2 with
    | lst t1 t2 =>
     have := jN t2 hy
     subst this
     exact ⟨a, _, ys, rfl, rfl, .inl (.inl (.inl t1)), of_decide_eq_true hc, k.1 _ (.str _)⟩
   ·exact nomatch e
  ·exact nomatch e
 ·rename_i a ds0
  cases h with | cons r1 r => cases r with | cons r2 r => cases r with | nil =>
  split at e
  ·rename_i ys hy
   split at e
   ·rename_i hc
    cases e
    have := Qn r1; subst this
    obtain ⟨p, rfl⟩ := r2.tupR
    obtain ⟨xs, t1, t2⟩ := r2.sqT sm
    have := jN t2 hy
    subst this
    exact ⟨a, _, ys, rfl, rfl, .inr t1, of_decide_eq_true hc, k.1 _ (.str _)⟩
   ·exact nomatch e
  ·exact nomatch e
 ·exact nomatch e⟩
def XN : D → D → Option Rz
 | .int i, .int j => if 0 < j ∧ j < 1073741824 then some (.fz (.tuple [.int (i / j), .int (i % j)])) else none
 | _, _ => none
end
end Vm
namespace Vm
open PySem PySem.Spec PyProof.Rows L2 Fz
def rl (X : Hp) (a : Addr) (o : HO) : Hp := fun b => if b = a then (match X a with | some _ => some o | none => none) else X b
section
variable {X Y : Hp} {a b : Addr} {o o' f : HO}
theorem Jj (h : b ≠ a) : rl X a o b = X b := if_neg h
theorem Vc {x : HO} (h : X a = some x) : rl X a o a = some o := by unfold rl; rw [if_pos rfl, h]
end
def Twin (o f : HO) : Prop := ∃ u, (u = o ∨ ∃ ob, o = .frz ob u) ∧ (u = f ∨ ∃ ob, f = .frz ob u) ∧ ((∃ kvs, u = .dK kvs) ∨ ∃ kvs, u = .dT kvs)
theorem Twin.symm {o f : HO} (h : Twin o f) : Twin f o := by obtain ⟨u, h1, h2, h3⟩ := h; exact ⟨u, h2, h1, h3⟩
theorem Twin.rd {X : Hp} {a : Addr} {o f : HO} {w : HO} (t : Twin o f) (hx : X a = some o) (h : Rd X a w) (hw : (∃ kvs, w = .dK kvs) ∨ ∃ kvs, w = .dT kvs) : Rd (rl X a f) a w := by
 obtain ⟨u, h1, h2, h3⟩ := t
 have e : w = u := by
  unfold Rd at h
  rw [hx] at h
  rcases h with h | ⟨ob, h⟩
  ·cases h
   rcases h1 with h1 | ⟨ob, h1⟩
   ·exact h1.symm
   ·subst h1; rcases hw with ⟨_, hw⟩ | ⟨_, hw⟩ <;> cases hw
  ·cases h
   rcases h1 with h1 | ⟨ob', h1⟩
   ·subst h1; rcases h3 with ⟨_, h3⟩ | ⟨_, h3⟩ <;> cases h3
   ·cases h1; rfl
 subst e
 rcases h2 with h2 | ⟨ob, h2⟩
 ·subst h2; exact .inl (Vc hx)
 ·subst h2; exact .inr ⟨ob, Vc hx⟩
theorem Twin.lq {K : PySem.W.Frag} {X : Hp} {a : Addr} {o f : HO} (t : Twin o f) (hx : ∀ x, X a = some x → x = o) : Lq K X (rl X a f) := by
 have hd : ∀ x, X a = some x → (∀ xs, x ≠ .lst xs) ∧ (∀ xs, x ≠ .tup xs) := fun x e => by
  have := hx x e; subst this
  obtain ⟨u, h1, _, h3⟩ := t
  rcases h1 with h1 | ⟨ob, h1⟩
  ·subst h1; rcases h3 with ⟨_, h3⟩ | ⟨_, h3⟩ <;> subst h3 <;> exact ⟨(fun _ z => nomatch z), (fun _ z => nomatch z)⟩
  ·subst h1; exact ⟨(fun _ z => nomatch z), (fun _ z => nomatch z)⟩
 refine ⟨fun b xs e => ?_, fun b xs e => ?_, fun b kvs e => ?_, fun b kvs e => ?_, fun b ob xs e => ?_, fun b C dx fs e => ?_⟩
 rotate_left 4
 ·have : b ≠ a := fun z => by
   subst z
   have := hx _ e; subst this
   obtain ⟨u, h1, _, h3⟩ := t
   rcases h1 with h1 | ⟨ob', h1⟩
   ·subst h1; rcases h3 with ⟨_, h3⟩ | ⟨_, h3⟩ <;> cases h3
   ·cases h1; rcases h3 with ⟨_, h3⟩ | ⟨_, h3⟩ <;> cases h3
  rw [Jj this]; exact e
 ·have : b ≠ a := fun z => by
   subst z
   have := hx _ e; subst this
   obtain ⟨u, h1, _, h3⟩ := t
   rcases h1 with h1 | ⟨ob', h1⟩
   ·subst h1; rcases h3 with ⟨_, h3⟩ | ⟨_, h3⟩ <;> cases h3
   ·cases h1
  rw [Jj this]; exact e
 ·have : b ≠ a := fun z => by subst z; exact (hd _ e).1 xs rfl
  rw [Jj this]; exact e
 ·have : b ≠ a := fun z => by subst z; exact (hd _ e).2 xs rfl
  rw [Jj this]; exact e
 ·by_cases hb : b = a
  ·subst hb
   have ho : X b = some o := by
    rcases e with e | ⟨ob, e⟩
    ·rw [e, hx _ e]
    ·rw [e, hx _ e]
   exact t.rd ho e (.inl ⟨kvs, rfl⟩)
  ·unfold Rd at e ⊢; rw [Jj hb]; exact e
 ·by_cases hb : b = a
  ·subst hb
   have ho : X b = some o := by
    rcases e with e | ⟨ob, e⟩
    ·rw [e, hx _ e]
    ·rw [e, hx _ e]
   exact t.rd ho e (.inr ⟨kvs, rfl⟩)
  ·unfold Rd at e ⊢; rw [Jj hb]; exact e
theorem Twin.no {o f : HO} (t : Twin o f) : (∀ xs, o ≠ .lst xs) ∧ (∀ ob xs, o ≠ .frz ob (.lst xs)) ∧ (∀ xs, o ≠ .xd xs) := by
 obtain ⟨u, h1, _, h3⟩ := t
 rcases h3 with ⟨k, rfl⟩ | ⟨k, rfl⟩ <;> rcases h1 with rfl | ⟨ob, rfl⟩ <;> exact ⟨(fun _ z => nomatch z), (fun _ _ z => nomatch z), (fun _ z => nomatch z)⟩
theorem WY {K : PySem.W.Frag} {M : Hp} : ∀ ks : List Key, Rps K M (ks.map kV) (ks.map kD)
 | [] => .nil
 | k :: ks => .cons (by cases k with | inl n => exact .int n | inr n => exact .str n) (WY ks)
def noE (ρ : Env) : Bool := ρ.all fun x => match x with | some (.e, _) => false | _ => true
def QW (i : Nat) (g : Fg) (kds : List (D × D)) (r : RS) (ρ : Env) : Out Fl := match r (ρ.set i (some (.l, .dict kds))) with
 | .ok _ (.rt (.sl _)) => .stk
 | .ok ρ2 fl => match ρ2[i]? with
  | some (some (.l, d)) => .ok (ρ2.set i (some (g, d))) fl
  | _ => .stk
 | _ => .stk
def Ja (i : Nat) (r : RS) : RS := fun ρ => match wk ρ (.sl i) with
 | some (ρ0, _) => if noE ρ0 = true then (match ρ0[i]? with
  | some (some (.f, .dict kds)) => if Vy (.dict kds) = true then .stk else QW i .f kds r ρ0
  | some (some (.b, .dict kds)) => if Vy (.dict kds) = true then .stk else QW i .b kds r ρ0
  | _ => .stk) else .stk
 | _ => .stk
section
variable {K : PySem.W.Frag} {B : Bx} {w : WX} {M W H : Hp} {ρ : Env} {σ : L2.St}
def zbf (i : Nat) : Env → Out (List D) := fun ρ => match ρ[i]? with
 | some (some (.l, .dict kds)) => .ok ρ (kds.map (·.1))
 | _ => .stk
end
end Vm
namespace Vm
open PySem PySem.Spec PyProof.Rows L2 Fz
section
variable {K : PySem.W.Frag} {B : Bx} {w : WX} {ta tb : TE} {ra rb : RE}
theorem vU : Op2 K (fun x y H Q => ∃ i j, [x, y] = [.int i, .int j] ∧ CDiv i j ∧ ∀ p, H p = none → Q (.ref p) (upd H p (.tup [.int (i / j), .int (i % j)]))) XN := fun x y d e H M Q z sm h1 h2 q k => by
 cases d with
 | int i => cases e with
  | int j =>
   unfold XN at q
   try dsimp only at q
   split at q
   ·rename_i hb
    cases q
    have := ZG h1; subst this
    have := ZG h2; subst this
    exact ⟨i, j, rfl, hb, fun p hp => k.newT sm hp (.cons (.int _) (.cons (.int _) .nil))⟩
   ·exact nomatch q
  | _ => exact nomatch q
 | _ => exact nomatch q
end
end Vm
namespace Vm
open PySem PySem.Spec PyProof.Rows L2 Fz
end Vm
namespace Vm
open PySem PySem.Spec PyProof.Rows L2 Fz
theorem xZ {β : Type} {g : β → V} : ∀ {its : List Value} {ps : List β}, Vals (ps.map g) its → PySem.W.EachIs (fun v p => RelV (g p) v) its ps
 | _, [], h => by
  have h' : Vals [] _ := h
  cases h'
  exact .nil
 | _, p :: ps, h => by
  have h' : Vals (g p :: ps.map g) _ := h
  cases h' with
  | cons h1 h2 => exact .cons h1 (xZ h2)
theorem Xb {β : Type} {g : β → V} : ∀ {its : List Value} {ps : List β}, PySem.W.EachIs (fun v p => RelV (g p) v) its ps → Vals (ps.map g) its
 | _, _, .nil => .nil
 | _, _, .cons h t => .cons h (Xb t)
end Vm
namespace Vm
open PySem PySem.Spec PyProof.Rows L2 Fz
end Vm
namespace Vm
open PySem PySem.Spec PyProof.Rows L2 Fz
def Y9 (i : Nat) (ρ1 : Env) (tk : Tp) : Out Tp := match rdT ρ1 tk, ρ1[i]? with
 | some kd, some (some (.o false p, .dict kds)) => match X8 kd with
  | some kk => match Zb kds (.inl kk) with
   | some d => .ok (ρ1.set i (some (.o false p, .dict (Y4 kds (.inl kk))))) (.fz d)
   | none => .stk
  | none => .stk
 | _, _ => .stk
def zae (i : Nat) (k : RE) : RE := fun ρ => match ρ[i]? with
 | some (some (.o false _, .dict _)) => (k ρ).bind fun ρ1 tk => Y9 i ρ1 tk
 | _ => .stk
def zav : D → D → Option (List D)
 | .list xs, .list ys => some ((xs.zip ys).map fun p => .tuple [p.1, p.2])
 | .tuple xs, .tuple ys => some ((xs.zip ys).map fun p => .tuple [p.1, p.2])
 | .dict [(.list [], .list xs)], .dict [(.list [], .list ys)] => some ((xs.zip ys).map fun p => .tuple [p.1, p.2])
 | _, _ => none
def z0 (ρ : Env) : Tp → Option D
 | .sl i => match ρ[i]? with
  | some (some (.f, d)) => some d
  | some (some (.b, d)) => some d
  | _ => none
 | .fz d => some d
 | .ow _ _ => none
 | .tr _ => none
def za3 (ρ1 : Env) : List Tp → Out (List D)
 | [t1, t2] => match z0 ρ1 t1, z0 ρ1 t2 with
  | some d1, some d2 => match zav d1 d2 with
   | some l => .ok ρ1 l
   | none => .stk
  | _, _ => match Xk ρ1 [t1, t2] with
   | some (ρ2, [d1, d2]) => match zav d1 d2 with
    | some l => .ok ρ2 l
    | none => .stk
   | _ => .stk
 | _ => .stk
def zb1 (a b : RE) : Env → Out (List D) := fun ρ => (zm a (zm b zQ) ρ).bind fun ρ1 tps => za3 ρ1 tps
end Vm
namespace Vm
open PySem PySem.Spec PyProof.Rows L2 Fz
section
variable {K : PySem.W.Frag}
def XD : List D → Option Rz := fun ds => match ds with | [.str a, .str b] => if (fun a b => !(Builtin.Str.occurrences a b 0 a.length 1).isEmpty : Str → Str → Bool) a b = true then some (.fz ((fun a b => .int (((Builtin.Str.occurrences a b 0 a.length 1).headD 0 : Nat) : Int) : Str → Str → D) a b)) else none | _ => none
theorem jE : MtO K "str" (fun x xs H Q => ∃ a b i rest, x = .str a ∧ xs = [.str b] ∧ Builtin.Str.occurrences a b 0 a.length 1 = i :: rest ∧ Q (.int (i : Nat)) H) Xo XD :=
 ⟨fun x d H M h e => Wl h e, WR (fun a b H Q hc q => by
  cases e : Builtin.Str.occurrences a b 0 a.length 1 with
  | nil => rw [e] at hc; exact nomatch hc
  | cons i rest =>
   refine ⟨a, b, i, rest, rfl, rfl, e, ?_⟩
   have := q (.int ((((Builtin.Str.occurrences a b 0 a.length 1).headD 0 : Nat)) : Int)) fun M => .int _
   rw [e] at this
   exact this) (fun a b => .inl ⟨_, rfl⟩)⟩
end
theorem op_isNotB {X : Cx} : OpR X (compareOp .IsNot) (fun x y H Q => ∃ m n : Bool, x = .bl m ∧ y = .bl n ∧ Q (.bl (!decide (m = n))) H) := by
 intro pins s σ H x y v u Q I rx ry h
 obtain ⟨m, n, rfl, rfl, q⟩ := h
 cases (show v = Value.bool m from rx)
 cases (show u = Value.bool n from ry)
 by_cases e : m = n
 ·subst e
  exact wpAny_isNot_self rfl ⟨.bl false, H, I, rfl, by simpa using q⟩
 ·exact wpAny_isNot_other rfl (fun z => e (Value.bool.inj z)) ⟨.bl true, H, I, rfl, by simpa [e] using q⟩
section
variable {K : PySem.W.Frag}
def yN : D → D → Option Rz
 | .bool m, .bool n => some (.fz (.bool (!decide (m = n))))
 | _, _ => none
theorem wJ : Op2 K (fun x y H Q => ∃ m n : Bool, x = .bl m ∧ y = .bl n ∧ Q (.bl (!decide (m = n))) H) yN := fun x y d e H M Q z sm h1 h2 q k => by
 cases h1 <;> first | (cases q; done) | skip
 cases h2 <;> first | (cases q; done) | skip
 cases q
 exact ⟨_, _, rfl, rfl, k.1 _ (.bl _)⟩
end
def pl0 (ρ : Env) : Bool := ρ.all fun x => match x with | some (.e, _) => false | some (.l, _) => false | some (.b, .dict _) => false | _ => true
def yg (i : Nat) (r : RS) : RS := fun ρ => match ρ[i]? with
 | some (some (.o u p, .dict kds)) => if pl0 ρ = true then (match QW i (.o u p) kds r ρ with
  | .ok ρ2 fl => if pl0 ρ2 = true then .ok ρ2 fl else .stk
  | _ => .stk) else .stk
 | _ => .stk
section
variable {K : PySem.W.Frag} {B : Bx} {w : WX} {M W H : Hp} {ρ : Env} {σ : L2.St} {ta : TE} {ra : RE}
theorem St.addT2 (s : St K B M W H ρ σ) {b : Addr} {xs : List V} (h : H b = some (.tup xs)) : ∃ M' W', Gr M W M' W' ∧ St K B M' W' H ρ σ ∧ M' b = some (.tup xs) ∧ ∀ x o, W' x = some o → W x = some o ∨ x = b := by
 cases hM : M b with
 | some x =>
  have := s.mh _ _ hM
  rw [h] at this; cases this
  exact ⟨M, W, Gr.refl _ _, s, hM, fun _ _ e => .inl e⟩
 | none =>
  have wb : ∀ o, W b = some o → o = .tup xs := fun o e => by have := s.wh _ _ e; rw [h] at this; cases this; rfl
  have gr : Gr M W (upd M b (.tup xs)) (upd W b (.tup xs)) := by
   refine ⟨ZC hM, fun c o e => ?_, fun c o e1 e2 e3 => ?_⟩
   ·by_cases hc : c = b
    ·subst hc; rw [upd_same, wb _ e]
    ·rw [upd_ne hc]; exact e
   ·by_cases hc : c = b
    ·subst hc
     have := wb _ e1; subst this
     exact False.elim e2
    ·rw [upd_ne hc]; exact e3
  refine ⟨_, _, gr, ⟨s.bw.trans gr.w, qu s.mw, fun c o e => ?_, s.ln, fun i g d e => ?_, s.spUpN (.of gr.m) (fun _ _ _ h => h), s.tb.frz (fun _ z => nomatch z)⟩, upd_same, fun x o e => by
   by_cases hx : x = b
   ·exact .inr hx
   ·rw [upd_ne hx] at e; exact .inl e⟩
  ·by_cases hc : c = b
   ·subst hc; rw [upd_same] at e; cases e; exact h
   ·rw [upd_ne hc] at e; exact s.wh _ _ e
  ·obtain ⟨v, h1, h2⟩ := s.sl i g d e
   refine ⟨v, h1, ?_⟩
   cases g with
   | f => exact Rp.mono gr.m h2
   | b => exact R1.mono (Same.refl _) gr.m h2
   | s => exact h2
   | e => obtain ⟨_, _, _, e1, e2, e0, e3⟩ := h2; exact ⟨_, _, _, e1, e2, e0, e3.mono gr.m⟩
   | l => exact ⟨h2.1, h2.2.mono gr.m⟩
   | o u p =>
    obtain ⟨c, oc, rfl, q1, q2, q3, q4⟩ := h2
    have hc : c ≠ b := fun z => by
     subst z; rw [h] at q1; cases q1; exact q2.kind
    exact ⟨c, oc, rfl, q1, q2.mono gr.m, by rw [upd_ne hc]; exact q3, q4⟩
   | q p =>
    obtain ⟨c, F, rfl, q1, q2, q3, q4⟩ := h2
    exact ⟨c, F, rfl, q1.lq (.of gr.m) (fun _ _ _ h => h), q2, fun x hx => by
     have hc : x ≠ b := fun z => by
      obtain ⟨o', e1, e2⟩ := q1.cell x hx
      subst z; rw [h] at e1; cases e1; exact e2
     rw [upd_ne hc]; exact q3 x hx, q4⟩
theorem St.addT (s : St K B M W H ρ σ) {b : Addr} {xs : List V} (h : H b = some (.tup xs)) : ∃ M' W', Gr M W M' W' ∧ St K B M' W' H ρ σ ∧ M' b = some (.tup xs) :=
 let ⟨M', W', g, s', e, _⟩ := s.addT2 h
 ⟨M', W', g, s', e⟩
theorem St.addK : ∀ {kvs : List (List Key × V)} {bs : List Addr} {M W : Hp}, St K B M W H ρ σ → Paired (fun p b => H b = some (.tup (p.1.map kV))) kvs bs →
  ∃ M' W', Gr M W M' W' ∧ St K B M' W' H ρ σ ∧ Rps K M' (bs.map V.ref) (kvs.map fun p => PyData.tuple (p.1.map kD))
 | _, _, M, W, s, .nil => ⟨M, W, Gr.refl _ _, s, .nil⟩
 | _, _, M, W, s, .cons h t => by
  obtain ⟨M1, W1, g1, s1, m1⟩ := s.addT h
  obtain ⟨M2, W2, g2, s2, r2⟩ := St.addK s1 t
  exact ⟨M2, W2, g1.trans g2, s2, .cons (.tup (g2.m _ _ m1) (WY _)) r2⟩
end
end Vm
namespace Vm
open PySem PySem.Spec PyProof.Rows L2 Fz
section
variable {K : PySem.W.Frag} {B : Bx} {w : WX} {ta : TE} {ra : RE}
def za7 (a : RE) : Env → Out (List D) := fun ρ => (a ρ).bind fun ρ1 tp => match wk ρ1 tp with
 | some (ρ2, .tuple ds) => .ok ρ2 (enD ds)
 | _ => .stk
end
end Vm
namespace Vm
open PySem PySem.Spec PyProof.Rows L2 Fz
open PySem.W (KatLex kat_nil kat_cons kat_yes kat_no kat_lt KatTups kat_kind)
end Vm
namespace Vm
open PySem PySem.Spec PyProof.Rows L2 Fz
section
variable {K : PySem.W.Frag} {B B' : Bx} {M W H : Hp} {ρ : Env} {σ : L2.St} {T : List (Addr × Str)} {w : WX}
theorem St.bare (s : St K B M W H ρ σ) (hb : B'.b = B.b) (ht : B'.t = B.t) : St K B' M W H [] [] :=
 ⟨by rw [hb]; exact s.bw, s.mw, s.wh, rfl, (fun i g d q => by simp at q), (fun i j g h d e a b F G hij q1 => by simp at q1), by rw [ht]; exact s.tb⟩
theorem TpOk.bare {z : Rz} {v : V} (h : TpOk K B M W H ρ σ z.tp v) : TpOk K B' M W H [] [] z.tp v := by
 cases z with
 | fz d => exact h
 | ow u d => obtain ⟨a, o, e1, e2, e3, e4, e5⟩ := h; exact ⟨a, o, e1, e2, e3, e4, fun i g d b F q => by simp at q⟩
 | tr d => obtain ⟨a, o, e1, e2, e3, e4, e5⟩ := h; exact ⟨a, o, e1, e2, e3, e4, fun x hx i g d b F q => by simp at q⟩
end
def yG (m : List (Fg × D) → zY) (i : Nat) : RE := fun ρ => match ρ[i]? with
 | some (some (.e, dE)) => match m [(.e, dE)] with
  | .ok z _ => .ok ρ z.tp
  | _ => .stk
 | _ => .stk
end Vm
namespace Vm
open PySem PySem.Spec PyProof.Rows L2 Fz
end Vm
namespace Vm
open PySem PySem.Spec PyProof.Rows L2 Fz
end Vm
namespace Vm
open PySem PySem.Spec PyProof.Rows L2 Fz
end Vm
namespace Vm
open PySem PySem.Spec PyProof.Rows L2 Fz RZ
end Vm
namespace Vm
open PySem PySem.Spec PyProof.Rows L2 Fz
end Vm
namespace Vm
open PySem PySem.Spec PyProof.Rows L2 Fz
end Vm
namespace Vm
open PySem PySem.Spec PyProof.Rows L2 Fz
def zbH (c : Str) (kds : List (D × D)) : D := .dict ((.none, .str c) :: (.none, .none) :: kds)
def Ko : List (D × D) → Str → Option D
 | [], _ => none
 | (.str g, d) :: r, f => if g = f then some d else Ko r f
 | _ :: r, f => Ko r f
def j8 (f : Str) (d : D) : List (D × D) → List (D × D)
 | [] => [(.str f, d)]
 | (.str g, x) :: r => if g = f then (.str g, d) :: r else (.str g, x) :: j8 f d r
 | y :: r => y :: j8 f d r
def jP (ds : List D) : Bool := ds.all fun d => !zam d
section
variable {K : PySem.W.Frag} {M H : Hp}
theorem TrCs.append : ∀ {vs ws : List V} {ds es : List D} {F G : List Addr}, TrCs K M H vs ds F → TrCs K M H ws es G → TrCs K M H (vs ++ ws) (ds ++ es) (F ++ G)
 | _, _, _, _, _, _, .nil, h => h
 | _, _, _, _, _, G, .cons (F := F1) (G := F2) h t, k => by
  show TrCs K M H (_ :: _) (_ :: _) _
  rw [List.append_assoc]
  exact .cons h (t.append k)
theorem TrCs.flat : ∀ {vs : List V} {ds : List D} {F : List Addr}, TrCs K M H vs ds F → jP ds = true → Rps K M vs ds ∧ F = []
 | _, _, _, .nil, _ => ⟨.nil, rfl⟩
 | _, _, _, .cons h t, e => by
  unfold jP at e
  rw [List.all_cons, Bool.and_eq_true] at e
  obtain ⟨r, rfl⟩ := t.flat e.2
  cases h with
  | fz h _ => exact ⟨.cons h r, rfl⟩
  | ow h => exact absurd e.1 (by simp [zam, mkC])
theorem TrCs.ofFlat : ∀ {vs : List V} {ds : List D}, Rps K M vs ds → jP ds = true → TrCs K M H vs ds []
 | _, _, .nil, _ => .nil
 | _, _, .cons h t, e => by
  unfold jP at e
  rw [List.all_cons, Bool.and_eq_true] at e
  exact .cons (F := []) (G := []) (.fz h (by simpa using e.1)) (TrCs.ofFlat t e.2)
theorem TrCs.split : ∀ {fs : List (Str × V)} {kds : List (D × D)} {F : List Addr} {f : Str} {d : D}, fs.map (fun p => PyData.str p.1) = kds.map (·.1) → TrCs K M H (fs.map (·.2)) (kds.map (·.2)) F → Ko kds f = some d →
  ∃ (fs1 fs2 : List (Str × V)) (k1 k2 : List (D × D)) (v : V) (F1 G F2 : List Addr), F = F1 ++ (G ++ F2) ∧ TrCs K M H (fs1.map (·.2)) (k1.map (·.2)) F1 ∧ TrC K M H v d G ∧ TrCs K M H (fs2.map (·.2)) (k2.map (·.2)) F2 ∧ fs.lookup f = some v ∧
   (∀ v', putF f v' fs = fs1 ++ (f, v') :: fs2) ∧ (∀ d', j8 f d' kds = k1 ++ (.str f, d') :: k2) ∧ (∀ v' d', (fs1 ++ (f, v') :: fs2).map (fun p => PyData.str p.1) = (k1 ++ (.str f, d') :: k2).map (·.1))
 | [], [], _, f, d, _, _, e => nomatch e
 | [], _ :: _, _, f, d, h, _, _ => nomatch h
 | _ :: _, [], _, f, d, h, _, _ => nomatch h
 | (g, v) :: fs, (kk, dd) :: kds, F, f, d, h, t, e => by
  obtain ⟨h1, h2⟩ := List.cons.inj h
  have h1 : PyData.str g = kk := h1
  subst h1
  cases t with
  | cons tv tr =>
   rename_i F1 F2
   unfold Ko at e
   by_cases hg : g = f
   ·subst hg
    rw [if_pos rfl] at e; cases e
    refine ⟨[], fs, [], kds, v, [], F1, F2, rfl, .nil, tv, tr, ?_, fun v' => ?_, fun d' => ?_, fun v' d' => ?_⟩
    ·show List.lookup g ((g, v) :: fs) = some v
     simp [List.lookup]
    ·exact if_pos rfl
    ·exact if_pos rfl
    ·exact congrArg _ h2
   ·rw [if_neg hg] at e
    obtain ⟨a1, a2, k1, k2, v0, G1, G, G2, e1, e2, e3, e4, e5, e6, e7, e8⟩ := TrCs.split h2 tr e
    subst e1
    refine ⟨(g, v) :: a1, a2, (.str g, dd) :: k1, k2, v0, F1 ++ G1, G, G2, by rw [List.append_assoc], .cons tv e2, e3, e4, ?_, fun v' => ?_, fun d' => ?_, fun v' d' => ?_⟩
    ·have hb : (f == g) = false := beq_eq_false_iff_ne.mpr (Ne.symm hg)
     simp only [List.lookup, hb]; exact e5
    ·show (if g = f then _ else (g, v) :: putF f v' fs) = _
     rw [if_neg hg, e6]; rfl
    ·show (if g = f then _ else (PyData.str g, dd) :: j8 f d' kds) = _
     rw [if_neg hg, e7]; rfl
    ·exact congrArg _ (e8 v' d')
theorem TrO.insInv {a : Addr} {c : Str} {kds : List (D × D)} {F : List Addr} (h : TrO K M H a (zbH c kds) F) : ∃ (C dx : Addr) (fs : List (Str × V)) (F0 : List Addr), F = a :: dx :: F0 ∧ H a = some (.ins C dx fs) ∧ H dx = some (.own a) ∧ xU K c = .ref C ∧ fs.map (fun p => PyData.str p.1) = kds.map (·.1) ∧ TrCs K M H (fs.map (·.2)) (kds.map (·.2)) F0 := by
 generalize e : zbH c kds = x at h
 cases h with
 | lst _ _ => exact nomatch e
 | tup _ _ => exact nomatch e
 | dic h1 h2 h3 =>
  rename_i kvs k2 F0
  exfalso
  have : k2 = (.none, .str c) :: (.none, .none) :: kds := by
   have e : PyData.dict ((.none, .str c) :: (.none, .none) :: kds) = .dict k2 := e
   injection e with e; exact e.symm
  subst this
  cases kvs with
  | nil => exact nomatch h2
  | cons p r => exact absurd (List.cons.inj h2).1 zbB
 | ins h1 h2 h3 h4 h5 =>
  have e : PyData.dict ((.none, .str c) :: (.none, .none) :: kds) = _ := e
  injection e with e
  injection e with e1 e2
  injection e2 with _ e3
  injection e1 with _ e1
  injection e1 with e1
  subst e1; subst e3
  exact ⟨_, _, _, _, rfl, h1, h2, h3, h4, h5⟩
theorem TrC.mkInv {v : V} {d : D} {G : List Addr} (h : TrC K M H v (mkC d) G) : ∃ a, v = .ref a ∧ TrO K M H a d G := by
 generalize e : mkC d = x at h
 cases h with
 | fz _ q => subst e; exact nomatch q
 | ow h =>
  rename_i a d'
  unfold mkC at e
  injection e with e
  injection e with e _
  injection e with _ e
  subst e
  exact ⟨_, rfl, h⟩
end
section
variable {K : PySem.W.Frag} {B : Bx} {M W H : Hp} {ρ : Env} {σ : L2.St} {a y : Addr} {o o' : HO} {i : Nat} {p : Bool} {d d' : D} {F F' : List Addr}
theorem TbOk.turnK {T : List (Addr × Str)} (h : TbOk T W H) (ha : H a = some o) (hm : TrK o) : TbOk T W (upd H a o') := ⟨h.1, fun p hp => by
 obtain ⟨ps, h2, h3, h4⟩ := h.2 p hp
 have hn : p.1 ≠ a := fun e => by rw [e, ha] at h2; cases h2; exact hm
 refine ⟨ps, by rw [upd_ne hn]; exact h2, h3, fun pos cv hc => ?_⟩
 obtain ⟨c, e1, e2⟩ := h4 pos cv hc
 refine ⟨c, e1, ?_⟩
 have : c ≠ a := fun e => by rw [e, ha] at e2; cases e2; exact hm
 rw [upd_ne this]; exact e2⟩
theorem St.turnT (s : St K B M W H ρ σ) (h : H a = some o) (hm : TrK o) (hW : W a = none) (ap : Apart K M H ρ σ a) : St K B M W (upd H a o') ρ σ := by
 refine ⟨s.bw, s.mw, fun b u e => ?_, s.ln, fun i g d e => ?_, s.spUp (.of (Same.refl _)) (fun i g d b F e hσ f y hy o' ho => by rw [upd_ne (fun z : y = a => ap i g d b F e hσ f (by rw [← z]; exact hy))]; exact ho), s.tb.turnK h hm⟩
 ·rw [upd_ne (ne_of_none e hW)]; exact s.wh _ _ e
 ·obtain ⟨v, h1, h2⟩ := s.sl i g d e
  refine ⟨v, h1, ?_⟩
  cases g with
  | f => exact h2
  | b => exact h2
  | s => exact h2
  | e => exact h2
  | l => exact h2
  | o u p =>
   obtain ⟨a', o', rfl, q1, q2, q3, q4⟩ := h2
   have : a' ≠ a := fun z => ap.ow i _ _ rfl e (by rw [← z]; exact h1)
   exact ⟨a', o', rfl, by rw [upd_ne this]; exact q1, q2, q3, q4⟩
  | q p =>
   obtain ⟨a', F, rfl, q1, q2, q3, q4⟩ := h2
   exact ⟨a', F, rfl, q1.lq (.of (Same.refl _)) fun x hx o' e' => by rw [upd_ne (fun z : x = a => ap i _ _ a' F e h1 q1 (by rw [← z]; exact hx))]; exact e', q2, q3, q4⟩
theorem St.tree (s : St K B M W H ρ σ) (hr : ρ[i]? = some (some (.q p, d))) : ∃ a F, σ[i]? = some (some (.ref a)) ∧ TrO K M H a d F ∧ F.Nodup ∧ (∀ x ∈ F, W x = none) ∧ (p = true → B.p i = some a) ∧ ∀ x ∈ F, Apart K M H (ρ.set i none) σ x := by
 obtain ⟨v, q1, a, F, rfl, h1, h2, h3, h4⟩ := s.sl i _ _ hr
 exact ⟨a, F, q1, h1, h2, h3, h4, qd s (g := .q p) hr q1 h1⟩
theorem St.turnQ (s : St K B M W H ρ σ) (hr : ρ[i]? = some (some (.q p, d))) (hσ : σ[i]? = some (some (.ref a))) (hF : TrO K M H a d F) (hy : y ∈ F) (ho : TrO K M (upd H y o') a d' F') (nd : F'.Nodup) (sub : ∀ x ∈ F', x ∈ F ∨ (W x = none ∧ Apart K M H (ρ.set i none) σ x)) : St K B M W (upd H y o') (ρ.set i (some (.q p, d'))) σ := by
 obtain ⟨a', G, q1, h1, h2, h3, h4, h5⟩ := s.tree hr
 rw [hσ] at q1; cases q1
 have := h1.uniq (.of (Same.refl _)) hF
 subst this
 obtain ⟨oy, e1, e2⟩ := h1.cell y hy
 have s1 := (s.forget i).turnT (o' := o') e1 e2 (h3 y hy) (h5 y hy)
 have up : ∀ {x : Addr}, Apart K M H (ρ.set i none) σ x → Apart K M (upd H y o') (ρ.set i none) σ x := fun {x} ap => ap.up (s.forget i) (.of (Same.refl _)) fun j g dd b F1 e hs f z hz o2 e3 => by
  rw [upd_ne (fun q : z = y => h5 y hy j g dd b F1 e hs f (by rw [← q]; exact hz))]; exact e3
 refine s1.putG hσ (g := .q p) ⟨a, F', rfl, ho, nd, fun x hx => (sub x hx).elim (h3 x) (·.1), h4⟩ fun b F1 e f x hx => ?_
 cases e
 have := ho.uniq (.of (Same.refl _)) f
 subst this
 exact up ((sub x hx).elim (h5 x) (·.2))
end
end Vm
namespace Vm
open PySem PySem.Spec PyProof.Rows L2 Fz
end Vm
namespace Vm
open PySem PySem.Spec PyProof.Rows L2 Fz
section
variable {K : PySem.W.Frag} {B : Bx} {w : WX} {M W H : Hp} {ρ ρ' : Env} {σ : L2.St} {i : Nat} {c f mn : Str} {C : Addr} {t : TE} {r : RE} {tA : TA} {rA : RA} {tp : Tp} {v : V} {d : D}
theorem Jw : ∀ {fs : List (Str × V)} {f : Str} {v : V}, fs.lookup f = some v → putF f v fs = fs
 | [], _, _, h => nomatch h
 | (g, x) :: r, f, v, h => by
  show (if g = f then _ else (g, x) :: putF f v r) = _
  by_cases hg : g = f
  ·subst hg
   simp [List.lookup] at h
   rw [if_pos rfl, h]
  ·have hb : (f == g) = false := beq_eq_false_iff_ne.mpr (Ne.symm hg)
   simp only [List.lookup, hb] at h
   rw [if_neg hg, Jw h]
end
end Vm
namespace Vm
open PySem PySem.Spec PyProof.Rows L2 Fz
end Vm
namespace Vm
open PySem PySem.Spec PyProof.Rows L2 Fz
end Vm
namespace Vm
open PySem PySem.Spec PyProof.Rows L2 Fz
inductive Stp where
 | fld (c f : Str)
 | ix (n : Nat)
 | key (k : Int)
def ixK (k : Int) : List (D × D) → Option Nat
 | [] => none
 | (.int i, _) :: r => if i = k then some 0 else (ixK k r).map (· + 1)
 | _ :: r => (ixK k r).map (· + 1)
def child : D → Stp → Option D
 | .dict kds, .key k => match ixK k kds with
  | some j => (kds[j]?).map (·.2)
  | none => none
 | .dict ((.none, .str c') :: (.none, .none) :: kds), .fld c f => if c' = c then Ko kds f else none
 | .list ds, .ix n => ds[n]?
 | .tuple ds, .ix n => ds[n]?
 | _, _ => none
def zac : D → Stp → D → D
 | .dict kds, .key k, x => match ixK k kds with
  | some j => .dict (kds.set j (.int k, x))
  | none => .dict kds
 | .dict ((.none, .str c') :: (.none, .none) :: kds), .fld _ f, x => .dict ((.none, .str c') :: (.none, .none) :: j8 f x kds)
 | .list ds, .ix n, x => .list (ds.set n x)
 | .tuple ds, .ix n, x => .tuple (ds.set n x)
 | d, _, _ => d
def wg : D → Option D
 | .dict [(.none, e)] => some e
 | _ => none
def qU : D → List Stp → Option D
 | d, [] => some d
 | d, s :: π => match child d s with
  | some x => match wg x with
   | some e => qU e π
   | none => none
  | none => none
def Xu : D → List Stp → D → D
 | _, [], e => e
 | d, s :: π, e => match child d s with
  | some x => match wg x with
   | some y => zac d s (mkC (Xu y π e))
   | none => d
  | none => d
theorem j6 {x e : D} (h : wg x = some e) : x = mkC e := by
 unfold wg at h
 split at h
 ·cases h; rfl
 ·exact nomatch h
def Edge (K : PySem.W.Frag) (M H : Hp) (a : Addr) (v : V) : Stp → Prop
 | .fld c f => ∃ C dx fs, H a = some (.ins C dx fs) ∧ xU K c = .ref C ∧ fs.lookup f = some v
 | .ix n => ∃ xs, (H a = some (.lst xs) ∨ M a = some (.tup xs)) ∧ xs[n]? = some v
 | .key k => ∃ kvs : List (Key × V), H a = some (.dK kvs) ∧ valV kvs (.inl k) = some v
theorem Wb {k : Int} : ∀ {kvs : List (Key × V)} {kds : List (D × D)} {j : Nat}, kvs.map (fun p => kD p.1) = kds.map (·.1) → ixK k kds = some j → ∃ v x, kvs[j]? = some (.inl k, v) ∧ kds[j]? = some (.int k, x) ∧ valV kvs (.inl k) = some v
 | [], [], _, _, e => nomatch e
 | [], _ :: _, _, z, _ => nomatch z
 | _ :: _, [], _, z, _ => nomatch z
 | (k', v) :: kvs, (d, x) :: kds, j, z, e => by
  rw [List.map_cons, List.map_cons] at z
  injection z with z1 z2
  dsimp only at z1
  subst z1
  have step : ∀ {j}, k' ≠ .inl k → (ixK k kds).map (· + 1) = some j → ∃ v' x', ((k', v) :: kvs)[j]? = some (.inl k, v') ∧ ((kD k', x) :: kds)[j]? = some (.int k, x') ∧ valV ((k', v) :: kvs) (.inl k) = some v' := fun {j} hk e => by
   cases e1 : ixK k kds with
   | none => rw [e1] at e; exact nomatch e
   | some i =>
    rw [e1] at e
    cases e
    obtain ⟨v', x', q1, q2, q3⟩ := Wb z2 e1
    exact ⟨v', x', by simpa using q1, by simpa using q2, by rw [valV_neg (show ¬ (k', v).1 = _ from hk)]; exact q3⟩
  cases k' with
  | inr y => exact step (fun h => nomatch h) e
  | inl i =>
   have e : (if i = k then some 0 else (ixK k kds).map (· + 1)) = some j := e
   by_cases q : i = k
   ·subst q
    rw [if_pos rfl] at e
    cases e
    exact ⟨v, x, rfl, rfl, valV_pos rfl⟩
   ·rw [if_neg q] at e
    exact step (fun h => q (Sum.inl.inj h)) e
theorem Vs {k : Int} : ∀ {fs : List (Str × V)} {kds : List (D × D)}, fs.map (fun p => PyData.str p.1) = kds.map (·.1) → ixK k kds = none
 | [], [], _ => rfl
 | [], _ :: _, z => nomatch z
 | _ :: _, [], z => nomatch z
 | p :: fs, (d, x) :: kds, z => by
  rw [List.map_cons, List.map_cons] at z
  injection z with z1 z2
  dsimp only at z1
  subst z1
  show (ixK k kds).map (· + 1) = none
  rw [Vs z2]; rfl
theorem set_self {α : Type} {l : List α} {j : Nat} {y : α} (h : l[j]? = some y) : l.set j y = l := by
 obtain ⟨hl, rfl⟩ := List.getElem?_eq_some_iff.mp h
 exact List.set_getElem_self hl
inductive Way (K : PySem.W.Frag) (M H : Hp) : Addr → List Stp → Addr → Prop
 | nil {a : Addr} : Way K M H a [] a
 | cons {a b c : Addr} {s : Stp} {π : List Stp} : Edge K M H a (.ref b) s → Way K M H b π c → Way K M H a (s :: π) c
section
variable {K : PySem.W.Frag} {M M2 H H2 : Hp} {a b : Addr} {d x e : D} {F : List Addr} {s : Stp}
theorem TrCs.splitAt : ∀ {vs : List V} {ds : List D} {F : List Addr} {n : Nat} {x : D}, TrCs K M H vs ds F → ds[n]? = some x →
  ∃ (v : V) (F1 G F2 : List Addr), F = F1 ++ (G ++ F2) ∧ vs[n]? = some v ∧ TrC K M H v x G ∧ ∀ (H' : Hp) (x' : D) (G' : List Addr), (∀ y ∈ F1 ++ F2, ∀ o, H y = some o → H' y = some o) → TrC K M H' v x' G' → TrCs K M H' vs (ds.set n x') (F1 ++ (G' ++ F2))
 | _, _, _, n, x, .nil, h => by simp at h
 | _, _, _, 0, x, .cons (v := v) (F := G) (G := F2) hv t, h => by
  cases h
  refine ⟨v, [], G, F2, rfl, rfl, hv, fun H' x' G' k hx => ?_⟩
  show TrCs K M H' (v :: _) (x' :: _) (G' ++ F2)
  exact .cons hx (t.lq (.of (Same.refl _)) k)
 | _, _, _, n + 1, x, .cons (v := v0) (F := G0) hv t, h => by
  obtain ⟨v, F1, G, F2, e1, e2, e3, e4⟩ := t.splitAt (n := n) (by simpa using h)
  subst e1
  refine ⟨v, G0 ++ F1, G, F2, by rw [List.append_assoc], by simpa using e2, e3, fun H' x' G' k hx => ?_⟩
  rw [List.append_assoc]
  exact .cons (hv.lq (.of (Same.refl _)) fun y hy => k y (by simp [hy])) (e4 H' x' G' (fun y hy => k y (by simp only [List.mem_append] at hy ⊢; rcases hy with hy | hy <;> simp [hy])) hx)
theorem TrO.child (h : TrO K M H a d F) (hc : child d s = some x) : ∃ (v : V) (F1 G F2 : List Addr), F = F1 ++ (G ++ F2) ∧ TrC K M H v x G ∧ Edge K M H a v s ∧ ∀ (H' : Hp) (x' : D) (G' : List Addr), (∀ y ∈ F1 ++ F2, ∀ o, H y = some o → H' y = some o) → TrC K M H' v x' G' → TrO K M H' a (zac d s x') (F1 ++ (G' ++ F2)) := by
 cases s with
 | ix n =>
  cases h with
  | lst h t =>
   have hc : (_ : List D)[n]? = some x := hc
   obtain ⟨v, F1, G, F2, e1, e2, e3, e4⟩ := t.splitAt hc
   subst e1
   exact ⟨v, a :: F1, G, F2, rfl, e3, ⟨_, .inl h, e2⟩, fun H' x' G' k hx => .lst (k a (by simp) _ h) (e4 H' x' G' (fun y hy => k y (by simp only [List.mem_append, List.cons_append, List.mem_cons] at hy ⊢; exact .inr hy)) hx)⟩
  | tup h t =>
   have hc : (_ : List D)[n]? = some x := hc
   obtain ⟨v, F1, G, F2, e1, e2, e3, e4⟩ := t.splitAt hc
   exact ⟨v, F1, G, F2, e1, e3, ⟨_, .inr h, e2⟩, fun H' x' G' k hx => .tup h (e4 H' x' G' k hx)⟩
  | dic h e t => simp [Vm.child] at hc
  | ins h h2 h3 e t => simp [Vm.child] at hc
 | key k =>
  cases h with
  | lst h t => simp [Vm.child] at hc
  | tup h t => simp [Vm.child] at hc
  | ins h h2 h3 e t =>
   exfalso
   unfold Vm.child at hc
   dsimp only at hc
   rw [show ixK k ((.none, .str _) :: (.none, .none) :: _) = (((ixK k _).map (· + 1)).map (· + 1)) from rfl, Vs e] at hc
   exact nomatch hc
  | dic h e t =>
   rename_i kvs kds F0
   have hc : (match ixK k kds with | some j => (kds[j]?).map (·.2) | none => none) = some x := hc
   cases ej : ixK k kds with
   | none => rw [ej] at hc; exact nomatch hc
   | some j =>
    rw [ej] at hc
    obtain ⟨v, y, q1, q2, q3⟩ := Wb e ej
    have hc : (kds[j]?).map (·.2) = some x := hc
    rw [q2] at hc
    cases hc
    obtain ⟨v', F1, G, F2, e1, e2, e3, e4⟩ := t.splitAt (n := j) (x := y) (by rw [List.getElem?_map, q2]; rfl)
    rw [List.getElem?_map, q1] at e2
    cases e2
    subst e1
    refine ⟨v, a :: F1, G, F2, rfl, e3, ⟨kvs, h, q3⟩, fun H' x' G' kp hx => ?_⟩
    show TrO K M H' a (match ixK k kds with | some j => .dict (kds.set j (.int k, x')) | none => .dict kds) _
    rw [ej]
    refine .dic (kp a (by simp) _ h) ?_ ?_
    ·rw [e, List.map_set, set_self (by rw [List.getElem?_map, q2]; rfl)]
    ·rw [List.map_set]
     exact e4 H' x' G' (fun y hy => kp y (by simp only [List.mem_append, List.cons_append, List.mem_cons] at hy ⊢; exact .inr hy)) hx
 | fld c f =>
  unfold Vm.child at hc
  split at hc
  ·rename_i hs; exact nomatch hs
  ·rename_i c' kds c0 f0 hs
   cases hs
   split at hc
   ·rename_i hcc
    subst hcc
    obtain ⟨C, dx, fs, F0, rfl, e1, e2, e3, e4, e5⟩ := TrO.insInv h
    obtain ⟨fs1, fs2, k1, k2, v, F1, G, F2, p1, p2, p3, p4, p5, p6, p7, p8⟩ := e5.split e4 hc
    subst p1
    have efs : fs = fs1 ++ (f, v) :: fs2 := by rw [← p6 v]; exact (Jw p5).symm
    refine ⟨v, a :: dx :: F1, G, F2, rfl, p3, ⟨C, dx, fs, e1, e3, p5⟩, fun H' x' G' k hx => ?_⟩
    show TrO K M H' a (.dict ((.none, .str c') :: (.none, .none) :: j8 f x' kds)) _
    rw [p7]
    refine .ins (fs := fs) (k a (by simp) _ e1) (k dx (by simp) _ e2) e3 ?_ ?_
    ·rw [efs]; exact p8 _ _
    ·rw [efs, List.map_append, List.map_append]
     exact (p2.lq (.of (Same.refl _)) fun y hy => k y (by simp [hy])).append (.cons hx (p4.lq (.of (Same.refl _)) fun y hy => k y (by simp [hy])))
   ·exact nomatch hc
  ·rename_i hs; exact nomatch hs
  ·rename_i hs; exact nomatch hs
  ·exact nomatch hc
theorem TrO.path : ∀ {π : List Stp} {a : Addr} {d e : D} {F : List Addr}, TrO K M H a d F → qU d π = some e →
  ∃ (b : Addr) (F1 G F2 : List Addr), F = F1 ++ (G ++ F2) ∧ TrO K M H b e G ∧ Way K M H a π b ∧ ∀ (H' : Hp) (e' : D) (G' : List Addr), (∀ y ∈ F1 ++ F2, ∀ o, H y = some o → H' y = some o) → TrO K M H' b e' G' → TrO K M H' a (Xu d π e') (F1 ++ (G' ++ F2))
 | [], a, d, e, F, h, hn => by
  cases hn
  exact ⟨a, [], F, [], by simp, h, .nil, fun H' e' G' _ h' => by simpa [Xu] using h'⟩
 | s :: π, a, d, e, F, h, hn => by
  unfold qU at hn
  cases hc : Vm.child d s with
  | none => rw [hc] at hn; exact nomatch hn
  | some x =>
   rw [hc] at hn
   dsimp only at hn
   cases hu : wg x with
   | none => rw [hu] at hn; exact nomatch hn
   | some y =>
    rw [hu] at hn
    dsimp only at hn
    have ex := j6 hu
    subst ex
    obtain ⟨v, F1, G, F2, e1, e2, e3, e4⟩ := h.child hc
    obtain ⟨c, rfl, tc⟩ := e2.mkInv
    obtain ⟨b, G1, G2, G3, f1, f2, f3, f4⟩ := TrO.path tc hn
    subst f1; subst e1
    refine ⟨b, F1 ++ G1, G2, G3 ++ F2, by simp [List.append_assoc], f2, .cons e3 f3, fun H' e' G' k h' => ?_⟩
    have := e4 H' (mkC (Xu y π e')) (G1 ++ (G' ++ G3)) (fun z hz => k z (by simp only [List.mem_append] at hz ⊢; rcases hz with hz | hz <;> simp [hz])) (.ow (f4 H' e' G' (fun z hz => k z (by simp only [List.mem_append] at hz ⊢; rcases hz with hz | hz <;> simp [hz])) h'))
    unfold Xu
    rw [hc]
    dsimp only
    rw [hu]
    dsimp only
    simpa [List.append_assoc] using this
theorem Edge.det {v v2 : V} (sm : Same M H) (h : TrO K M H a d F) (hc : child d s = some x) (kp : ∀ y ∈ F, H2 y = H y) (m2 : Same M M2) (sm2 : Same M2 H2) (e1 : Edge K M H a v s) (e2 : Edge K M2 H2 a v2 s) : v = v2 := by
 cases s with
 | ix n =>
  obtain ⟨xs, p1, p2⟩ := e1
  obtain ⟨ys, q1, q2⟩ := e2
  have : xs = ys := by
   cases h with
   | lst h t =>
    have e := kp a List.mem_cons_self
    rcases p1 with p1 | p1
    ·rw [h] at p1; cases p1
     rcases q1 with q1 | q1
     ·rw [e, h] at q1; cases q1; rfl
     ·have q1 := sm2 _ _ q1
      rw [e, h] at q1; cases q1
    ·have p1 := sm _ _ p1
     rw [h] at p1; cases p1
   | tup h t =>
    have hh := sm _ _ h
    have hh2 := sm2 _ _ (m2 _ _ h)
    rcases p1 with p1 | p1
    ·rw [hh] at p1; cases p1
    ·rw [h] at p1; cases p1
     rcases q1 with q1 | q1
     ·rw [hh2] at q1; cases q1
     ·rw [m2 _ _ h] at q1; cases q1; rfl
   | dic h e t => simp [Vm.child] at hc
   | ins h h2 h3 e t => simp [Vm.child] at hc
  subst this
  rw [p2] at q2; cases q2; rfl
 | key k =>
  obtain ⟨kvs, p1, p2⟩ := e1
  obtain ⟨kvs2, q1, q2⟩ := e2
  cases h with
  | lst h t => rw [h] at p1; cases p1
  | tup h t => rw [sm _ _ h] at p1; cases p1
  | ins h h2' h3 e t => rw [h] at p1; cases p1
  | dic h e t =>
   rw [kp a List.mem_cons_self, h] at q1; cases q1
   rw [h] at p1; cases p1
   rw [p2] at q2; cases q2; rfl
 | fld c f =>
  obtain ⟨C, dx, fs, p1, p2, p3⟩ := e1
  obtain ⟨C2, dx2, fs2, q1, q2, q3⟩ := e2
  cases h with
  | lst h t => rw [h] at p1; cases p1
  | tup h t => rw [sm _ _ h] at p1; cases p1
  | dic h e t => rw [h] at p1; cases p1
  | ins h h2' h3 e t =>
   rw [kp a List.mem_cons_self, h] at q1; cases q1
   rw [h] at p1; cases p1
   rw [p3] at q3; cases q3; rfl
theorem Way.det : ∀ {π : List Stp} {a b b2 : Addr} {d e : D} {F : List Addr}, Same M H → TrO K M H a d F → qU d π = some e → (∀ y ∈ F, H2 y = H y) → Same M M2 → Same M2 H2 → Way K M H a π b → Way K M2 H2 a π b2 → b = b2
 | [], _, _, _, _, _, _, _, _, _, _, _, _, .nil, .nil => rfl
 | s :: π, a, b, b2, d, e, F, sm, h, hn, kp, m2, sm2, .cons e1 p1, .cons e2 p2 => by
  unfold qU at hn
  cases hc : Vm.child d s with
  | none => rw [hc] at hn; exact nomatch hn
  | some x =>
   rw [hc] at hn
   dsimp only at hn
   cases hu : wg x with
   | none => rw [hu] at hn; exact nomatch hn
   | some y =>
    rw [hu] at hn
    dsimp only at hn
    have ex := j6 hu
    subst ex
    have := Edge.det sm h hc kp m2 sm2 e1 e2
    cases this
    obtain ⟨v, F1, G, F2, g1, g2, g3, _⟩ := h.child hc
    have := Edge.det sm h hc (fun _ _ => rfl) (Same.refl _) sm e1 g3
    subst this
    obtain ⟨c, ec, tc⟩ := g2.mkInv
    cases ec
    subst g1
    exact Way.det sm tc hn (fun z hz => kp z (by simp [hz])) m2 sm2 p1 p2
end
end Vm
namespace Vm
open PySem PySem.Spec PyProof.Rows L2 Fz
abbrev Pl := Nat × List Stp
abbrev RPl := Env → Out Pl
def PlOk (K : PySem.W.Frag) (M H : Hp) (ρ : Env) (σ : L2.St) (x : Pl) (v : V) : Prop := ∃ p d a e b, ρ[x.1]? = some (some (.q p, d)) ∧ σ[x.1]? = some (some (.ref a)) ∧ qU d x.2 = some e ∧ Way K M H a x.2 b ∧ v = .ref b
section
variable {K : PySem.W.Frag} {B : Bx} {w : WX} {M W H : Hp} {ρ ρ' : Env} {σ : L2.St} {i : Nat} {c f : Str} {C : Addr} {t tn : TE} {r : RPl} {rn : RE} {tA : TA} {rA : RA} {v : V} {x : Pl} {d e : D}
theorem PlOk.open (s : St K B M W H ρ σ) (h : PlOk K M H ρ σ x v) : ∃ p d a e b F1 G F2, ρ[x.1]? = some (some (.q p, d)) ∧ σ[x.1]? = some (some (.ref a)) ∧ qU d x.2 = some e ∧ v = .ref b ∧ Way K M H a x.2 b ∧ TrO K M H a d (F1 ++ (G ++ F2)) ∧ (F1 ++ (G ++ F2)).Nodup ∧ TrO K M H b e G ∧ (∀ y ∈ F1 ++ (G ++ F2), W y = none ∧ Apart K M H (ρ.set x.1 none) σ y) ∧
  ∀ (H' : Hp) (e' : D) (G' : List Addr), (∀ y ∈ F1 ++ F2, ∀ o, H y = some o → H' y = some o) → TrO K M H' b e' G' → TrO K M H' a (Xu d x.2 e') (F1 ++ (G' ++ F2)) := by
 obtain ⟨p, d, a, e, b, h1, h2, h3, h4, rfl⟩ := h
 obtain ⟨a', F, q1, t1, t2, t3, _, t5⟩ := s.tree h1
 rw [h2] at q1; cases q1
 obtain ⟨b', F1, G, F2, rfl, g1, g2, g3⟩ := t1.path h3
 have := Way.det s.mh t1 h3 (fun _ _ => rfl) (Same.refl _) s.mh h4 g2
 subst this
 exact ⟨p, d, a, e, b, F1, G, F2, h1, h2, h3, rfl, h4, t1, t2, g1, fun y hy => ⟨t3 y hy, t5 y hy⟩, g3⟩
theorem TrCs.len : ∀ {vs : List V} {ds : List D} {F : List Addr}, TrCs K M H vs ds F → vs.length = ds.length
 | _, _, _, .nil => rfl
 | _, _, _, .cons _ t => by rw [List.length_cons, List.length_cons, t.len]
end
end Vm
namespace Vm
open PySem PySem.Spec PyProof.Rows L2 Fz
section
variable {K : PySem.W.Frag} {B : Bx} {w : WX} {M W H M2 W2 H2 : Hp} {ρ ρ2 : Env} {σ : L2.St} {i : Nat} {p : Bool} {t tn tv : TE} {r : RPl} {rn rv : RE} {tA : TA} {rA : RA} {v : V} {x : Pl} {d e : D} {ds : List D}
theorem PlOk.after (s1 : St K B M W H ρ σ) (h1 : PlOk K M H ρ σ x v) (hr : ρ[x.1]? = some (some (.q p, d))) (sm : Same M M2) (s2 : St K B M2 W2 H2 ρ2 σ) (hr2 : ρ2[x.1]? = some (some (.q p, d))) (kp : ∀ a F, σ[x.1]? = some (some (.ref a)) → TrO K M H a d F → ∀ y ∈ F, H2 y = H y) : PlOk K M2 H2 ρ2 σ x v := by
 obtain ⟨p', d', a, e', b, F1, G, F2, q1, q2, q3, rfl, q4, q5, q6, q7, q8, q9⟩ := h1.open s1
 rw [hr] at q1; cases q1
 obtain ⟨a3, F3, z1, z2, _⟩ := s2.tree hr2
 rw [q2] at z1; cases z1
 obtain ⟨b3, G1, G2, G3, _, _, z3, _⟩ := z2.path q3
 have := Way.det s1.mh q5 q3 (kp a _ q2 q5) sm s2.mh q4 z3
 subst this
 exact ⟨p, d, a, e', b, hr2, q2, q3, z3, rfl⟩
theorem PlOk.list (s : St K B M W H ρ σ) (h : PlOk K M H ρ σ x v) (hr : ρ[x.1]? = some (some (.q p, d))) (hn : qU d x.2 = some (.list ds)) (hf : jP ds = true) : ∃ b xs, v = .ref b ∧ H b = some (.lst xs) ∧ Rps K M xs ds ∧
  ∀ (xs' : List V) (ds' : List D), Rps K M xs' ds' → jP ds' = true → St K B M W (upd H b (.lst xs')) (ρ.set x.1 (some (.q p, Xu d x.2 (.list ds')))) σ := by
 obtain ⟨p', d', a, e', b, F1, G, F2, q1, q2, q3, rfl, q4, q5, q6, q7, q8, q9⟩ := h.open s
 rw [hr] at q1; cases q1
 rw [hn] at q3; cases q3
 cases q7 with
 | lst h t =>
  obtain ⟨rp, rfl⟩ := t.flat hf
  refine ⟨b, _, rfl, h, rp, fun xs' ds' hx hf' => ?_⟩
  have hb : ∀ y ∈ F1 ++ F2, y ≠ b := fun y hy z => by
   subst z
   rw [List.nodup_append] at q6
   obtain ⟨n1, n2, n3⟩ := q6
   rcases List.mem_append.mp hy with hy | hy
   ·exact n3 y hy y (by simp) rfl
   ·have n2 : (y :: ([] ++ F2)).Nodup := n2
    rw [List.nodup_cons] at n2
    exact n2.1 hy
  have tr := q9 (upd H b (.lst xs')) (.list ds') [b] (fun y hy o e => by rw [upd_ne (hb y hy)]; exact e) (.lst upd_same (TrCs.ofFlat hx hf'))
  exact s.turnQ hr q2 q5 (by simp) tr q6 fun y hy => .inl hy
end
end Vm
namespace Vm
open PySem PySem.Spec PyProof.Rows L2 Fz
end Vm
namespace Vm
open PySem PySem.Spec PyProof.Rows L2 Fz
end Vm
namespace Vm
open PySem PySem.Spec PyProof.Rows L2 Fz
end Vm
namespace Vm
open PySem PySem.Spec PyProof.Rows L2 Fz
def zbr : List (D × D) → Bool
 | (.none, _) :: _ => true
 | _ => false
section
variable {K : PySem.W.Frag} {B : Bx} {w : WX} {M W H M2 W2 H2 : Hp} {ρ ρ2 : Env} {σ : L2.St} {i : Nat} {p : Bool} {t tn tv : TE} {r : RE} {rp : RPl} {rn rv : RE} {tA : TA} {rA : RA} {v : V} {x : Pl} {d e : D} {ds : List D} {kds : List (D × D)}
theorem PlOk.dict (s : St K B M W H ρ σ) (h : PlOk K M H ρ σ x v) (hr : ρ[x.1]? = some (some (.q p, d))) (hn : qU d x.2 = some (.dict kds)) (hi : zbr kds = false) (hf : jP (kds.map (·.2)) = true) : ∃ b kvs, v = .ref b ∧ H b = some (.dK kvs) ∧
  St K B M W (upd H b (.dK [])) (ρ.set x.1 (some (.q p, Xu d x.2 (.dict [])))) σ := by
 obtain ⟨p', d', a, e', b, F1, G, F2, q1, q2, q3, rfl, q4, q5, q6, q7, q8, q9⟩ := h.open s
 rw [hr] at q1; cases q1
 rw [hn] at q3; cases q3
 cases q7 with
 | dic h ek t =>
  obtain ⟨rp, rfl⟩ := t.flat hf
  refine ⟨b, _, rfl, h, ?_⟩
  have hb : ∀ y ∈ F1 ++ F2, y ≠ b := fun y hy z => by
   subst z
   rw [List.nodup_append] at q6
   obtain ⟨n1, n2, n3⟩ := q6
   rcases List.mem_append.mp hy with hy | hy
   ·exact n3 y hy y (by simp) rfl
   ·have n2 : (y :: ([] ++ F2)).Nodup := n2
    rw [List.nodup_cons] at n2
    exact n2.1 hy
  have tr := q9 (upd H b (.dK [])) (.dict []) [b] (fun y hy o e => by rw [upd_ne (hb y hy)]; exact e) (.dic upd_same rfl .nil)
  exact s.turnQ hr q2 q5 (by simp) tr q6 fun y hy => .inl hy
 | ins h h2 h3 e t => exact nomatch hi
end
end Vm
namespace Vm
open PySem PySem.Spec PyProof.Rows L2 Fz
inductive AlV (K : PySem.W.Frag) (H : Hp) : V → V → Prop
 | fl {u : V} : flatB u = true → AlV K H u u
 | dc {a b : Addr} {ks ls : List (Key × V)} : Rd H a (.dK ks) → Rd H b (.dK ls) → ks.length = ls.length → (∀ p ∈ ks, valV ls p.1 = some p.2 ∧ flatB p.2 = true) → AlV K H (.ref a) (.ref b)
 | ls {a b : Addr} {xs : List V} : SqL K H a xs → SqL K H b xs → (∀ x ∈ xs, flatB x = true) → AlV K H (.ref a) (.ref b)
theorem yM {κ : Type} [DecidableEq κ] {P : Program} {w : World} {A : Around} {s : Shared} {kb : List (κ × Value)} : ∀ {ka : List (κ × Value)} {b : Bool}, PySem.W.KeqHits A s kb ka b → PySem.W.KeqHitsIn P w A s kb ka b
 | _, _, .nil => .nil
 | _, _, .miss h => .miss h
 | _, _, .hit h e t => .hit h (e.inModel P w) (yM t)
theorem KJ {P : Value → Value → Prop} : ∀ {vs : List V} {xs ys : List Value}, Vals vs xs → Vals vs ys → (∀ v ∈ vs, ∀ x y, RelV v x → RelV v y → P x y) → ∀ z ∈ xs.zip ys, P z.1 z.2
 | _, _, _, .nil, .nil, _, z, hz => nomatch hz
 | _, _, _, .cons h t, .cons g u, k, z, hz => by
  rcases List.mem_cons.mp hz with rfl | hz
  ·exact k _ List.mem_cons_self _ _ h g
  ·exact KJ t u (fun v hv => k v (List.mem_cons_of_mem _ hv)) z hz
theorem AlV.eq {X : Cx} {pins : List (Addr × Obj)} {σ : L2.St} {H : Hp} {s : Shared} {u v : V} {y x : Value} {A : Around} (h : AlV X.K H u v) (I : Inv X pins σ H s) (hu : A.units + 1 < cLine) (ry : RelV u y) (rx : RelV v x) : SeqAt.EqIn X.prog X.w A s y x true := by
 cases h with
 | fl h => exact (eqAt_same ry rx h).inModel _ _
 | dc ea eb hl hp =>
  rename_i a b ks ls
  cases (show y = Value.ref a from ry)
  cases (show x = Value.ref b from rx)
  by_cases hab : a = b
  ·subst hab; exact (SeqAt.EqAt.same _).inModel _ _
  ·obtain ⟨_, y1, w1, r1, d1⟩ := (show ObjOk X.prog X.w H s.heap a (.dK ks) from ea.ok I.hok)
   obtain ⟨_, y2, w2, r2, d2⟩ := (show ObjOk X.prog X.w H s.heap b (.dK ls) from eb.ok I.hok)
   have hl : w1.length = w2.length := by rw [← r1.length, ← r2.length]; exact hl
   exact SeqAt.EqIn.of_refs hab fun E Q q => PySem.W.keq_eqIn (knd := mixKind X.prog X.w) (r := true) y1 y2 d1 d2 (by omega) (fun _ => yM (hits_all r2 r1 hp)) (by simpa [hl] using q)
 | ls ea eb hf =>
  rename_i a b xs
  cases (show y = Value.ref a from ry)
  cases (show x = Value.ref b from rx)
  by_cases hab : a = b
  ·subst hab; exact (SeqAt.EqAt.same _).inModel _ _
  ·obtain ⟨i1, r1, p1, _⟩ := I.list ea
   obtain ⟨i2, r2, p2, _⟩ := I.list eb
   have hl : i1.toArray.size = i2.toArray.size := by simp [← r1.length, ← r2.length]
   refine SeqAt.EqIn.of_refs hab fun E Q q => SeqAt.rcIn_lists (e := fun _ => true) p1.isList p2.isList hl (by omega) (fun j h1 h2 => ?_) (by rw [show (List.range i1.toArray.size).all (fun _ => true) = true from List.all_eq_true.mpr fun _ _ => rfl]; exact q)
   have z := KJ (P := fun x y => SeqAt.EqIn X.prog X.w A.in1 s x y true) r1 r2 (fun v hv x y a1 a2 => (eqAt_same a1 a2 (hf v hv)).inModel _ _) (i1.toArray[j], i2.toArray[j]) (by
    have g1 : j < i1.length := by simpa using h1
    have g2 : j < i2.length := by simpa using h2
    have : (i1.zip i2)[j]'(by simp; omega) = (i1.toArray[j], i2.toArray[j]) := by simp
    rw [← this]
    exact List.getElem_mem _)
   exact z
end Vm
namespace Vm
open PySem PySem.Spec PyProof.Rows L2 Fz
end Vm
namespace Vm
open PySem PySem.Spec PyProof.Rows L2 Fz
end Vm
namespace Vm
open PySem PySem.Spec PyProof.Rows L2 Fz
end Vm
namespace Vm
open PySem PySem.Spec PyProof.Rows L2 Fz
end Vm
namespace Vm
open PySem PySem.Spec PyProof.Rows L2 Fz
end Vm
namespace Vm
open PySem PySem.Spec PyProof.Rows L2 Fz
end Vm
namespace Vm
open PySem PySem.Spec PyProof.Rows L2 Fz
end Vm
namespace Vm
open PySem PySem.Spec PyProof.Rows L2 Fz
end Vm
namespace Vm
open PySem PySem.Spec PyProof.Rows L2 Fz
def Z9 : List Int → List Int → Bool
 | [], [] => false
 | [], _ :: _ => true
 | _ :: _, [] => false
 | x :: r, y :: t => decide (x < y) || (!decide (y < x) && Z9 r t)
theorem Vg : ∀ a b : List Int, lexLt itemOrd (a.map Sum.inl) (b.map Sum.inl) = Z9 a b
 | [], [] => rfl
 | [], _ :: _ => rfl
 | _ :: _, [] => rfl
 | x :: r, y :: t => by
  rw [List.map_cons, List.map_cons, lex_cons, Vg r t]
  rfl
abbrev Z4 (p q : List Int) : Bool := !Z9 q p
def QQ : Nat → Bool := fun _ => false
section
variable {ps : List (V × List Int)} {prog : Program} {w : World} {A : Around} {s : Shared}
def zaf (ps : List (V × List Int)) (h : Heap) : Prop := ∀ p ∈ ps, ∃ (b : Addr) (o : PySem.Obj) (xs : List Value) (n : Nat), p.1 = .ref b ∧ h.get? b = some o ∧ o.cls = .type "tuple" ∧ o.data = .seq xs.toArray n ∧ tupItems QQ 0 xs = some (p.2.map Sum.inl) ∧ p.2 ≠ []
theorem YX {h : Heap} (hI : zaf ps h) {p : V × List Int} (hp : p ∈ ps) {b : Addr} (hb : p.1 = .ref b) : (tupKind h QQ).keyOf (.ref b) = some (p.2.map Sum.inl) := by
 obtain ⟨b1, o, xs, n, e1, g, _, d, l, _⟩ := hI p hp
 rw [hb] at e1
 cases e1
 show tupKey h QQ (.ref b) = _
 unfold tupKey
 simp only [g, d]
 exact l
theorem wY {xs : List Value} {i : Int} {r : List Int} (h : tupItems QQ 0 xs = some ((i :: r).map Sum.inl)) : ∃ t ys, xs = .int i t :: ys := by
 cases xs with
 | nil => simp [tupItems] at h
 | cons v ys =>
  cases v with
  | int n t =>
   refine ⟨t, ys, ?_⟩
   unfold tupItems at h
   rw [if_neg (show ¬ QQ 0 = true by decide)] at h
   obtain ⟨z, _, hz⟩ := Option.map_eq_some_iff.mp h
   injection hz with hz _
   injection hz with hz
   rw [hz]
  | str x t =>
   unfold tupItems at h
   rw [if_neg (show ¬ QQ 0 = true by decide)] at h
   exact nomatch h
  | _ => simp [tupItems] at h
theorem yC (hI : zaf ps s.heap) {vs : List Value} (hv : PySem.W.EachIs (fun v p => RelV p.1 v) vs ps) : PySem.W.SortsAt prog w A s (tupKind s.heap QQ) vs := by
 have hm : ∀ v ∈ vs, ∃ p ∈ ps, ∃ b, p.1 = .ref b ∧ v = .ref b := fun v m => by
  obtain ⟨p, hp, hr⟩ := hv.left v m
  obtain ⟨b, _, _, _, e, _⟩ := hI p hp
  rw [e] at hr
  exact ⟨p, hp, b, e, hr⟩
 have hk : ∀ {vs : List Value} {ps' : List (V × List Int)}, (∀ p ∈ ps', p ∈ ps) → PySem.W.EachIs (fun v p => RelV p.1 v) vs ps' → ∃ fs, TupsOf s.heap QQ vs fs := by
  intro vs ps' hsub h
  induction h with
  | nil => exact ⟨[], .nil⟩
  | cons h t ih =>
   rename_i v p vs' ps''
   obtain ⟨fs, i1⟩ := ih fun p hp => hsub p (List.mem_cons_of_mem _ hp)
   obtain ⟨b, o, xs, n, e, g, hc, d, l, k⟩ := hI p (hsub p (List.mem_cons_self ..))
   rw [e] at h
   obtain rfl : v = Value.ref b := h
   obtain ⟨i, r, e2⟩ : ∃ i r, p.2 = i :: r := by
    cases h2 : p.2 with
    | nil => exact absurd h2 k
    | cons i r => exact ⟨i, r, rfl⟩
   rw [e2] at l
   obtain ⟨t, ys, rfl⟩ := wY l
   exact ⟨.int i t :: fs, .cons ⟨b, o, _, n, rfl, g, hc, d, rfl, fun _ => ⟨i, t, rfl⟩, fun z => nomatch z⟩ i1⟩
 refine ⟨fun v m => ?_, tuples' true, fun E x y a b Q hx hy hQ => tup_ltAt true A E x y a b hx hy hQ, fun h2 E Q hQ => ?_⟩
 ·obtain ⟨p, hp, b, h1, rfl⟩ := hm v m
  exact ⟨_, YX hI hp h1⟩
 ·obtain ⟨fs, ht⟩ := hk (fun p hp => hp) hv
  have hl : fs.length = vs.length := by
   have key : ∀ {vs fs : List Value}, TupsOf s.heap QQ vs fs → fs.length = vs.length := fun h => by
    induction h with
    | nil => rfl
    | cons _ _ ih => rw [List.length_cons, List.length_cons, ih]
   exact key ht
  exact tup_kind (by omega) ht hQ
end
theorem KQ : ∀ {ns : List Int} {xs : List Value} (i : Nat), L2.Vals (ns.map V.int) xs → tupItems QQ i xs = some (ns.map Sum.inl)
 | [], _, _, h => by cases h; rfl
 | n :: ns, _, i, h => by
  cases h with
  | cons r1 r2 =>
   obtain ⟨t, rfl⟩ := r1
   unfold tupItems
   rw [if_neg (show ¬ QQ i = true from fun h => Bool.false_ne_true h), KQ (i + 1) r2]
   rfl
def ZD : List D → Option (List Int)
 | [] => some []
 | .int n :: ds => match ZD ds with
  | some ns => some (n :: ns)
  | none => none
 | _ => none
def V9 : List D → Option (List (List Int))
 | [] => some []
 | .tuple (d :: r) :: ds => match ZD (d :: r), V9 ds with
  | some k, some ks => some (k :: ks)
  | _, _ => none
 | _ => none
def yr (l : List (D × List Int)) : List D := (l.mergeSort fun p q => Z4 p.2 q.2).map (·.1)
section
variable {K : PySem.W.Frag} {M H : Hp}
theorem Jl : ∀ {xs : List V} {ds : List D} {ns : List Int}, Rps K M xs ds → ZD ds = some ns → xs = ns.map V.int ∧ ns.length = ds.length
 | _, _, _, .nil, e => by cases e; exact ⟨rfl, rfl⟩
 | _, _, ns, .cons (v := v) (d := d) h r, e => by
  unfold ZD at e
  split at e
  ·rename_i e'; cases e'
  ·rename_i n ds' e'
   cases e'
   split at e
   ·rename_i ns' ek
    cases e
    obtain ⟨h1, h2⟩ := Jl r ek
    cases h
    exact ⟨by rw [List.map_cons, h1], by rw [List.length_cons, List.length_cons, h2]⟩
   ·exact nomatch e
  ·exact nomatch e
end
end Vm
namespace Vm
open PySem PySem.Spec PyProof.Rows L2 Fz
section
variable {K : PySem.W.Frag} {B : Bx} {w : WX} {M W H : Hp} {ρ ρ1 : Env} {σ : L2.St} {i j : Nat} {t : TE} {ts : TS} {rp : RPl} {r : RS}
def Bx.pin (B : Bx) (i : Nat) (a : Addr) : Bx := ⟨B.b, fun k => if k = i then some a else B.p k, B.x, B.t⟩
end
end Vm
namespace Vm
open PySem PySem.Spec PyProof.Rows L2 Fz
def JL (sp : Sp) (k : Hp → Prop) : List (V × List Int) → List (Addr × List Int) → Hp → Prop
 | [], done, H => (∀ p ∈ done, H p.1 = some (.lst (p.2.map V.int))) ∧ k H
 | p :: ps, done, H => sp [p.1] H (fun v H' => ∃ b, v = .ref b ∧ JL sp k ps (done ++ [(b, p.2)]) H') (fun _ _ _ => False)
def v8 (K : PySem.W.Frag) (sp : Sp) (t : TA) : TE := fun σ H Q => t σ H fun vs H1 => ∃ (a : Addr) (ps : List (V × List Int)), vs = [.ref a] ∧ SqL K H1 a (ps.map (·.1)) ∧
 JL sp (fun H2 => ∀ l, H2 l = none → Q (.ref l) (upd H2 l (.lst ((ps.mergeSort fun p q => decide (p.2 ≤ q.2)).map (·.1))))) ps [] H1
theorem Wr {k : Nat} {A : Around} (r : Room (k + 1) A) : Room k A.in1.in1 := ⟨r.hd, by have := r.dp; show A.depth + 3 * k + 5 < _; omega, by have := r.un; show A.units + 1 + 1 + 16 * k + 200 < _; omega⟩
section
variable {X : Cx} {pins : List (Addr × Obj)} {σ : L2.St} {H : Hp} {s : Shared}
theorem yz {f : Addr} {fd : FuncData} {pn : Str} {sp : Sp} {k : Nat} {Q : VK} {u : Value} {v : V} (F : FnOk X.prog X.w X.K X.mg X.base CX0 k f fd [pn] sp) (hr : Room k X.A.in1.in1) (hb : Binds X.K fd [pn] [])
  (I : Inv X pins σ H s) (r : RelV v u) (h : sp [v] H Q (fun _ _ _ => False)) : wpAny (model X.prog X.w) X.A.in1.in1 (call (.ref f) [u]) (EP X pins σ Q) (fun _ _ => False) s := by
 have b := hb s [u] I.kIn rfl
 rw [List.append_nil] at b
 refine wpAny_call (codeAny_mono (F.run X.A.in1.in1 X.stack s H ⟨[u], []⟩ [u] [v] Q _ hr I.env0.in1.in1 b (.cons r .nil) h) fun r s' hq => ?_)
 cases r with
 | error e => exact hq
 | ok fl =>
  cases fl with
  | ret u => exact I.after hq
  | next => exact False.elim hq
  | brk => exact False.elim hq
  | cont => exact False.elim hq
theorem vH {xs : Array Value} {n : Nat} (v : Option Value) : (seqObj "list" xs n).data ≠ .cell v := fun z => nomatch z
theorem Wo {kS a : Addr} {kA kA' : Array Value} {e e1 c : Nat} {g : Heap} (I : Inv X ((kS, seqObj "list" kA e) :: (a, seqObj "list" #[] e1) :: pins) σ H s) (hka : kS ≠ a) (hs : X.s_0.heap.objs.size ≤ kS) (hc : ∀ x c, X.env.cells.lookup x = some c → c ≠ kS)
  (hp : ∀ p ∈ X.pn ++ pins, p.1 ≠ kS) (same : Heap.SameBut kS s.heap g) (hg : g.get? kS = some (seqObj "list" kA' c)) : Inv X ((kS, seqObj "list" kA' c) :: (a, seqObj "list" #[] e1) :: pins) σ H { s with heap := g } := by
 have ik := I.pin (kS, seqObj "list" kA e) (by simp)
 have I1 : Inv X ((a, seqObj "list" #[] e1) :: pins) σ H s := I.pins_of fun p hm => I.pin p (List.mem_append_right _ (List.mem_cons_of_mem _ hm))
 have I2 : Inv X ((a, seqObj "list" #[] e1) :: pins) σ H { s with heap := g, toks := s.toks } := I1.turned (it := kS) (fun b o hb q => (same.2 b hb).trans q) ik.2.1 ik.2.2.1 (.inr hs) hc fun p hm => by
  rcases List.mem_append.mp hm with hm | hm
  ·exact hp p (List.mem_append_left _ hm)
  ·rcases List.mem_cons.mp hm with rfl | hm
   ·exact hka.symm
   ·exact hp p (List.mem_append_right _ hm)
 exact I2.pins_of fun p hm => by
  rcases List.mem_cons.mp hm with rfl | hm
  ·exact ⟨hg, ik.2.1, ik.2.2.1, ik.2.2.2.1, vH⟩
  ·exact I2.pin p (List.mem_append_right _ hm)
theorem vD {kS a : Addr} {kA : Array Value} {e e1 c tk : Nat} {h' : Heap} {out : List Value} {ys : List V} (I : Inv X ((kS, seqObj "list" kA e) :: (a, seqObj "list" #[] e1) :: pins) σ H s) (hs : X.s_0.heap.objs.size ≤ kS) (hsa : X.s_0.heap.objs.size ≤ a)
  (hc : ∀ x c, X.env.cells.lookup x = some c → c ≠ kS ∧ c ≠ a) (hp : ∀ p ∈ X.pn ++ pins, p.1 ≠ kS ∧ p.1 ≠ a) (kp : PySem.W.KeepsBut a (PySem.W.hideAll s.heap [kS]) h') (ha : h'.get? a = some (seqObj "list" out.toArray c)) (r : Vals ys out) (hl : ys.length ≤ sizeLine) :
  Inv X pins σ (upd H a (.lst ys)) { s with heap := h', toks := tk } := by
 have ik := I.pin (kS, seqObj "list" kA e) (by simp)
 have ia := I.pin (a, seqObj "list" #[] e1) (by simp)
 have keep : ∀ b o, b ≠ a → b ≠ kS → s.heap.get? b = some o → h'.get? b = some o := fun b o h1 h2 q => kp b o h1 (PySem.W.hideAll_get _ q (by simpa using h2))
 have I1 : Inv X pins σ H s := I.pins_of fun p hm => I.pin p (List.mem_append_right _ (List.mem_cons_of_mem _ (List.mem_cons_of_mem _ hm)))
 have nh : ∀ {b : Addr} {u : HO}, H b = some u → b ≠ a ∧ b ≠ kS := fun {b u} q => ⟨fun z => by rw [z, ia.2.1] at q; exact (nomatch q), fun z => by rw [z, ik.2.1] at q; exact (nomatch q)⟩
 have nc : ∀ {b : Addr}, b ∉ [a, kS] → b ≠ a ∧ b ≠ kS := fun {b} h => ⟨fun z => h (by simp [z]), fun z => h (by simp [z])⟩
 refine I1.step (g' := s.gens) (d' := s.drawn) (t' := tk) (ch := [a, kS]) (fun b hb => ?_) (fun b o _ _ h3 q _ => keep b o (nc h3).1 (nc h3).2 q) (fun b o _ _ h3 q _ => ⟨o.slots, keep b o (nc h3).1 (nc h3).2 q⟩)
  (fun b o h3 _ n => by rw [upd_ne (nc h3).1]; exact n) (fun b o h3 q => ⟨o, keep b o (nc h3).1 (nc h3).2 q⟩) (fun b xs q => by rw [upd_ne (nh q).1]; exact q) (fun b o u q => by rw [upd_ne (nh q).1]; exact q) (fun b ps q => ⟨#[], by rw [upd_ne (nh q).1, q]; simp⟩) (fun m hm => ?_) (fun b u q => ?_) I1.bare
 ·rcases List.mem_cons.mp hb with rfl | hb
  ·exact ⟨.inr hsa, ia.2.2.1, fun x c q => (hc x c q).2, fun p q => (hp p q).2⟩
  ·rw [List.mem_singleton.mp hb]
   exact ⟨.inr hs, ik.2.2.1, fun x c q => (hc x c q).1, fun p q => (hp p q).1⟩
 ·obtain ⟨o, es, ep, ho, r⟩ := hm
  exact ⟨o, es, ep, keep _ o (Ne.symm ia.2.2.1) (Ne.symm ik.2.2.1) ho, r⟩
 ·by_cases hb : b = a
  ·subst hb
   rw [upd_same] at q; cases q
   exact ⟨hl, out, c, r, ha⟩
  ·rw [upd_ne hb] at q
   refine (I1.hok b u q).stay (fun c v hc q' => ?_) (fun c q' => by rw [upd_ne (nh q').1]; exact q') fun c xs q' => by rw [upd_ne (nh q').1]; exact q'
   rcases hc with rfl | hc
   ·exact keep _ _ hb (nh q).2 q'
   ·exact keep _ _ (nh hc).1 (nh hc).2 q'
theorem jt {h : Heap} : ∀ {ns : List Int} {its : List Value}, Vals (ns.map V.int) its → ReadsAll h its (ns.map PyData.int) []
 | [], _, r => by
  have r' : Vals [] _ := r
  cases r'
  exact .nil
 | n :: ns, _, r => by
  have r' : Vals (V.int n :: ns.map V.int) _ := r
  cases r' with
  | cons h1 h2 =>
   obtain ⟨t, rfl⟩ := h1
   exact .cons (as := []) (bs := []) (.int n t) (jt h2)
theorem Jc {h : Heap} : ∀ {done : List (Addr × List Int)}, (∀ p ∈ done, ∃ as, Reads h (.ref p.1) (.list (p.2.map PyData.int)) as) → PySem.W.EachIs (fun v k => ∃ as, Reads h v k as) (done.map fun p => Value.ref p.1) ((done.map (·.2)).map fun ns => PyData.list (ns.map PyData.int))
 | [], _ => .nil
 | p :: done, h => .cons (h p List.mem_cons_self) (Jc fun q hq => h q (List.mem_cons_of_mem _ hq))
abbrev JN (p : V × List Int) : PyData := .list (p.2.map PyData.int)
theorem vq (p : V × List Int) : (JN p).depth = 1 := by
 show (PyData.list (p.2.map PyData.int)).depth = 1
 rw [PyData.depth, PySem.W.depth_ints]
theorem vI (p q : V × List Int) : PySem.W.alike (JN p) (JN q) = true := by
 show PySem.W.alike (.list (p.2.map PyData.int)) (.list (q.2.map PyData.int)) = true
 unfold PySem.W.alike
 exact PySem.W.alike_ints _ _
theorem VP {f : Addr} {fd : FuncData} {pn x : Str} {sp : Sp} {k k0 : Nat} {e : Expr} {t : TA} {p p1 kpos pos : Pos} (F : FnOk X.prog X.w X.K X.mg X.base CX0 k f fd [pn] sp) (hr : Room k0 X.A) (hr2 : Room k X.A.in1.in1) (hb : Binds X.K fd [pn] [])
  (hg : Gl X "sorted") (hmg : X.mg "sorted" = none) (hgx : Gl X x) (hmx : X.mg x = some (.ref f)) (ha : PA X [e] t) (hdb : (x == ("__debug__" : Str)) = false := by decide)
  (he : backTo pos (starEach [e] X.env) = (false, eval e X.env) :: backTo pos (starEach [] X.env) := by rfl) (hpl : (backTo pos (starEach [e] X.env)).any (·.1) = false := by rfl) :
  PE X (.Call (.Name "sorted" p) [e] [⟨some "key", .Name x p1, kpos⟩] pos) (v8 X.K sp t) := by
 refine ⟨fun pins s σ H Q I h => ?_⟩
 refine wpAny_Call_Name_kw (ld_blt (u := .builtin "sorted") I hg hmg (by decide +kernel) ?_ (by decide) (by decide))
 refine PyProof.Rows.callWith_kw (thn (ha.run pos pins s σ H _ I h) fun us s1 ⟨vs, H1, I1, r1, a, ps, ev, hS, q⟩ => ?_) he hpl rfl rfl
 show wpAny _ _ (evalAll ((do let v ← eval (.Name x p1) X.env; standAt pos; pure v) :: [])) _ _ s1
 subst ev
 obtain rfl := Vals.ref1 r1
 refine wpAny_evalAll_cons (wpAny_bind (ld_glob I1 hgx hmx (wpAny_bind (wpAny_standAt (wpAny_pure (wpAny_evalAll_nil ?_)))) hdb))
 show wpAny _ _ (call (.builtin "sorted") [.ref a] [(Str.ofString "key", .ref f)]) _ _ s1
 obtain ⟨its, rv, hl, hz⟩ := I1.list hS
 have hlp : its.length = ps.length := by rw [← rv.length, List.length_map]
 have hzl : its.length ≤ sizeLine := by rw [← rv.length]; exact hz
 have hun := hr.un
 have hv := xZ (g := fun p : V × List Int => p.1) rv
 refine PySem.W.sorted_of_sort hl.isList hzl (PyProof.Rows.ksk_s1 _ _) (fun _ => PyProof.Rows.ksk_l1 _ _) fun E' => ?_
 rw [PyProof.Rows.ksk_t1]
 generalize hD : s1.heap.objs.size + 1 = D
 have ho : (PySem.W.copyHeap s1.heap its).get? D = some (seqObj "list" its.toArray 0) := by rw [← hD]; exact PySem.W.copyHeap_at _ _
 have hDl : D < (PySem.W.copyHeap s1.heap its).objs.size := Heap.lt_size ho
 obtain ⟨e1, ho1⟩ : ∃ e1, ((PySem.W.copyHeap s1.heap its).update D (Obj.mapSeq fun _ => (#[] : Array Value))).get? D = some (seqObj "list" #[] e1) := ⟨_, get?_update_seq ho fun _ => #[]⟩
 generalize hkS : (((PySem.W.copyHeap s1.heap its).update D (Obj.mapSeq fun _ => (#[] : Array Value))).push (seqObj "tuple" its.toArray 0)).objs.size = kS
 have hkS2 : kS = (PySem.W.copyHeap s1.heap its).objs.size + 1 := by rw [← hkS, size_push', Heap.size_update]
 unfold PyProof.Rows.ksk_tree
 refine wpAny_bind (listItems_at (s := { s1 with heap := PySem.W.copyHeap s1.heap its }) ho rfl ?_)
 refine wpAny_bind (listUpdate_at (s := { s1 with heap := PySem.W.copyHeap s1.heap its }) ho rfl ?_ (by rw [List.size_toArray]; exact hzl) (Nat.zero_le _))
 refine wpAny_bind (seqEpoch_at ho1 rfl ?_)
 refine wpAny_bind (wpAny_newTuple ?_ (by show its.length ≤ _; exact hzl))
 refine wpAny_bind (wpAny_newList ?_ (Nat.zero_le _))
 refine wpAny_holding ?_
 show wpAny (model X.prog X.w) X.A.in1.in1 (PyProof.Rows.ksk_rest D (.ref f) false its.toArray e1 (.ref (((PySem.W.copyHeap s1.heap its).update D (Obj.mapSeq fun _ => (#[] : Array Value))).push (seqObj "tuple" its.toArray 0)).objs.size)) _ _ { s1 with heap := PySem.W.sortingHeap (PySem.W.copyHeap s1.heap its) D its }
 rw [hkS]
 have old : ∀ b o, s1.heap.get? b = some o → (PySem.W.sortingHeap (PySem.W.copyHeap s1.heap its) D its).get? b = some o := fun b o q => PySem.W.sortingHeap_old (by rw [← hD]; exact Nat.ne_of_lt (Nat.lt_succ_of_lt (Heap.lt_size q))) (PySem.W.copyHeap_old q)
 have gk : (PySem.W.sortingHeap (PySem.W.copyHeap s1.heap its) D its).get? kS = some (seqObj "list" #[] 0) := by rw [← hkS]; exact Heap.get?_push_size _ rfl
 have ga : (PySem.W.sortingHeap (PySem.W.copyHeap s1.heap its) D its).get? D = some (seqObj "list" #[] e1) := Heap.get?_push_of_some _ (Heap.get?_push_of_some _ ho1)
 have hka : kS ≠ D := by rw [hkS2]; exact Nat.ne_of_gt (Nat.lt_succ_of_lt hDl)
 have sD : s1.heap.objs.size ≤ D := by rw [← hD]; exact Nat.le_succ _
 have skS : s1.heap.objs.size ≤ kS := by rw [hkS2]; omega
 have I2 : Inv X pins σ H1 { s1 with heap := PySem.W.sortingHeap (PySem.W.copyHeap s1.heap its) D its, toks := s1.toks } := I1.kept old
 have cl : ∀ x c, X.env.cells.lookup x = some c → c < s1.heap.objs.size := fun x c q => by
  obtain ⟨v, o, g1, _⟩ := I1.cell x c q
  exact Heap.lt_size g1
 have pl : ∀ p ∈ X.pn ++ pins, p.1 < s1.heap.objs.size := fun p q => Heap.lt_size (I1.pin p q).1
 have I3 : Inv X ((kS, seqObj "list" #[] 0) :: (D, seqObj "list" #[] e1) :: pins) σ H1 { s1 with heap := PySem.W.sortingHeap (PySem.W.copyHeap s1.heap its) D its, toks := s1.toks } := I2.pins_of fun p hm => by
  rcases List.mem_cons.mp hm with rfl | hm
  ·exact ⟨gk, I1.hok.fresh skS, Nat.ne_of_gt (Nat.lt_of_lt_of_le I1.lt skS), I1.nofs skS, vH⟩
  ·rcases List.mem_cons.mp hm with rfl | hm
   ·exact ⟨ga, I1.hok.fresh sD, Nat.ne_of_gt (Nat.lt_of_lt_of_le I1.lt sD), I1.nofs sD, vH⟩
   ·exact I2.pin p (List.mem_append_right _ hm)
 unfold PyProof.Rows.ksk_rest
 refine wpAny_bind (wpAny_rule ?_)
 first
  | rw [List.forIn_toArray]
  | (rw [← Array.forIn_toList]; simp only [List.toList_toArray])
  | rw [← Array.forIn_toList]
 refine wpAny_bind (PyProof.Rows.ksk_fold (fun i s' => ∃ H' kA e done, Inv X ((kS, seqObj "list" kA e) :: (D, seqObj "list" #[] e1) :: pins) σ H' s' ∧ kA.toList = done.map (fun p => Value.ref p.1) ∧ done.map (·.2) = (ps.take i).map (·.2) ∧
  JL sp (fun H2 => ∀ l, H2 l = none → Q (.ref l) (upd H2 l (.lst ((ps.mergeSort fun p q => decide (p.2 ≤ q.2)).map (·.1))))) (ps.drop i) done H') its 0 _ ⟨H1, #[], 0, [], I3, rfl, by rw [List.take_zero]; rfl, by rw [List.drop_zero]; exact q⟩ ?step ?done)
 case step =>
  rintro j x s' hx ⟨H', kA, e, done, I', hkA, hdn, hk⟩
  simp only [Nat.zero_add] at hdn hk ⊢
  have hj : j < its.length := (List.getElem?_eq_some_iff.mp hx).1
  have hjp : j < ps.length := by omega
  rw [List.drop_eq_getElem_cons hjp] at hk
  have hrel : RelV (ps[j]).1 x := by
   have : (x, ps[j]) ∈ its.zip ps := List.mem_of_getElem? (i := j) (by rw [List.getElem?_zip_eq_some]; exact ⟨hx, List.getElem?_eq_getElem hjp⟩)
   exact hv.zip _ this
  have hln : kA.size ≤ its.length := by
   have h1 := congrArg List.length hkA
   have h2 := congrArg List.length hdn
   rw [Array.length_toList, List.length_map] at h1
   rw [List.length_map, List.length_map, List.length_take] at h2
   omega
  refine wpAny_bind (wpAny_attempt (wpAny_mono (yz F hr2 hb I' hrel hk) (fun v s'' he => ?_) fun _ _ hF => hF.elim))
  obtain ⟨y, H'', I'', rv', b, rfl, hk'⟩ := he
  obtain rfl : v = Value.ref b := rv'
  have nk := (I''.pin (kS, seqObj "list" kA e) (by simp)).1
  have s1' := Heap.SameBut.update s''.heap kS (Obj.mapSeq (·.push (Value.ref b)))
  obtain ⟨c2, hc2⟩ : ∃ c2, (s''.heap.update kS (Obj.mapSeq (·.push (Value.ref b)))).get? kS = some (seqObj "list" (kA.push (Value.ref b)) c2) := ⟨_, get?_update_seq nk (·.push (Value.ref b))⟩
  refine wpAny_bind (listUpdate_at nk rfl ?_ (Nat.le_trans hln hzl) (Nat.le_trans (Nat.le_of_eq (Array.size_push ..)) (Nat.succ_le_succ (Nat.le_trans hln hzl))))
  refine wpAny_pure ⟨rfl, H'', kA.push (Value.ref b), c2, done ++ [(b, (ps[j]).2)], Wo I'' hka (Nat.le_trans I1.sz skS) (fun x c q => Nat.ne_of_lt (Nat.lt_of_lt_of_le (cl x c q) skS)) (fun p q => Nat.ne_of_lt (Nat.lt_of_lt_of_le (pl p q) skS)) s1' hc2, ?_, ?_, hk'⟩
  ·rw [Array.toList_push, hkA, List.map_append]; rfl
  ·rw [List.take_add_one, List.getElem?_eq_getElem hjp, List.map_append, List.map_append, hdn]; rfl
 case done =>
  rintro s' ⟨H', kA, e, done, I', hkA, hdn, hk⟩
  rw [Nat.zero_add, List.drop_eq_nil_of_le (by omega)] at hk
  rw [Nat.zero_add, List.take_of_length_le (by omega)] at hdn
  obtain ⟨hdone, hQ⟩ := hk
  have nk := (I'.pin (kS, seqObj "list" kA e) (by simp)).1
  have na := (I'.pin (D, seqObj "list" #[] e1) (by simp))
  have hk' : PySem.W.EachIs (fun v k => ∃ as, Reads s'.heap v k as) kA.toList (ps.map JN) := by
   have := Jc (h := s'.heap) (done := done) fun p hp => by
    obtain ⟨_, its2, n2, r2, g2⟩ := I'.hok _ _ (hdone p hp)
    exact ⟨_, .list g2 rfl rfl (jt r2)⟩
   rw [hkA]
   rw [hdn, List.map_map] at this
   exact this
  have hal : PySem.W.AllAlike (ps.map JN) := PySem.W.AllAlike.of vI
  have hsk : PySem.W.Sortable (ps.map JN) := PySem.W.Sortable.others fun _ => ⟨(fun z => nomatch z), (fun _ z => nomatch z)⟩
  have hsz : kA.size = its.length := by
   have h1 := hk'.length
   rw [Array.length_toList, List.length_map] at h1
   omega
  try dsimp only
  refine wpAny_bind (listItems_at nk rfl ?_)
  refine PySem.W.keyH_end (κ := PySem.W.dataKind s'.heap (ps.map JN)) (h₁ := PySem.W.hideAll s'.heap [kS]) (fun b o _ q => PySem.W.of_hideAll [kS] q) (PySem.W.hideAll_none [kS] (List.mem_singleton.mpr rfl)) nk na.1 hka (PySem.W.SortsAt.data (s := s') hk' hal hsk fun d hd => ?_) hsz hzl fun h' tk c kp hD' => ⟨rfl, ?_⟩
  ·obtain ⟨p, _, rfl⟩ := List.mem_map.mp hd
   rw [vq]
   have := hr2.un
   omega
  ·have hO := PySem.W.keyedOut_each (R := fun v (p : V × List Int) => RelV p.1 v) JN (rev := false) ⟨s'.heap, kA.toList, hal, rfl, hk'⟩ hv
   rw [show PySem.W.dataLe false JN = fun p q => decide (p.2 ≤ q.2) from PySem.W.dataLe_rows (fun p : V × List Int => p.2)] at hO
   have hvo := Xb hO
   refine ⟨.ref D, _, vD (tk := tk) I' (Nat.le_trans I1.sz skS) (Nat.le_trans I1.sz sD) (fun x c q => ⟨Nat.ne_of_lt (Nat.lt_of_lt_of_le (cl x c q) skS), Nat.ne_of_lt (Nat.lt_of_lt_of_le (cl x c q) sD)⟩)
    (fun p q => ⟨Nat.ne_of_lt (Nat.lt_of_lt_of_le (pl p q) skS), Nat.ne_of_lt (Nat.lt_of_lt_of_le (pl p q) sD)⟩) kp hD' hvo (by rw [List.length_map, List.length_mergeSort, ← hlp]; exact hzl), rfl, hQ D na.2.1⟩
end
def Xq (m : List (Fg × D) → zY) (d : D) : Option (List Int) := match m [(.f, d)] with
 | .ok (.ow _ (.list ks)) [_] => ZD ks
 | .ok (.fz (.list ks)) [_] => ZD ks
 | _ => none
def Q7 (m : List (Fg × D) → zY) : List D → Option (List (List Int))
 | [] => some []
 | d :: ds => match Xq m d, Q7 m ds with
  | some k, some ks => some (k :: ks)
  | _, _ => none
def ye (l : List (D × List Int)) : List D := (l.mergeSort fun p q => decide (p.2 ≤ q.2)).map (·.1)
def qN (m : List (Fg × D) → zY) : D → Option Rz
 | .list ds => match Q7 m ds with
  | some ks => some (.ow false (.list (ye (ds.zip ks))))
  | none => none
 | _ => none
section
variable {K : PySem.W.Frag} {M W H : Hp} {B : Bx} {ρ : Env} {σ : L2.St}
theorem wD {v : V} {ks : List D} {ns : List Int} (h : Rp K M v (.list ks)) (e : ZD ks = some ns) : ∃ b, v = .ref b ∧ M b = some (.lst (ns.map V.int)) := by
 cases h with
 | lst hm hr =>
  obtain ⟨rfl, _⟩ := Jl hr e
  exact ⟨_, rfl, hm⟩
theorem Jx {m : List (Fg × D) → zY} {k : Hp → Prop} : ∀ {ts : List (V × D × List Int)} {done : List (Addr × List Int)} {M W H : Hp}, St K B M W H ρ σ → (∀ t ∈ ts, Rp K M t.1 t.2.1) → (∀ t ∈ ts, Xq m t.2.1 = some t.2.2) → (∀ p ∈ done, M p.1 = some (.lst (p.2.map V.int))) →
  (∀ M' W' H', Gr M W M' W' → St K B M' W' H' ρ σ → k H') → JL (spM K B.t m) k (ts.map fun t => (t.1, t.2.2)) done H
 | [], done, M, W, H, s, _, _, hd, kk => ⟨fun p hp => s.mh _ _ (hd p hp), kk M W H (Gr.refl _ _) s⟩
 | (x, d, ns) :: ts, done, M, W, H, s, hr, hk, hd, kk => by
  have hx : Rp K M x d := hr _ List.mem_cons_self
  have hm : Xq m d = some ns := hk _ List.mem_cons_self
  have E : Ent K B M W H ρ σ [false] [.fz d] [x] [(.f, d)] := ⟨s, ⟨hx, trivial, fun _ _ z => nomatch z⟩, rfl, rfl, rfl⟩
  have hm2 : ∃ z y ks, m [(.f, d)] = .ok z [y] ∧ (z = .fz (.list ks) ∨ ∃ u, z = .ow u (.list ks)) ∧ ZD ks = some ns := by
   unfold Xq at hm
   split at hm
   ·rename_i u ks y e
    exact ⟨_, _, _, e, .inr ⟨u, rfl⟩, hm⟩
   ·rename_i ks y e
    exact ⟨_, _, _, e, .inl rfl, hm⟩
   ·exact nomatch hm
  obtain ⟨z, y, ks, e, hz, ei⟩ := hm2
  refine ⟨[(.f, d)], _, M, E.enter, ?_⟩
  rw [e]
  intro v M' W' H' gr s' hv
  obtain ⟨W'', g3, s3, f3⟩ := E.leave (ρ2 := ρ) gr s' rfl
  have hv := f3 z v hv
  obtain ⟨M2, W2, g2, s2, r2⟩ : ∃ M2 W2, Gr M' W'' M2 W2 ∧ St K B M2 W2 H' ρ σ ∧ Rp K M2 v (.list ks) := by
   rcases hz with rfl | ⟨u, rfl⟩
   ·exact ⟨M', W'', Gr.refl _ _, s3, hv⟩
   ·obtain ⟨M2, W2, g2, s2, r2, _⟩ := qJ (ρ := ρ) (ρ' := ρ) (d := .list ks) s3 hv rfl
    exact ⟨M2, W2, g2, s2, r2⟩
  obtain ⟨b, rfl, hb⟩ := wD r2 ei
  have g4 := g3.trans g2
  refine ⟨b, rfl, Jx s2 (fun t ht => (hr t (List.mem_cons_of_mem _ ht)).mono g4.m) (fun t ht => hk t (List.mem_cons_of_mem _ ht)) (fun p hp => ?_) fun M' W' H' g s => kk M' W' H' (g4.trans g) s⟩
  rcases List.mem_append.mp hp with hp | hp
  ·exact g4.m _ _ (hd p hp)
  ·rw [List.mem_singleton.mp hp]; exact hb
theorem Jv {m : List (Fg × D) → zY} : ∀ {xs : List V} {ds : List D} {ks : List (List Int)}, Rps K M xs ds → Q7 m ds = some ks → ∃ ts : List (V × D × List Int), ts.map (·.1) = xs ∧ ts.map (fun t => (t.2.1, t.2.2)) = ds.zip ks ∧ ∀ t ∈ ts, Rp K M t.1 t.2.1 ∧ Xq m t.2.1 = some t.2.2
 | _, _, _, .nil, e => by cases e; exact ⟨[], rfl, rfl, fun _ h => nomatch h⟩
 | _, _, ks, .cons (v := v) (d := d) h r, e => by
  unfold Q7 at e
  split at e
  ·rename_i k ks' e1 e2
   cases e
   obtain ⟨ts, h1, h2, h3⟩ := Jv r e2
   refine ⟨(v, d, k) :: ts, by rw [List.map_cons, h1], by rw [List.map_cons, h2]; rfl, fun t ht => ?_⟩
   rcases List.mem_cons.mp ht with rfl | ht
   ·exact ⟨h, e1⟩
   ·exact h3 t ht
  ·exact nomatch e
theorem zay {ts : List (V × D × List Int)} (h : ∀ t ∈ ts, Rp K M t.1 t.2.1) : Rps K M (ts.map (·.1)) (ts.map (·.2.1)) := by
 induction ts with
 | nil => exact .nil
 | cons t ts ih => exact .cons (h t List.mem_cons_self) (ih fun u hu => h u (List.mem_cons_of_mem _ hu))
theorem V4 {m : List (Fg × D) → zY} {w : WX} {tA : TA} {rA : RA} (hA : SA K B w tA rA) : SE K B w (v8 K (spM K B.t m) tA) (rOp (f1 (qN m)) rA) := fun σ H M W ρ Q s k =>
 hA σ H M W ρ _ s (KG.bind k fun ρ1 tps vs M1 W1 H1 _ g1 s1 h1 k1 => by
  cases e : Qc ρ1 tps with
  | none => rw [e] at k1; exact False.elim k1
  | some ds =>
   rw [e] at k1
   dsimp only at k1
   have hr := xq s1 h1 e
   cases e2 : f1 (qN m) ds with
   | none => rw [e2] at k1; exact False.elim k1
   | some z =>
    rw [e2] at k1
    dsimp only at k1
    unfold f1 at e2
    split at e2
    ·rename_i d
     cases hr with
     | cons hv hr =>
      cases hr
      cases d with
      | list l =>
       unfold qN at e2
       dsimp only at e2
       cases ek : Q7 m l with
       | none => rw [ek] at e2; exact nomatch e2
       | some ks =>
        rw [ek] at e2
        cases e2
        cases hv with
        | lst ha hx =>
         rename_i a xs
         obtain ⟨ts, q1, q2, q3⟩ := Jv hx ek
         refine ⟨a, ts.map fun t => (t.1, t.2.2), rfl, ?_, Jx (done := []) s1 (fun t ht => (q3 t ht).1) (fun t ht => (q3 t ht).2) (fun _ h => nomatch h) fun M2 W2 H2 g2 s2 l' hl => ?_⟩
         ·rw [List.map_map]
          exact .inl (.inl (by rw [ha, ← q1]; rfl))
         ·have e1 : ((ts.map fun t => (t.1, t.2.2)).mergeSort fun p q => decide (p.2 ≤ q.2)).map (·.1) = (ts.mergeSort fun p q => decide (p.2.2 ≤ q.2.2)).map (·.1) := by
           rw [← List.map_mergeSort (r := fun p q : V × D × List Int => decide (p.2.2 ≤ q.2.2)) (fun _ _ _ _ => rfl), List.map_map]
           rfl
          have e3 : ye (l.zip ks) = (ts.mergeSort fun p q => decide (p.2.2 ≤ q.2.2)).map (·.2.1) := by
           unfold ye
           rw [← q2, ← List.map_mergeSort (r := fun p q : V × D × List Int => decide (p.2.2 ≤ q.2.2)) (fun _ _ _ _ => rfl), List.map_map]
           rfl
          rw [e3] at k1
          rw [e1]
          generalize hts : (ts.mergeSort fun p q => decide (p.2.2 ≤ q.2.2)) = ts'
          rw [hts] at k1
          have ho : OwnO K M2 false (.lst (ts'.map (·.1))) (.list (ts'.map (·.2.1))) := zay (K := K) (M := M2) fun t ht => ((q3 t (List.mem_mergeSort.mp (by rw [← hts] at ht; exact ht))).1).mono g2.m
          obtain ⟨s3, h3⟩ := s2.newO hl ho
          exact k1 _ M2 W2 _ g2 s3 h3
      | _ => exact nomatch e2
    ·exact nomatch e2)
end
def Vo : List V → Hp → VK → Prop := fun vs H Q => ∃ (d : Addr) (kvs : List (List Key × V)) (nss : List (List Int)), vs = [.ref d] ∧ Rd H d (.dT kvs) ∧ kvs.map (·.1) = nss.map (fun ns => ns.map Sum.inl) ∧ (∀ k ∈ nss, k ≠ []) ∧
 ∀ l bs, H l = none → IsKeys H kvs bs → Q (.ref l) (upd H l (.lst (((bs.zip nss).mergeSort fun p q => Z4 p.2 q.2).map fun p => V.ref p.1)))
theorem yc {H : Hp} : ∀ {kvs : List (List Key × V)} {bs : List Addr} {nss : List (List Int)}, Paired (fun p b => H b = some (.tup (p.1.map kV))) kvs bs → kvs.map (·.1) = nss.map (fun ns => ns.map Sum.inl) → ∀ p ∈ bs.zip nss, H p.1 = some (.tup (p.2.map V.int))
 | _, _, nss, .nil, _, p, h => by simp at h
 | _, _, [], .cons _ _, e, p, h => by simp at h
 | _, _, ns :: nss, .cons (a := kv) (b := b) r t, e, p, h => by
  rw [List.map_cons, List.map_cons] at e
  injection e with e1 e2
  rw [List.zip_cons_cons] at h
  rcases List.mem_cons.mp h with rfl | h
  ·rw [r, e1, List.map_map]; rfl
  ·exact yc t e2 p h
theorem Kv {X : Cx} (hcalm : X.calm = true) : CallR X (.builtin "sorted") Vo := by
 intro pins s σ H vs0 us Q I r h
 obtain ⟨d, kvs, nss, rfl, hd, hks, hne, q⟩ := h
 obtain ⟨u, eu, rx⟩ := vals1 r
 subst eu
 cases rx
 obtain ⟨z, lo, ks, pr, o, es, ep, ho, hx, hdt, he, hn⟩ := (show ObjOk X.prog X.w H s.heap d (.dT kvs) from hd.ok I.hok)
 have l1 : es.size = ks.length := size_of_entries he
 have l2 : kvs.length = ks.length := Paired.length pr
 have l3 : kvs.length = nss.length := by have := congrArg List.length hks; rwa [List.length_map, List.length_map] at this
 have h16 : es.size ≤ sizeLine := by omega
 refine Calls.call_function_entry PyProof.Rows.kind_sorted PyProof.Rows.plain_sorted PyProof.Rows.entry_sorted (PyProof.Rows.args_sorted1 _) ?_
 unfold Builtin.«sorted»
 refine wpAny_bind (m := checkCount "sorted" 1 1 _) (wpAny_pure ?_)
 refine wpAny_bind (PySem.W.kdu_collect (A := X.A.in1) (kdl_raw lo hx hdt) (I.ok.hd hcalm) ho h16 fun h' tk acc hk it => ?_)
 have hl : acc.toList.length = ks.length := by rw [Array.length_toList, it.1]; exact l1
 have ea : acc.toList = ks.map fun x => Value.ref x.2.1 := by
  apply List.ext_getElem?
  intro j
  rw [List.getElem?_map]
  cases hj : acc.toList[j]? with
  | none =>
   have h1 := List.getElem?_eq_none_iff.mp hj
   rw [List.getElem?_eq_none (by omega)]
   all_goals rfl
  | some v =>
   obtain ⟨en, hen, hv⟩ := it.2 j v (by rw [← Array.getElem?_toList]; exact hj)
   have qe := entry_at he j
   rw [hen] at qe
   cases hb : ks[j]? with
   | none =>
    rw [hb] at qe
    exact nomatch (show some en = none from qe)
   | some b =>
    rw [hb] at qe
    have e2 : en = entryOfKey (tupleKind (mixKind X.prog X.w)) b := Option.some.inj qe
    rw [hv, e2]
    all_goals rfl
 generalize hbs : (ks.map fun x => x.2.1) = bs
 have eb : acc.toList = bs.map Value.ref := by rw [ea, ← hbs, List.map_map]; all_goals rfl
 have hkeys : IsKeys H kvs bs := by rw [← hbs]; exact isKeys_of pr
 have lb : bs.length = nss.length := by rw [← hbs, List.length_map]; omega
 have I1 : Inv X pins σ H { s with heap := h', toks := tk } := I.kept hk
 generalize hps : ((bs.zip nss).map fun p => (V.ref p.1, p.2)) = ps
 have hf : ps.map (·.1) = bs.map V.ref := by
  rw [← hps, List.map_map, ← List.map_fst_zip (l₁ := bs) (l₂ := nss) (by omega), List.map_map]
  simp [List.map_fst_zip (l₁ := bs) (l₂ := nss) (by omega)]
 have rv : Vals (ps.map (·.1)) acc.toList := by rw [hf, eb]; exact vals_refs _
 have hv := xZ (g := fun p : V × List Int => p.1) rv
 have hz : acc.toList.length ≤ sizeLine := by omega
 refine wpAny_bind (wpAny_newList ?_ hz)
 have hoL : (h'.push (seqObj "list" acc.toList.toArray 0)).get? h'.objs.size = some (seqObj "list" acc.toList.toArray 0) := Heap.get?_push_size _ rfl
 show wpAny _ _ _ _ _ { s with heap := h'.push (seqObj "list" acc.toList.toArray 0), toks := tk }
 have hI : zaf ps (PySem.W.sortingHeap (h'.push (seqObj "list" acc.toList.toArray 0)) h'.objs.size acc.toList) := fun p m => by
  rw [← hps] at m
  obtain ⟨⟨b, ns⟩, m2, rfl⟩ := List.mem_map.mp m
  have hb := yc hkeys hks _ m2
  obtain ⟨its2, rv2, ⟨o, ho, hc, n, hd⟩, _⟩ := I1.tuple (.inl (.inl hb))
  refine ⟨b, o, its2, n, rfl, PySem.W.sortingHeap_old (Nat.ne_of_lt (Heap.lt_size ho)) (Heap.get?_push_of_some _ ho), hc, hd, KQ 0 rv2, hne _ (List.of_mem_zip m2).2⟩
 refine wpAny_bind (wpAny_holding (wpAny_call_entry slot_list_sort ⟨_, hoL, rfl⟩ entry_list_sort (PySem.W.list_sort_vals (κ := tupKind (PySem.W.sortingHeap (h'.push (seqObj "list" acc.toList.toArray 0)) h'.objs.size acc.toList) QQ) (s := { s with heap := h'.push (seqObj "list" acc.toList.toArray 0), toks := tk }) hoL
  (yC (s := { s with heap := PySem.W.sortingHeap (h'.push (seqObj "list" acc.toList.toArray 0)) h'.objs.size acc.toList, toks := tk }) hI hv) hz ⟨.none, rfl, ?_⟩) (args_list_sort _)))
 have hk2 : PySem.W.EachIs (fun v (p : V × List Int) => (tupKind (PySem.W.sortingHeap (h'.push (seqObj "list" acc.toList.toArray 0)) h'.objs.size acc.toList) QQ).keyOf v = some (p.2.map Sum.inl)) acc.toList ps := (PySem.W.each_mem hv).mono fun v p ⟨hr, hm⟩ => by
  obtain ⟨b, _, _, _, e, _⟩ := hI p hm
  rw [e] at hr
  obtain rfl : v = Value.ref b := hr
  exact YX hI hm e
 have hO := PySem.W.sortVals_each (κ := tupKind (PySem.W.sortingHeap (h'.push (seqObj "list" acc.toList.toArray 0)) h'.objs.size acc.toList) QQ) (rev := false) (fun p : V × List Int => p.2.map Sum.inl) hv hk2
 rw [show PySem.W.sortLe (tupKind (PySem.W.sortingHeap (h'.push (seqObj "list" acc.toList.toArray 0)) h'.objs.size acc.toList) QQ).toKeyOrd false (fun p : V × List Int => p.2.map Sum.inl) = fun p q => Z4 p.2 q.2 from by
  funext p q
  show (!lexLt itemOrd (q.2.map Sum.inl) (p.2.map Sum.inl)) = !Z9 q.2 p.2
  rw [Vg]] at hO
 have hvo := Xb hO
 have eo : (ps.mergeSort fun p q => Z4 p.2 q.2).map (·.1) = ((bs.zip nss).mergeSort fun p q => Z4 p.2 q.2).map fun p => V.ref p.1 := by
  rw [← hps, ← List.map_mergeSort (r := fun p q : Addr × List Int => Z4 p.2 q.2) (s := fun p q : V × List Int => Z4 p.2 q.2) (f := fun p : Addr × List Int => (V.ref p.1, p.2)) (fun _ _ _ _ => rfl), List.map_map]
  rfl
 rw [eo] at hvo
 obtain ⟨c, hcc⟩ := PyProof.Rows.sortedHeap_at (vs := acc.toList) (out := (PySem.W.sortVals (tupKind (PySem.W.sortingHeap (h'.push (seqObj "list" acc.toList.toArray 0)) h'.objs.size acc.toList) QQ) false acc.toList acc.toList).toArray) hoL
 refine wpAny_pure ⟨_, rfl, .ref h'.objs.size, upd H h'.objs.size (.lst (((bs.zip nss).mergeSort fun p q => Z4 p.2 q.2).map fun p => V.ref p.1)), I1.laid (t' := tk) (fun b u e => ?_) (Nat.le_refl _) ⟨by rw [List.length_map, List.length_mergeSort, List.length_zip]; omega, _, c, hvo, hcc⟩, rfl, q _ _ (I1.hok.fresh (Nat.le_refl _)) hkeys⟩
 have hlt := Heap.lt_size e
 rw [PyProof.Rows.sortedHeap_old (Nat.ne_of_lt hlt) (by rw [size_push']; exact Nat.lt_succ_of_lt hlt)]
 exact Heap.get?_push_of_some _ e
def xE : D → Option Rz
 | .dict kds => match V9 (kds.map (·.1)) with
  | some ks => some (.ow false (.list (yr ((kds.map (·.1)).zip ks))))
  | none => none
 | _ => none
def Qv (i : Nat) : RE := fun ρ => match ρ[i]? with
 | some (some (.o true _, .dict kds)) => match xE (.dict kds) with
  | some z => .ok ρ z.tp
  | none => .stk
 | _ => .stk
theorem Jk : ∀ {ks : List Key} {ns : List Int}, ZD (ks.map kD) = some ns → ks = ns.map Sum.inl
 | [], _, e => by cases e; rfl
 | .inl i :: ks, ns, e => by
  have e : (match ZD (ks.map kD) with | some ns => some (i :: ns) | none => none) = some ns := e
  cases h : ZD (ks.map kD) with
  | none => rw [h] at e; exact nomatch e
  | some ns' =>
   rw [h] at e
   cases e
   rw [List.map_cons, Jk h]
 | .inr x :: ks, ns, e => nomatch (show (none : Option (List Int)) = some ns from e)
theorem vf : ∀ {kvs : List (List Key × V)} {nss : List (List Int)}, V9 (kvs.map fun p => PyData.tuple (p.1.map kD)) = some nss → kvs.map (·.1) = nss.map (fun ns => ns.map Sum.inl) ∧ ∀ k ∈ nss, k ≠ []
 | [], _, e => by cases e; exact ⟨rfl, fun _ h => nomatch h⟩
 | ([], _) :: kvs, nss, e => nomatch (show (none : Option (List (List Int))) = some nss from e)
 | (k0 :: ks, v) :: kvs, nss, e => by
  have e : (match ZD ((k0 :: ks).map kD), V9 (kvs.map fun p => PyData.tuple (p.1.map kD)) with | some k, some ks => some (k :: ks) | _, _ => none) = some nss := e
  split at e
  ·rename_i k kk e1 e2
   cases e
   obtain ⟨h1, h2⟩ := vf e2
   have h3 := Jk e1
   refine ⟨by rw [List.map_cons, List.map_cons, h1, ← h3], fun q hq => ?_⟩
   rcases List.mem_cons.mp hq with rfl | hq
   ·rintro rfl
    exact nomatch h3
   ·exact h2 q hq
  ·exact nomatch e
theorem WQ : ∀ {K : PySem.W.Frag} {M : Hp} {bs : List Addr} {ds : List D} {nss : List (List Int)}, Rps K M (bs.map V.ref) ds → nss.length = bs.length → ∃ ts : List (Addr × D × List Int), ts.map (fun t => (t.1, t.2.2)) = bs.zip nss ∧ ts.map (·.2) = ds.zip nss ∧ ∀ t ∈ ts, Rp K M (.ref t.1) t.2.1
 | _, _, [], _, nss, .nil, _ => ⟨[], rfl, rfl, fun _ h => nomatch h⟩
 | _, _, b :: bs, d :: ds, n :: nss, .cons h t, e => by
  obtain ⟨ts, h1, h2, h3⟩ := WQ t (by simpa using e)
  refine ⟨(b, d, n) :: ts, by rw [List.map_cons, h1]; rfl, by rw [List.map_cons, h2]; rfl, fun q hq => ?_⟩
  rcases List.mem_cons.mp hq with rfl | hq
  ·exact h
  ·exact h3 q hq
 | _, _, b :: bs, d :: ds, [], .cons h t, e => nomatch e
theorem zah {K : PySem.W.Frag} {M : Hp} {ts : List (Addr × D × List Int)} (h : ∀ t ∈ ts, Rp K M (.ref t.1) t.2.1) : Rps K M (ts.map fun t => V.ref t.1) (ts.map (·.2.1)) := by
 induction ts with
 | nil => exact .nil
 | cons t ts ih => exact .cons (h t List.mem_cons_self) (ih fun u hu => h u (List.mem_cons_of_mem _ hu))
theorem vR {K : PySem.W.Frag} {B : Bx} {w : WX} {i : Nat} : SE K B w (tCB Vo (tCons (tVar i) tNil)) (Qv i) := fun σ H M W ρ Q s k => by
 unfold Qv at k
 split at k
 ·rename_i p kds hr
  split at k
  ·rename_i z q
   obtain ⟨a, o, q1, q2, q3, q4⟩ := s.cell hr
   unfold xE at q
   dsimp only at q
   split at q
   ·rename_i nss hx
    cases q
    cases o <;> first | exact False.elim q3 | skip
    rename_i kvs
    rw [← q3.1] at hx
    obtain ⟨j1, j2⟩ := vf hx
    refine ⟨.ref a, q1, a, kvs, nss, rfl, .inl q2, j1, j2, fun l bs hl hb => ?_⟩
    obtain ⟨M2, W2, g2, s2, r2⟩ := s.addK hb
    have lb : nss.length = bs.length := by
     have e1 := congrArg List.length j1
     have e2 := Paired.length hb
     rw [List.length_map, List.length_map] at e1
     omega
    obtain ⟨ts, t1, t2, t3⟩ := WQ r2 lb
    have e1 : ((bs.zip nss).mergeSort fun p q => Z4 p.2 q.2).map (fun p => V.ref p.1) = (ts.mergeSort fun p q => Z4 p.2.2 q.2.2).map fun t => V.ref t.1 := by
     rw [← t1, ← List.map_mergeSort (r := fun p q : Addr × D × List Int => Z4 p.2.2 q.2.2) (s := fun p q : Addr × List Int => Z4 p.2 q.2) (f := fun t : Addr × D × List Int => (t.1, t.2.2)) (fun _ _ _ _ => rfl), List.map_map]
     rfl
    have e3 : yr ((kds.map (·.1)).zip nss) = (ts.mergeSort fun p q => Z4 p.2.2 q.2.2).map (·.2.1) := by
     unfold yr
     rw [← q3.1, ← t2, ← List.map_mergeSort (r := fun p q : Addr × D × List Int => Z4 p.2.2 q.2.2) (s := fun p q : D × List Int => Z4 p.2 q.2) (f := fun t : Addr × D × List Int => t.2) (fun _ _ _ _ => rfl), List.map_map]
     rfl
    rw [e3] at k
    rw [e1]
    have own : OwnO K M2 false (.lst ((ts.mergeSort fun p q => Z4 p.2.2 q.2.2).map fun t => V.ref t.1)) (.list ((ts.mergeSort fun p q => Z4 p.2.2 q.2.2).map (·.2.1))) := zah fun t ht => t3 t (List.mem_mergeSort.mp ht)
    obtain ⟨s3, h3⟩ := s2.newO hl own
    exact k _ _ _ _ g2 s3 h3
   ·exact nomatch q
  ·exact False.elim k
 ·exact False.elim k
def yU (ρ : Env) : Tp → Option (List (D × D))
 | .sl i => match ρ[i]? with
  | some (some (.o true _, .dict kds)) => some kds
  | _ => none
 | _ => none
def Kh (neg : Bool) (ρ1 : Env) : List Tp → Out Tp
 | [tk, td] => match rdT ρ1 tk, yU ρ1 td with
  | some kd, some kds => match jT kd with
   | some ks => .ok ρ1 (.fz (.bool (if neg then !(Zb kds (.inr ks)).isSome else (Zb kds (.inr ks)).isSome)))
   | none => .stk
  | _, _ => .stk
 | _ => .stk
def v5 (neg : Bool) (ry rd : RE) : RE := fun ρ => (zm ry (zm rd zQ) ρ).bind fun ρ1 tps => Kh neg ρ1 tps
section
variable {K : PySem.W.Frag} {B : Bx} {w : WX} {ty td : TE} {ry rd : RE}
theorem Yu {M W H : Hp} {ρ : Env} {σ : L2.St} {tp : Tp} {v : V} {kds : List (D × D)} (s : St K B M W H ρ σ) (h : TpOkL K B M W H ρ σ tp v) (e : yU ρ tp = some kds) : ∃ a kvs, v = .ref a ∧ H a = some (.dT kvs) ∧ Prs K M VG kvs kds := by
 unfold yU at e
 split at e
 ·rename_i i
  split at e
  ·rename_i p kds' hr
   cases e
   have h : σ[i]? = some (some v) := h
   obtain ⟨a, o, q1, q2, q3, q4⟩ := s.cell hr
   rw [h] at q1; cases q1
   cases o <;> first | exact False.elim q3 | skip
   exact ⟨a, _, rfl, q2, Xe q3.1 q3.2⟩
  ·exact nomatch e
 ·exact nomatch e
theorem yX {neg : Bool} {M1 W1 H1 : Hp} {ρ1 : Env} {σ : L2.St} {tps : List Tp} {vs : List V} {Q : VK} (s1 : St K B M1 W1 H1 ρ1 σ) (h1 : TpsOk K B M1 W1 H1 ρ1 σ tps vs) (k1 : KG K B M1 W1 σ w (QV K B σ) (Kh neg ρ1 tps) Q) :
  ∃ y x, vs = [y, x] ∧ ∃ a o, x = .ref a ∧ DGet H1 a y o ∧ Q (.bl (if neg then !o.isSome else o.isSome)) H1 := by
 unfold Kh at k1
 split at k1
 ·rename_i tk td
  match vs, h1 with
  | [y, x], ⟨t1, ⟨t2, _, _⟩, _⟩ =>
   refine ⟨y, x, rfl, ?_⟩
   split at k1
   ·rename_i kd kds hn hd
    obtain ⟨a, kvs, rfl, q2, pr⟩ := Yu s1 t2 hd
    have rk := TpOkL.r1 s1 t1 hn
    cases ek : jT kd with
    | none => rw [ek] at k1; exact False.elim k1
    | some ks =>
     rw [ek] at k1
     dsimp only at k1
     cases kd <;> first | (cases ek; done) | skip
     rename_i ds
     unfold jT at ek
     dsimp only at ek
     split at ek
     ·exact nomatch ek
     ·rename_i hc
      have := xV ek
      subst this
      have look := xA (k := ks) (kd := VG) (kk := .inr ks) (fun k' => JP ks k') pr
      cases rk with
      | tupK _ c _ => exact absurd c hc
      | tup b1 b2 =>
       have := xm b2
       subst this
       refine ⟨a, valV kvs ks, rfl, .inr ⟨kvs, ks, _, .inl q2, rfl, s1.mh _ _ b1, rfl⟩, ?_⟩
       have e : (valV kvs ks).isSome = (Zb kds (.inr ks)).isSome := by
        cases el : Zb kds (.inr ks) with
        | none => rw [look.2 el]; rfl
        | some d => obtain ⟨z, z1, _⟩ := look.1 d el; rw [z1]; rfl
       rw [e]
       exact k1 _ M1 W1 _ (Gr.refl _ _) s1 (.bl _)
   ·exact False.elim k1
 ·exact False.elim k1
theorem YQ (h2 : SE K B w ty ry) (h1 : SE K B w td rd) : SE K B w (tDIn ty td) (v5 false ry rd) := fun σ H M W ρ Q s k => by
 have := zf h2 (zf h1 zr) σ H M W ρ (fun vs H2 => ∃ y x, vs = [y, x] ∧ ∃ a o, x = .ref a ∧ DGet H2 a y o ∧ Q (.bl o.isSome) H2) s (KG.bind k fun ρ1 tps vs M1 W1 H1 _ g1 s1 z1 k1 => yX s1 z1 k1)
 refine cast ?_ this
 unfold tDIn tCons tNil
 congr; funext y H1; congr; funext x H2
 exact propext ⟨fun ⟨_, _, e, r⟩ => by cases e; exact r, fun r => ⟨_, _, rfl, r⟩⟩
end
end Vm
namespace Vm
open PySem PySem.Spec PyProof.Rows L2 Fz
abbrev XP := Env → Xn → Prop
@[irreducible] def Wx {α : Type} (o : Out α) (Q : Env → α → Prop) (E : XP) : Prop := match o with
 | .stk => False
 | .ok ρ a => Q ρ a
 | .er ρ x => E ρ x
def flP (N B C : Env → Prop) (R : Env → Tp → Prop) (ρ : Env) : Fl → Prop
 | .nx => N ρ
 | .bk => B ρ
 | .ct => C ρ
 | .rt t => R ρ t
def Ws (r : RS) (ρ : Env) (N B C : Env → Prop) (R : Env → Tp → Prop) (E : XP) : Prop := Wx (r ρ) (flP N B C R) E
def We (r : RE) (ρ : Env) (Q : Env → Tp → Prop) (E : XP) : Prop := Wx (r ρ) Q E
def Wt (r : RT) (ρ : Env) (Q : Env → Bool → Prop) (E : XP) : Prop := Wx (r ρ) Q E
def Wa (r : RA) (ρ : Env) (Q : Env → List Tp → Prop) (E : XP) : Prop := Wx (r ρ) Q E
def Wi (r : Env → Out (List D)) (ρ : Env) (Q : Env → List D → Prop) (E : XP) : Prop := Wx (r ρ) Q E
def Wp (r : Env → Out (Option Int)) (ρ : Env) (Q : Env → Option Int → Prop) (E : XP) : Prop := Wx (r ρ) Q E
@[irreducible] def Wf (o : zY) (Q : Rz → Env → Prop) (E : Xn → Env → Prop) : Prop := match o with
 | .stk => False
 | .ok z io => Q z io
 | .er x io => E x io
section
variable {α β : Type} {Q : Env → α → Prop} {E E' : XP} {ρ : Env}
theorem wxo {a : α} (h : Q ρ a) : Wx (.ok ρ a) Q E := by unfold Wx; exact h
theorem wxe {x : Xn} (h : E ρ x) : Wx (.er ρ x : Out α) Q E := by unfold Wx; exact h
theorem Jy {a : α} (h : Wx (.ok ρ a) Q E) : Q ρ a := by unfold Wx at h; exact h
theorem vM {x : Xn} (h : Wx (.er ρ x : Out α) Q E) : E ρ x := by unfold Wx at h; exact h
theorem wxs {P : Prop} (h : Wx (.stk : Out α) Q E) : P := by unfold Wx at h; exact False.elim h
theorem zb {o : Out β} {k : Env → β → Out α} (h : Wx o (fun ρ a => Wx (k ρ a) Q E) E) : Wx (o.bind k) Q E := by
 cases o with
 | stk => exact wxs h
 | ok ρ a => exact Jy h
 | er ρ x => exact wxe (vM h)
theorem vB {o : Out α} (h : Wx o Q (fun _ _ => False)) : Wx o.dry Q E := by
 cases o with
 | stk => exact wxs h
 | ok ρ a => exact wxo (Jy h)
 | er ρ x => exact False.elim (vM h)
theorem zg {o : Out α} {Q' : Env → α → Prop} (h : Wx o Q E) (hq : ∀ ρ a, Q ρ a → Q' ρ a) (he : ∀ ρ x, E ρ x → E' ρ x) : Wx o Q' E' := by
 cases o with
 | stk => exact wxs h
 | ok ρ a => exact wxo (hq _ _ (Jy h))
 | er ρ x => exact wxe (he _ _ (vM h))
end
section
variable {Q Q' : Rz → Env → Prop} {E E' : Xn → Env → Prop} {z : Rz} {x : Xn} {io : Env} {o : zY}
theorem wfo (q : Q z io) : Wf (.ok z io) Q E := by unfold Wf; exact q
theorem wfe (q : E x io) : Wf (.er x io) Q E := by unfold Wf; exact q
theorem Yi (q : Wf (.ok z io) Q E) : Q z io := by unfold Wf at q; exact q
theorem Yc (q : Wf (.er x io) Q E) : E x io := by unfold Wf at q; exact q
theorem wfs {P : Prop} (q : Wf .stk Q E) : P := by unfold Wf at q; exact False.elim q
theorem zab (h : o = .ok z io) (q : Q z io) : Wf o Q E := by rw [h]; exact wfo q
theorem zbb (h : o = .er x io) (q : E x io) : Wf o Q E := by rw [h]; exact wfe q
theorem jM (h : Wf o (fun z' io' => z' = z ∧ io' = io) (fun _ _ => False)) : o = .ok z io := by
 cases o with
 | stk => exact wfs h
 | ok z io => obtain ⟨rfl, rfl⟩ := Yi h; rfl
 | er x io => exact False.elim (Yc h)
theorem yd (h : Wf o Q (fun _ _ => False)) : ∃ z io, o = .ok z io ∧ Q z io := by
 cases o with
 | stk => exact wfs h
 | ok z io => exact ⟨z, io, rfl, Yi h⟩
 | er x io => exact False.elim (Yc h)
end
class Zg (l : Env) (i : Nat) (x : Option (Fg × D)) (l' : outParam Env) : Prop where
 eq : l.set i x = l'
instance {a x : Option (Fg × D)} {l : Env} : Zg (a :: l) 0 x (x :: l) := ⟨rfl⟩
instance {a x : Option (Fg × D)} {l l' : Env} {n : Nat} [h : Zg l n x l'] : Zg (a :: l) (n + 1) x (a :: l') := ⟨by rw [List.set_cons_succ, h.eq]⟩
section
variable {ρ ρ' ρ1 ρ2 : Env} {N B C : Env → Prop} {R : Env → Tp → Prop} {E : XP} {Q : Env → Tp → Prop} {QT : Env → Bool → Prop}
theorem ws_seq {a b : RS} (h : Ws a ρ (fun ρ1 => Ws b ρ1 N B C R E) B C R E) : Ws (Za a b) ρ N B C R E := by
 unfold Ws Za at *
 generalize a ρ = o at h
 cases o with
 | stk => (unfold Wx at *; exact h)
 | ok ρ1 fl => cases fl <;> (unfold Wx at *; exact h)
 | er ρ1 x => (unfold Wx at *; exact h)
theorem zaT {a b : RS} (I : Env → Prop) (h : Ws a ρ I B C R E) (g : ∀ ρ1, I ρ1 → Ws b ρ1 N B C R E) : Ws (Za a b) ρ N B C R E :=
 ws_seq (zg h (fun ρ fl q => by cases fl with | nx => exact g _ q | bk => exact q | ct => exact q | rt t => exact q) (fun _ _ q => q))
theorem ws_next (h : N ρ) : Ws xT ρ N B C R E := wxo h
theorem ws_bk (h : B ρ) : Ws (fun ρ => .ok ρ .bk) ρ N B C R E := wxo h
theorem ws_ct (h : C ρ) : Ws (fun ρ => .ok ρ .ct) ρ N B C R E := wxo h
theorem ws_retN (h : R ρ (.fz .none)) : Ws (fun ρ => .ok ρ (.rt (.fz .none))) ρ N B C R E := wxo h
theorem ws_if {c : RT} {a b : RS} (h : Wt c ρ (fun ρ1 x => if x = true then Ws a ρ1 N B C R E else Ws b ρ1 N B C R E) E) : Ws (rIf c a b) ρ N B C R E :=
 zb (zg h (fun ρ x q => by cases x <;> first | exact q | exact wxo q) (fun _ _ q => q))
theorem ws_drop {e : RE} (h : We e ρ (fun ρ1 _ => N ρ1) E) : Ws (vh e) ρ N B C R E := zb (zg h (fun _ _ q => wxo q) (fun _ _ q => q))
def vK (ρ : Env) (i : Nat) (tp : Tp) (N : Env → Prop) : Prop := ∃ ρ2, asg ρ i tp = some ρ2 ∧ N ρ2
theorem ws_asg {e : RE} {i : Nat} (h : We e ρ (fun ρ1 tp => vK ρ1 i tp N) E) : Ws (ZR e i) ρ N B C R E :=
 zb (zg h (fun ρ1 tp ⟨ρ2, e, q⟩ => by rw [e]; exact wxo q) (fun _ _ q => q))
theorem asg_fz {i : Nat} {d : D} (s : Zg ρ i (some (.f, d)) ρ') (hp : qb ρ i = false) (h : N ρ') : vK ρ i (.fz d) N := by
 refine ⟨ρ', ?_, h⟩
 unfold asg
 rw [hp, if_neg Bool.false_ne_true]
 show some (ρ.set i (some (.f, d))) = _
 rw [s.eq]
theorem asg_ow {i : Nat} {u : Bool} {d : D} (s : Zg ρ i (some (.o u false, d)) ρ') (hp : qb ρ i = false) (h : N ρ') : vK ρ i (.ow u d) N := by
 refine ⟨ρ', ?_, h⟩
 unfold asg
 rw [hp, if_neg Bool.false_ne_true]
 show some (ρ.set i (some (.o u false, d))) = _
 rw [s.eq]
theorem asg_slf {i j : Nat} {d : D} (hj : ρ[j]? = some (some (.f, d))) (s : Zg ρ i (some (.f, d)) ρ') (hp : qb ρ i = false) (h : N ρ') : vK ρ i (.sl j) N := by
 refine ⟨ρ', ?_, h⟩
 unfold asg stF
 rw [hp, if_neg Bool.false_ne_true]
 simp only [hj]
 rw [s.eq]
theorem asg_slo {i j : Nat} {u : Bool} {d : D} (hj : ρ[j]? = some (some (.o u false, d))) (s1 : Zg ρ j (some (.f, d)) ρ1) (s : Zg ρ1 i (some (.f, d)) ρ') (hp : qb ρ i = false) (h : N ρ') : vK ρ i (.sl j) N := by
 refine ⟨ρ', ?_, h⟩
 unfold asg stF
 rw [hp, if_neg Bool.false_ne_true]
 simp only [hj]
 rw [s1.eq, s.eq]
def WRt (ρ : Env) (tp : Tp) (R : Env → Tp → Prop) : Prop := ∃ ρ2 tp2, rtT ρ tp = some (ρ2, tp2) ∧ R ρ2 tp2
theorem ws_ret {e : RE} (h : We e ρ (fun ρ1 tp => WRt ρ1 tp R) E) : Ws (Qo e) ρ N B C R E :=
 zb (zg h (fun ρ1 tp ⟨ρ2, tp2, e, q⟩ => by rw [e]; exact wxo q) (fun _ _ q => q))
theorem rt_fz {d : D} (h : R ρ (.fz d)) : WRt ρ (.fz d) R := ⟨_, _, rfl, h⟩
theorem rt_ow {u : Bool} {d : D} (h : R ρ (.ow u d)) : WRt ρ (.ow u d) R := ⟨_, _, rfl, h⟩
theorem rt_slf {j : Nat} {d : D} (hj : ρ[j]? = some (some (.f, d))) (h : R ρ (.fz d)) : WRt ρ (.sl j) R := ⟨ρ, .fz d, by unfold rtT; simp only [hj], h⟩
theorem rt_slo {j : Nat} {u : Bool} {d : D} (hj : ρ[j]? = some (some (.o u false, d))) (s : Zg ρ j none ρ') (h : R ρ' (.ow u d)) : WRt ρ (.sl j) R := ⟨ρ', .ow u d, by unfold rtT; simp only [hj]; rw [s.eq], h⟩
def WW (ρ : Env) (vs : List Nat) (N : Env → Prop) : Prop := N (zG ρ vs)
theorem ws_fgt {a : RS} {vs : List Nat} (h : Ws a ρ (fun ρ1 => WW ρ1 vs N) B C R E) : Ws (ZF vs a) ρ N B C R E := by
 unfold Ws ZF at *
 generalize a ρ = o at h
 cases o with
 | stk => (unfold Wx at *; exact h)
 | er ρ1 x => (unfold Wx at *; exact h)
 | ok ρ1 fl => cases fl <;> (unfold Wx at *; exact h)
theorem ws_fgtL {a : RS} {vs : List Nat} (h : Ws a ρ (fun ρ1 => WW ρ1 vs N) (fun ρ1 => WW ρ1 vs B) (fun ρ1 => WW ρ1 vs C) R E) : Ws (Y6 vs a) ρ N B C R E := by
 unfold Ws Y6 at *
 generalize a ρ = o at h
 cases o with
 | stk => (unfold Wx at *; exact h)
 | er ρ1 x => (unfold Wx at *; exact h)
 | ok ρ1 fl => cases fl <;> (unfold Wx at *; exact h)
class Xl (l : Env) (vs : List Nat) (l' : outParam Env) : Prop where
 eq : zG l vs = l'
instance {l : Env} : Xl l [] l := ⟨rfl⟩
instance {l l' l2 : Env} {v : Nat} {vs : List Nat} [h : Xl l vs l'] [s : Zg l' v none l2] : Xl l (v :: vs) l2 := ⟨by show (zG l vs).set v none = _; rw [h.eq, s.eq]⟩
theorem ww_ {vs : List Nat} (s : Xl ρ vs ρ') (h : N ρ') : WW ρ vs N := by unfold WW; rw [s.eq]; exact h
def WG (f : Env → D → Option Env) (ρ : Env) (d : D) (N : Env → Prop) : Prop := ∃ ρ2, f ρ d = some ρ2 ∧ N ρ2
def WGs (f : Env → List D → Option Env) (ρ : Env) (d : List D) (N : Env → Prop) : Prop := ∃ ρ2, f ρ d = some ρ2 ∧ N ρ2
theorem wg_name {i : Nat} {d : D} (s : Zg ρ i (some (.f, d)) ρ') (hp : qb ρ i = false) (h : N ρ') : WG (Zt i) ρ d N := ⟨ρ', by unfold Zt; rw [hp, if_neg Bool.false_ne_true, s.eq], h⟩
theorem wgs_nil (h : N ρ) : WGs zaR ρ [] N := ⟨ρ, rfl, h⟩
theorem wgs_cons {f : Env → D → Option Env} {fs : Env → List D → Option Env} {d : D} {ds : List D} (h : WG f ρ d fun ρ1 => WGs fs ρ1 ds N) : WGs (Jq f fs) ρ (d :: ds) N := by
 obtain ⟨ρ1, e, ρ2, e2, q⟩ := h
 exact ⟨ρ2, by unfold Jq; simp only [e]; exact e2, q⟩
theorem wg_tup {n : Nat} {fs : Env → List D → Option Env} {ds : List D} (hn : ds.length = n) (h : WGs fs ρ ds N) : WG (VR n fs) ρ (.tuple ds) N := by
 obtain ⟨ρ2, e, q⟩ := h
 exact ⟨ρ2, by unfold VR; simp only [hn]; exact (if_pos trivial).trans e, q⟩
def WSt (ρ : Env) (tp : Tp) (Q : Env → D → Prop) : Prop := ∃ ρ2 d, stF ρ tp = some (ρ2, d) ∧ Q ρ2 d
section
variable {QD : Env → D → Prop} {QL : Env → List D → Prop}
theorem st_fz {d : D} (h : QD ρ d) : WSt ρ (.fz d) QD := ⟨_, _, rfl, h⟩
theorem st_ow {u : Bool} {d : D} (h : QD ρ d) : WSt ρ (.ow u d) QD := ⟨_, _, rfl, h⟩
theorem st_slf {j : Nat} {d : D} (hj : ρ[j]? = some (some (.f, d))) (h : QD ρ d) : WSt ρ (.sl j) QD := ⟨ρ, d, by unfold stF; simp only [hj], h⟩
theorem st_slo {j : Nat} {u : Bool} {d : D} (hj : ρ[j]? = some (some (.o u false, d))) (s : Zg ρ j (some (.f, d)) ρ') (h : QD ρ' d) : WSt ρ (.sl j) QD := ⟨ρ', d, by unfold stF; simp only [hj]; rw [s.eq], h⟩
def VL (ρ : Env) (tps : List Tp) (Q : Env → List D → Prop) : Prop := ∃ ρ2 ds, Xk ρ tps = some (ρ2, ds) ∧ Q ρ2 ds
theorem sts_nil (h : QL ρ []) : VL ρ [] QL := ⟨_, _, rfl, h⟩
theorem sts_cons {tp : Tp} {tps : List Tp} (h : WSt ρ tp fun ρ1 d => VL ρ1 tps fun ρ2 ds => QL ρ2 (d :: ds)) : VL ρ (tp :: tps) QL := by
 obtain ⟨ρ1, d, e1, ρ2, ds, e2, q⟩ := h
 exact ⟨ρ2, d :: ds, by unfold Xk; simp only [e1, e2], q⟩
end
theorem ws_asgG {e : RE} {f : Env → D → Option Env} (h : We e ρ (fun ρ1 tp => WSt ρ1 tp fun ρ2 d => WG f ρ2 d N) E) : Ws (Ww e f) ρ N B C R E :=
 zb (zg h (fun ρ1 tp ⟨ρ2, d, e, ρ3, e3, q⟩ => by simp only [e, e3]; exact wxo q) (fun _ _ q => q))
theorem we_var {i : Nat} {x : Fg × D} (hi : ρ[i]? = some (some x)) (h : Q ρ (.sl i)) : We (zp i) ρ Q E := by
 unfold We zp
 rw [hi]
 exact wxo h
theorem we_K {d : D} (h : Q ρ (.fz d)) : We (rK d) ρ Q E := wxo h
theorem we_dnew {u : Bool} (h : Q ρ (.ow u (.dict []))) : We (fun ρ => .ok ρ (.ow u (.dict []))) ρ Q E := wxo h
def WO2 (f : D → D → Option Rz) (ρ : Env) (t1 t2 : Tp) (Q : Env → Tp → Prop) : Prop := ∃ d e z, rdT ρ t1 = some d ∧ rdT ρ t2 = some e ∧ f d e = some z ∧ Q ρ z.tp
theorem we_op2 {f : D → D → Option Rz} {a b : RE} (h : We a ρ (fun ρ1 t1 => We b ρ1 (fun ρ2 t2 => WO2 f ρ2 t1 t2 Q) E) E) : We (zF f a b) ρ Q E := by
 have h0 : Wx (zm a (zm b zQ) ρ) (fun ρ2 ts => ∃ t1 t2, ts = [t1, t2] ∧ WO2 f ρ2 t1 t2 Q) E :=
  zb (zg h (fun ρ1 t1 h1 => zb (zb (zg h1 (fun ρ2 t2 h2 => zb (wxo (wxo (wxo ⟨t1, t2, rfl, h2⟩)))) (fun _ _ q => q)))) (fun _ _ q => q))
 refine zb (zg h0 (fun ρ2 ts ⟨t1, t2, et, d, e, z, e1, e2, e3, q⟩ => ?_) (fun _ _ q => q))
 subst et
 simp only [Qc, e1, e2, f2, e3]
 exact wxo q
def WO1 (f : D → Option Rz) (ρ : Env) (t1 : Tp) (Q : Env → Tp → Prop) : Prop := ∃ d z, rdT ρ t1 = some d ∧ f d = some z ∧ Q ρ z.tp
theorem we_op1 {f : D → Option Rz} {a : RE} (h : We a ρ (fun ρ1 t1 => WO1 f ρ1 t1 Q) E) : We (JZ f a) ρ Q E := by
 have h0 : Wx (zm a zQ ρ) (fun ρ2 ts => ∃ t1, ts = [t1] ∧ WO1 f ρ2 t1 Q) E :=
  zb (zg h (fun ρ1 t1 h1 => zb (wxo (wxo ⟨t1, rfl, h1⟩))) (fun _ _ q => q))
 refine zb (zg h0 (fun ρ2 ts ⟨t1, et, d, z, e1, e3, q⟩ => ?_) (fun _ _ q => q))
 subst et
 simp only [Qc, e1, f1, e3]
 exact wxo q
theorem we_isi {n : String} {a : RE} (h : We (JZ (zX n) a) ρ Q E) : We (zbc n a) ρ Q E := h
section
variable {QL : Env → List Tp → Prop}
theorem wa_nil (h : QL ρ []) : Wa zQ ρ QL E := wxo h
theorem wa_cons {a : RE} {r : RA} (h : We a ρ (fun ρ1 t => Wa r ρ1 (fun ρ2 ts => QL ρ2 (t :: ts)) E) E) : Wa (zm a r) ρ QL E :=
 zb (zg h (fun _ _ h1 => zb (zg h1 (fun _ _ q => wxo q) (fun _ _ q => q))) (fun _ _ q => q))
end
theorem we_tup {a : RA} (h : Wa a ρ (fun ρ1 tps => VL ρ1 tps fun ρ2 ds => ds.length ≤ sizeLine ∧ Q ρ2 (.fz (.tuple ds))) E) : We (zbP a) ρ Q E :=
 zb (zg h (fun ρ1 tps ⟨ρ2, ds, e, hl, q⟩ => by simp only [e]; rw [if_pos hl]; exact wxo q) (fun _ _ q => q))
theorem we_lst {a : RA} (h : Wa a ρ (fun ρ1 tps => VL ρ1 tps fun ρ2 ds => ds.length ≤ sizeLine ∧ Q ρ2 (.ow false (.list ds))) E) : We (JM a) ρ Q E :=
 zb (zg h (fun ρ1 tps ⟨ρ2, ds, e, hl, q⟩ => by simp only [e]; rw [if_pos hl]; exact wxo q) (fun _ _ q => q))
def WC (m : List (Fg × D) → zY) (ms : List Bool) (ρ : Env) (tps : List Tp) (Q : Env → Tp → Prop) (E : XP) : Prop := ∃ as, (ms.length = tps.length ∧ Qg ms tps = true) ∧ xM ρ ms (Zz ms tps) = some as ∧ Wf (m as) (fun z io => ∃ ρ2, Zi ρ ms tps io = some ρ2 ∧ Q ρ2 z.tp) (fun x io => ∃ ρ2, Zi ρ ms tps io = some ρ2 ∧ E ρ2 x)
theorem we_call {m : List (Fg × D) → zY} {ms : List Bool} {a : RA} (h : Wa a ρ (fun ρ1 tps => WC m ms ρ1 tps Q E) E) : We (Zm m ms a) ρ Q E :=
 zb (zg h (fun ρ1 tps ⟨as, h1, h2, h3⟩ => by
  rw [if_pos h1, h2]
  show Wx (match m as with
  | .stk => .stk
  | .ok z io => match Zi ρ1 ms tps io with
   | some ρ2 => Out.ok ρ2 z.tp
   | none => .stk
  | .er x io => match Zi ρ1 ms tps io with
   | some ρ2 => .er ρ2 x
   | none => .stk) Q E
  generalize m as = o at h3
  cases o with
  | stk => exact wfs h3
  | ok z io => obtain ⟨ρ2, e, q⟩ := Yi h3; simp only [e]; exact wxo q
  | er x io => obtain ⟨ρ2, e, q⟩ := Yc h3; simp only [e]; exact wxe q) (fun _ _ q => q))
theorem zaJ {m : List (Fg × D) → zY} {as : List (Fg × D)} {Q : Rz → Env → Prop} {E : Xn → Env → Prop} (h : Wf (m as) Q (fun _ _ => False)) : Wf (Zy m as) Q E := by
 unfold Zy
 generalize m as = o at h
 cases o with
 | stk => exact wfs h
 | ok z io => exact wfo (Yi h)
 | er x io => exact False.elim (Yc h)
theorem zbg {m : List (Fg × D) → zY} {ms : List Bool} {tps : List Tp} {as : List (Fg × D)} {z : Rz} {io : Env} {tp : Tp} (h1 : (ms.length = tps.length ∧ Qg ms tps = true)) (h2 : xM ρ ms (Zz ms tps) = some as) (h3 : m as = .ok z io) (h4 : Zi ρ ms tps io = some ρ2) (h5 : z.tp = tp) (q : Q ρ2 tp) : WC m ms ρ tps Q E :=
 ⟨as, h1, h2, zab h3 ⟨ρ2, h4, h5 ▸ q⟩⟩
theorem zaF {m : List (Fg × D) → zY} {ms : List Bool} {tps : List Tp} {as : List (Fg × D)} {z : Rz} {io : Env} {tp : Tp} (h1 : (ms.length = tps.length ∧ Qg ms tps = true)) (h2 : xM ρ ms (Zz ms tps) = some as) (h3 : m as = .ok z io) (h4 : Zi ρ ms tps io = some ρ2) (h5 : z.tp = tp) (q : Q ρ2 tp) : WC (Zy m) ms ρ tps Q E :=
 ⟨as, h1, h2, zaJ (zab h3 ⟨ρ2, h4, h5 ▸ q⟩)⟩
theorem zbl {m : List (Fg × D) → zY} {ms : List Bool} {tps : List Tp} {as : List (Fg × D)} {x : Xn} {io : Env} (h1 : (ms.length = tps.length ∧ Qg ms tps = true)) (h2 : xM ρ ms (Zz ms tps) = some as) (h3 : m as = .er x io) (h4 : Zi ρ ms tps io = some ρ2) (q : E ρ2 x) : WC m ms ρ tps Q E :=
 ⟨as, h1, h2, zbb h3 ⟨ρ2, h4, q⟩⟩
theorem we_ifE {c : RT} {a b : RE} (h : Wt c ρ (fun ρ1 x => if x = true then We a ρ1 Q E else We b ρ1 Q E) E) : We (zaM c a b) ρ Q E :=
 zb (zg h (fun ρ x q => by cases x <;> first | exact q | exact wxo q) (fun _ _ q => q))
theorem we_fzv {r : RE} (h : We r ρ (fun ρ1 tp => WSt ρ1 tp fun ρ2 d => Q ρ2 (.fz d)) E) : We (rFz r) ρ Q E :=
 zb (zg h (fun ρ1 tp ⟨ρ2, d, e, q⟩ => by simp only [e]; exact wxo q) (fun _ _ q => q))
def WB (ρ : Env) (tp : Tp) (Q : Env → Bool → Prop) : Prop := ∃ b, rdT ρ tp = some (.bool b) ∧ Q ρ b
theorem wb_of {tp : Tp} {b : Bool} (h : rdT ρ tp = some (.bool b)) (q : QT ρ b) : WB ρ tp QT := ⟨b, h, q⟩
theorem wt_test {e : RE} (h : We e ρ (fun ρ1 tp => WB ρ1 tp QT) E) : Wt (Zk e) ρ QT E :=
 zb (zg h (fun ρ1 tp ⟨b, e, q⟩ => by unfold asB; simp only [e]; exact wxo q) (fun _ _ q => q))
theorem wt_and {a b : RT} (h : Wt a ρ (fun ρ1 x => if x = true then Wt b ρ1 QT E else QT ρ1 false) E) : Wt (zb6 a b) ρ QT E :=
 zb (zg h (fun ρ x q => by cases x <;> first | exact q | exact wxo q) (fun _ _ q => q))
theorem wt_or {a b : RT} (h : Wt a ρ (fun ρ1 x => if x = true then QT ρ1 true else Wt b ρ1 QT E) E) : Wt (rOr a b) ρ QT E :=
 zb (zg h (fun ρ x q => by cases x <;> first | exact q | exact wxo q) (fun _ _ q => q))
theorem wt_not {a : RT} (h : Wt a ρ (fun ρ1 x => QT ρ1 (!x)) E) : Wt (zaN a) ρ QT E := zb (zg h (fun _ _ q => wxo q) (fun _ _ q => q))
theorem wt_yes (h : QT ρ true) : Wt (fun ρ => .ok ρ true) ρ QT E := wxo h
theorem we_andV {a b : RE} (h : Wt (Zk a) ρ (fun ρ1 x => if x = true then We b ρ1 Q E else Q ρ1 (.fz (.bool false))) E) : We (zbw a b) ρ Q E :=
 zb (zg h (fun ρ x q => by cases x <;> first | exact q | exact wxo q) (fun _ _ q => q))
theorem we_orV {a b : RE} (h : Wt (Zk a) ρ (fun ρ1 x => if x = true then Q ρ1 (.fz (.bool true)) else We b ρ1 Q E) E) : We (zb3 a b) ρ Q E :=
 zb (zg h (fun ρ x q => by cases x <;> first | exact q | exact wxo q) (fun _ _ q => q))
theorem we_notV {a : RE} (h : Wt (Zk a) ρ (fun ρ1 x => Q ρ1 (.fz (.bool !x))) E) : We (za8 a) ρ Q E := zb (zg h (fun _ _ q => wxo q) (fun _ _ q => q))
theorem ite_T {c : Prop} [Decidable c] {A B : Prop} (h : c) (q : A) : if c then A else B := by rw [if_pos h]; exact q
theorem ite_F {c : Bool} {A B : Prop} (h : c = false) (q : B) : if c = true then A else B := by rw [h, if_neg Bool.false_ne_true]; exact q
theorem Qu {c : Bool} {A B : Prop} (h : c = true → A) (g : c = false → B) : if c = true then A else B := by
 cases c with
 | true => exact h rfl
 | false => exact g rfl
theorem we_chain {f g : D → D → Option Rz} {a b c : RE} (h : We a ρ (fun ρ1 t1 => We (rFz b) ρ1 (fun ρ2 t2 => ∃ e d x, t2 = .fz e ∧ rdT ρ2 t1 = some d ∧ f d e = some (.fz (.bool x)) ∧ if x = true then We c ρ2 (fun ρ3 t3 => WO2 g ρ3 (.fz e) t3 Q) E else Q ρ2 (.fz (.bool false))) E) E) : We (kW f g a b c) ρ Q E := by
 unfold We kW Vm.r2
 refine zb (zg h (fun ρ1 t1 h1 => ?_) (fun _ _ q => q))
 refine zb (zg h1 (fun ρ2 t2 h2 => ?_) (fun _ _ q => q))
 obtain ⟨e, d, x, rfl, e1, e2, q⟩ := h2
 unfold vz
 simp only [e1, e2]
 cases x with
 | false => exact wxo q
 | true =>
  rw [if_pos rfl] at q ⊢
  refine zb (zg q (fun ρ3 t3 h3 => ?_) (fun _ _ q => q))
  obtain ⟨d', e', z, f1, f2, f3, q⟩ := h3
  cases f1
  simp only [f2, f3]
  exact wxo q
section
variable {QP : Env → Option Int → Prop}
theorem wp_no (h : QP ρ none) : Wp Xz ρ QP E := wxo h
def WPt (ρ : Env) (tp : Tp) (QP : Env → Option Int → Prop) : Prop := ∃ i, rdT ρ tp = some (.int i) ∧ QP ρ (some i)
theorem wpt_of {tp : Tp} {i : Int} (h : rdT ρ tp = some (.int i)) (q : QP ρ (some i)) : WPt ρ tp QP := ⟨i, h, q⟩
theorem wp_part {r : RE} (h : We r ρ (fun ρ1 tp => WPt ρ1 tp QP) E) : Wp (Jh r) ρ QP E :=
 zb (zg h (fun ρ1 tp ⟨b, e, q⟩ => by simp only [e]; exact wxo q) (fun _ _ q => q))
end
def WSl (f : D → Option Int → Option Int → Option Rz) (ρ : Env) (tp : Tp) (l h : Option Int) (Q : Env → Tp → Prop) : Prop := ∃ d z, rdT ρ tp = some d ∧ f d l h = some z ∧ Q ρ z.tp
theorem we_sl {f : D → Option Int → Option Int → Option Rz} {a : RE} {lo hi : Env → Out (Option Int)} (h : We a ρ (fun ρ1 tp => Wp lo ρ1 (fun ρ2 l => Wp hi ρ2 (fun ρ3 u => WSl f ρ3 tp l u Q) E) E) E) : We (rSl f a lo hi) ρ Q E := by
 unfold We rSl
 refine zb (zg h (fun ρ1 t1 h1 => ?_) (fun _ _ q => q))
 refine zb (zg h1 (fun ρ2 t2 h2 => ?_) (fun _ _ q => q))
 refine zb (zg h2 (fun ρ3 t3 h3 => ?_) (fun _ _ q => q))
 obtain ⟨d, z, e1, e2, q⟩ := h3
 simp only [e1, e2]
 exact wxo q
theorem we_lenSc {i : Nat} {ds : List D} (hi : ρ[i]? = some (some (.s, .list ds))) (h : Q ρ (.fz (.int ds.length))) : We (Xi i) ρ Q E := by
 unfold We Xi; rw [hi]; exact wxo h
def WM (i : Nat) (f : List D → List D → Option (List D × D)) (ρ : Env) (es : List D) (Q : Env → Tp → Prop) : Prop := ∃ p ds ds' res, ρ[i]? = some (some (.o false p, .list ds)) ∧ f ds es = some (ds', res) ∧ Q (ρ.set i (some (.o false p, .list ds'))) (.fz res)
theorem wm_of {i : Nat} {f : List D → List D → Option (List D × D)} {es ds ds' : List D} {p : Bool} {res : D} (h1 : ρ[i]? = some (some (.o false p, .list ds))) (h2 : f ds es = some (ds', res)) (s : Zg ρ i (some (.o false p, .list ds')) ρ') (q : Q ρ' (.fz res)) : WM i f ρ es Q := ⟨p, ds, ds', res, h1, h2, by rw [s.eq]; exact q⟩
theorem we_methL {i : Nat} {f : List D → List D → Option (List D × D)} {a : RA} {p : Bool} {ds : List D} (hi : ρ[i]? = some (some (.o false p, .list ds))) (h : Wa a ρ (fun ρ1 tps => VL ρ1 tps fun ρ2 es => WM i f ρ2 es Q) E) : We (QZ i f a) ρ Q E := by
 unfold We QZ
 rw [hi]
 refine zb (zg h (fun ρ1 tps h1 => ?_) (fun _ _ q => q))
 obtain ⟨ρ2, es, e1, p', ds0, ds', res, e2, e3, q⟩ := h1
 simp only [e1, e2, e3]
 exact wxo q
def WSI (i : Nat) (ρ : Env) (ti : Tp) (e : D) (N : Env → Prop) : Prop := ∃ n p ds j, rdT ρ ti = some (.int n) ∧ ρ[i]? = some (some (.o false p, .list ds)) ∧ ixN ds.length n = some j ∧ N (ρ.set i (some (.o false p, .list (ds.set j e))))
theorem za2 {i : Nat} {ti : Tp} {e : D} {n : Int} {p : Bool} {ds ds' : List D} {j : Nat} (h1 : rdT ρ ti = some (.int n)) (h2 : ρ[i]? = some (some (.o false p, .list ds))) (h3 : ixN ds.length n = some j) (h4 : ds.set j e = ds') (s : Zg ρ i (some (.o false p, .list ds')) ρ') (q : N ρ') : WSI i ρ ti e N := ⟨n, p, ds, j, h1, h2, h3, by rw [h4, s.eq]; exact q⟩
theorem ws_setI {i : Nat} {a b : RE} {p : Bool} {ds : List D} (hi : ρ[i]? = some (some (.o false p, .list ds))) (h : We a ρ (fun ρ1 t1 => We b ρ1 (fun ρ2 t2 => WSt ρ2 t1 fun ρ3 e => WSI i ρ3 t2 e N) E) E) : Ws (Ka i a b) ρ N B C R E := by
 unfold Ws Ka
 rw [hi]
 unfold Vm.r2
 refine zb (zg h (fun ρ1 t1 h1 => ?_) (fun _ _ q => q))
 refine zb (zg h1 (fun ρ2 t2 h2 => ?_) (fun _ _ q => q))
 obtain ⟨ρ3, e, e1, n, p', ds', j, e2, e3, e4, q⟩ := h2
 unfold WF
 simp only [e1, e2, e3, e4]
 exact wxo q
def WDP (i : Nat) (ρ : Env) (tk : Tp) (e : D) (N : Env → Prop) : Prop := ∃ k u p kds kk, rdT ρ tk = some k ∧ ρ[i]? = some (some (.o u p, .dict kds)) ∧ keyOf u k = some kk ∧ kds.length < sizeLine ∧ N (ρ.set i (some (.o u p, .dict (kh kds kk k e))))
theorem wdp_of {i : Nat} {tk : Tp} {e k : D} {u p : Bool} {kds kds' : List (D × D)} {kk : Key ⊕ List Key} (h1 : rdT ρ tk = some k) (h2 : ρ[i]? = some (some (.o u p, .dict kds))) (h3 : keyOf u k = some kk) (h4 : kds.length < sizeLine) (h5 : kh kds kk k e = kds') (s : Zg ρ i (some (.o u p, .dict kds')) ρ') (q : N ρ') : WDP i ρ tk e N := ⟨k, u, p, kds, kk, h1, h2, h3, h4, by rw [h5, s.eq]; exact q⟩
theorem ws_dput {i : Nat} {a b : RE} {u p : Bool} {kds : List (D × D)} (hi : ρ[i]? = some (some (.o u p, .dict kds))) (h : We a ρ (fun ρ1 t1 => We b ρ1 (fun ρ2 t2 => WSt ρ2 t1 fun ρ3 e => WDP i ρ3 t2 e N) E) E) : Ws (KZ i a b) ρ N B C R E := by
 unfold Ws KZ
 rw [hi]
 unfold Vm.r2
 refine zb (zg h (fun ρ1 t1 h1 => ?_) (fun _ _ q => q))
 refine zb (zg h1 (fun ρ2 t2 h2 => ?_) (fun _ _ q => q))
 obtain ⟨ρ3, e, e1, k, u', p', kds', kk, e2, e3, e4, e5, q⟩ := h2
 unfold yo
 simp only [e1, e2, e3, e4]
 rw [if_pos e5]
 exact wxo q
def WAu (i : Nat) (f : D → D → Option Rz) (ρ : Env) (tp : Tp) (N : Env → Prop) : Prop := ∃ d e z, rdT ρ (.sl i) = some d ∧ rdT ρ tp = some e ∧ f d e = some z ∧ vK ρ i z.tp N
theorem ws_aug {i : Nat} {f : D → D → Option Rz} {r : RE} {x : Fg × D} (hi : ρ[i]? = some (some x)) (h : We r ρ (fun ρ1 tp => WAu i f ρ1 tp N) E) : Ws (Wj i f r) ρ N B C R E := by
 unfold Ws Wj zp
 rw [hi]
 refine zb (zg h (fun ρ1 t1 h1 => ?_) (fun _ _ q => q))
 obtain ⟨d, e, z, e1, e2, e3, ρ2, e4, q⟩ := h1
 simp only [e1, e2, e3, e4]
 exact wxo q
theorem ws_raise {x : Str} (h : E ρ ⟨x, none⟩) : Ws (zaz x) ρ N B C R E := wxe h
def WRG (x f : Str) (ρ : Env) (tp : Tp) (E : XP) : Prop := ∃ n, rdT ρ tp = some (.int n) ∧ n.natAbs.log2 < 1920 ∧ E ρ ⟨x, some (f, n)⟩
theorem ws_raiseG {x f : Str} {r : RE} (h : We r ρ (fun ρ1 tp => WRG x f ρ1 tp E) E) : Ws (yP x f r) ρ N B C R E :=
 zb (zg h (fun ρ1 tp ⟨n, e, hl, q⟩ => by simp only [e]; rw [if_pos hl]; exact wxe q) (fun _ _ q => q))
def zbF (su : RS) (sub : Str → Option Bool) (i : Nat) (N B C : Env → Prop) (R : Env → Tp → Prop) (E : XP) (ρ : Env) (x : Xn) : Prop := (sub x.cls = some true ∧ qb ρ i = false ∧ Ws su (ρ.set i (some (.e, V8 x))) (fun ρ2 => N (ρ2.set i none)) (fun ρ2 => B (ρ2.set i none)) (fun ρ2 => C (ρ2.set i none)) (fun ρ2 t => (∀ j, t ≠ .sl j) ∧ R (ρ2.set i none) t) (fun _ _ => False)) ∨ (sub x.cls = some false ∧ E ρ x)
theorem ws_try {b su : RS} {sub : Str → Option Bool} {i : Nat} (h : Ws b ρ N B C R (zbF su sub i N B C R E)) : Ws (zbm b sub i su) ρ N B C R E := by
 unfold Ws zbm at *
 generalize b ρ = o at h
 cases o with
 | stk => (unfold Wx at *; exact h)
 | ok ρ1 fl => (unfold Wx at *; exact h)
 | er ρ1 x =>
  rcases vM h with ⟨h1, h2, h3⟩ | ⟨h1, h2⟩
  ·simp only [h1, h2]
   rw [if_neg Bool.false_ne_true]
   unfold Ws at h3
   generalize su (ρ1.set i (some (.e, V8 x))) = o2 at h3
   cases o2 with
   | stk => (unfold Wx at *; exact h3)
   | er ρ2 y => (unfold Wx at *; exact h3)
   | ok ρ2 fl =>
    cases fl with
    | nx => (unfold Wx at *; exact h3)
    | bk => (unfold Wx at *; exact h3)
    | ct => (unfold Wx at *; exact h3)
    | rt t =>
     obtain ⟨q1, q2⟩ := Jy h3
     cases t with
     | sl j => exact absurd rfl (q1 j)
     | fz d => exact wxo q2
     | ow u d => exact wxo q2
     | tr d => exact wxo q2
  ·simp only [h1]
   exact wxe h2
theorem wtry_t {su : RS} {sub : Str → Option Bool} {i : Nat} {x : Xn} {d : D} (h1 : sub x.cls = some true) (h2 : qb ρ i = false) (hx : V8 x = d) (s : Zg ρ i (some (.e, d)) ρ') (h : Ws su ρ' (fun ρ2 => WW ρ2 [i] N) (fun ρ2 => WW ρ2 [i] B) (fun ρ2 => WW ρ2 [i] C) (fun ρ2 t => (∀ j, t ≠ .sl j) ∧ WW ρ2 [i] fun ρ3 => R ρ3 t) (fun _ _ => False)) : zbF su sub i N B C R E ρ x := .inl ⟨h1, h2, by rw [hx, s.eq]; exact h⟩
theorem encX_n {c : Str} : V8 ⟨c, none⟩ = .tuple [.str c] := rfl
theorem encX_s {c f : Str} {n : Int} : V8 ⟨c, some (f, n)⟩ = .tuple [.str c, .str f, .int n] := rfl
theorem we_isE {i : Nat} {tab : Str → Option Bool} {c : Str} {r : List D} {b : Bool} (h1 : ρ[i]? = some (some (.e, .tuple (.str c :: r)))) (h2 : tab c = some b) (q : Q ρ (.fz (.bool b))) : We (Vm.rIsE i tab) ρ Q E := by
 unfold We Vm.rIsE
 simp only [h1, h2]
 exact wxo q
theorem we_fldE {i : Nat} {x f : Str} {n : Int} (h1 : ρ[i]? = some (some (.e, .tuple [.str x, .str f, .int n]))) (q : Q ρ (.fz (.int n))) : We (Y7 i x f) ρ Q E := by
 unfold We Y7
 simp only [h1]
 rw [if_pos (by simp)]
 exact wxo q
section
variable {QI : Env → List D → Prop}
def WR1 (ρ : Env) (t1 : Tp) (QI : Env → List D → Prop) : Prop := ∃ j : Int, rdT ρ t1 = some (.int j) ∧ -1000000 ≤ j ∧ j ≤ 1000000 ∧ QI ρ (rgD 0 j.toNat)
theorem wr1_of {t1 : Tp} {j : Int} (h1 : rdT ρ t1 = some (.int j)) (h2 : -1000000 ≤ j ∧ j ≤ 1000000) (q : QI ρ (rgD 0 j.toNat)) : WR1 ρ t1 QI := ⟨j, h1, h2.1, h2.2, q⟩
theorem wr1_n {t1 : Tp} {n : Nat} (h1 : rdT ρ t1 = some (.int (n : Int))) (h2 : n ≤ 1000000) (q : QI ρ (rgD 0 n)) : WR1 ρ t1 QI := ⟨n, h1, by omega, by omega, q⟩
theorem wi_rng1 {a : RE} (h : We a ρ (fun ρ1 t1 => WR1 ρ1 t1 QI) E) : Wi (Xw a) ρ QI E :=
 zb (zg h (fun ρ1 tp ⟨j, e, h1, h2, q⟩ => by simp only [e]; rw [if_pos (by omega)]; exact wxo q) (fun _ _ q => q))
def WR2 (ρ : Env) (t1 t2 : Tp) (QI : Env → List D → Prop) : Prop := ∃ i j : Int, rdT ρ t1 = some (.int i) ∧ rdT ρ t2 = some (.int j) ∧ -1000000 ≤ i ∧ i ≤ 1000000 ∧ -1000000 ≤ j ∧ j ≤ 1000000 ∧ QI ρ (rgD i (j - i).toNat)
theorem wr2_of {t1 t2 : Tp} {i j : Int} {n : Nat} (h1 : rdT ρ t1 = some (.int i)) (h2 : rdT ρ t2 = some (.int j)) (h3 : -1000000 ≤ i ∧ i ≤ 1000000 ∧ -1000000 ≤ j ∧ j ≤ 1000000) (hn : (j - i).toNat = n) (q : QI ρ (rgD i n)) : WR2 ρ t1 t2 QI := ⟨i, j, h1, h2, h3.1, h3.2.1, h3.2.2.1, h3.2.2.2, by rw [hn]; exact q⟩
theorem wi_rng2 {a b : RE} (h : We a ρ (fun ρ1 t1 => We b ρ1 (fun ρ2 t2 => WR2 ρ2 t1 t2 QI) E) E) : Wi (VB a b) ρ QI E := by
 unfold Wi VB Vm.r2
 refine zb (zg h (fun ρ1 t1 h1 => ?_) (fun _ _ q => q))
 refine zb (zg h1 (fun ρ2 t2 h2 => ?_) (fun _ _ q => q))
 obtain ⟨i, j, e1, e2, h1, h2, h3, h4, q⟩ := h2
 simp only [e1, e2]
 rw [if_pos (by omega)]
 exact wxo q
theorem we_lrg1 {a : RE} (h : We a ρ (fun ρ1 t1 => WR1 ρ1 t1 fun ρ l => Q ρ (.ow false (.list l))) E) : We (wI a) ρ Q E :=
 zb (zg h (fun ρ1 tp ⟨j, e, h1, h2, q⟩ => by simp only [e]; rw [if_pos (by omega)]; exact wxo q) (fun _ _ q => q))
theorem we_lrg2 {a b : RE} (h : We a ρ (fun ρ1 t1 => We b ρ1 (fun ρ2 t2 => WR2 ρ2 t1 t2 fun ρ l => Q ρ (.ow false (.list l))) E) E) : We (KH a b) ρ Q E := by
 unfold We KH Vm.r2
 refine zb (zg h (fun ρ1 t1 h1 => ?_) (fun _ _ q => q))
 refine zb (zg h1 (fun ρ2 t2 h2 => ?_) (fun _ _ q => q))
 obtain ⟨i, j, e1, e2, h1, h2, h3, h4, q⟩ := h2
 simp only [e1, e2]
 rw [if_pos (by omega)]
 exact wxo q
def WK (ρ : Env) (tp : Tp) (Q : Env → D → Prop) : Prop := ∃ ρ2 d, wk ρ tp = some (ρ2, d) ∧ Q ρ2 d
theorem wk_b {j : Nat} {d : D} {Q : Env → D → Prop} (hj : ρ[j]? = some (some (.b, d))) (h : Q ρ d) : WK ρ (.sl j) Q := ⟨ρ, d, by unfold wk; simp only [hj], h⟩
theorem wk_st {tp : Tp} {Q : Env → D → Prop} (h : WSt ρ tp Q) : WK ρ tp Q := by
 obtain ⟨ρ2, d, e, q⟩ := h
 refine ⟨ρ2, d, ?_, q⟩
 unfold wk
 split
 ·rename_i i
  split
  ·rename_i d' h'
   unfold stF at e
   simp only [h'] at e
   exact nomatch e
  ·exact e
 ·exact e
theorem wi_itL {a : RE} (h : We a ρ (fun ρ1 tp => WK ρ1 tp fun ρ2 d => ∃ ds, d = .list ds ∧ QI ρ2 ds) E) : Wi (yx a) ρ QI E :=
 zb (zg h (fun ρ1 tp ⟨ρ2, d, e, ds, hd, q⟩ => by subst hd; simp only [e]; exact wxo q) (fun _ _ q => q))
theorem wi_itT {a : RE} (h : We a ρ (fun ρ1 tp => WK ρ1 tp fun ρ2 d => ∃ ds, d = .tuple ds ∧ QI ρ2 ds) E) : Wi (zax a) ρ QI E :=
 zb (zg h (fun ρ1 tp ⟨ρ2, d, e, ds, hd, q⟩ => by subst hd; simp only [e]; exact wxo q) (fun _ _ q => q))
theorem wi_itE {a : RE} (h : We a ρ (fun ρ1 tp => WK ρ1 tp fun ρ2 d => ∃ ds, d = .list ds ∧ QI ρ2 (enD ds)) E) : Wi (zbZ a) ρ QI E :=
 zb (zg h (fun ρ1 tp ⟨ρ2, d, e, ds, hd, q⟩ => by subst hd; simp only [e]; exact wxo q) (fun _ _ q => q))
theorem wi_itET {a : RE} (h : We a ρ (fun ρ1 tp => WK ρ1 tp fun ρ2 d => ∃ ds, d = .tuple ds ∧ QI ρ2 (enD ds)) E) : Wi (za7 a) ρ QI E :=
 zb (zg h (fun ρ1 tp ⟨ρ2, d, e, ds, hd, q⟩ => by subst hd; simp only [e]; exact wxo q) (fun _ _ q => q))
theorem Wz {a : RE} (h : We a ρ (fun ρ1 tp => ∃ x, rdT ρ1 tp = some (.str x) ∧ QI ρ1 (x.cps.toList.map fun c => .str (sgn c))) E) : Wi (YK a) ρ QI E :=
 zb (zg h (fun ρ1 tp ⟨x, e, q⟩ => by simp only [e]; exact wxo q) (fun _ _ q => q))
end
theorem ws_for {ri : Env → Out (List D)} {f : Env → D → Option Env} {b : RS} (h : Wi ri ρ (fun ρ1 ds => Ws (Qa f b ds) ρ1 N B C R E) E) : Ws (K9 ri f b) ρ N B C R E := zb h
theorem wV {α : Type} {f : Env → D → Option Env} {b : RS} {xs : List α} (enc : α → D) (I : List α → Env → Prop) (h0 : I [] ρ)
  (st : ∀ (pre : List α) (x : α) (post : List α) (ρ : Env), xs = pre ++ x :: post → I pre ρ → WG f ρ (enc x) fun ρ1 => Ws b ρ1 (I (pre ++ [x])) N (I (pre ++ [x])) R E) (en : ∀ ρ, I xs ρ → N ρ) : Ws (Qa f b (xs.map enc)) ρ N B C R E := by
 have h : ∀ (ys pre : List α) (ρ : Env), xs = pre ++ ys → I pre ρ → Ws (Qa f b (ys.map enc)) ρ N B C R E := by
  intro ys
  induction ys with
  | nil => intro pre ρ ha h; exact wxo (en ρ (by rw [ha, List.append_nil]; exact h))
  | cons d ys ih =>
   intro pre ρ ha h
   obtain ⟨ρ1, e1, h1⟩ := st pre d ys ρ ha h
   have ih : ∀ ρ2, I (pre ++ [d]) ρ2 → Ws (Qa f b (ys.map enc)) ρ2 N B C R E := fun ρ2 h2 => ih (pre ++ [d]) ρ2 (by rw [ha, List.append_assoc]; rfl) h2
   rw [List.map_cons]
   unfold Ws Qa
   simp only [e1]
   unfold Ws at h1
   generalize b ρ1 = o at h1
   cases o with
   | stk => (unfold Wx at *; exact h1)
   | er ρ2 x => (unfold Wx at *; exact h1)
   | ok ρ2 fl =>
    cases fl with
    | nx => exact ih ρ2 (Jy h1)
    | ct => exact ih ρ2 (Jy h1)
    | bk => (unfold Wx at *; exact h1)
    | rt t => (unfold Wx at *; exact h1)
 exact h xs [] ρ rfl h0
theorem jD {f : Env → D → Option Env} {b : RS} {lo : Int} {n : Nat} (I : Nat → Env → Prop) (h0 : I 0 ρ)
  (st : ∀ (k : Nat) (ρ : Env), k < n → I k ρ → WG f ρ (.int (lo + (k : Int))) fun ρ1 => Ws b ρ1 (I (k + 1)) N (I (k + 1)) R E) (en : ∀ ρ, I n ρ → N ρ) : Ws (Qa f b (rgD lo n)) ρ N B C R E := by
 unfold rgD
 refine wV (xs := List.range n) (fun i : Nat => PyData.int (lo + (i : Int))) (fun pre ρ => I pre.length ρ) h0 (fun pre x post ρ e h => ?_) (fun ρ h => en ρ (by rw [List.length_range] at h; exact h))
 have hx : x = pre.length := by
  have := congrArg (fun l => l[pre.length]?) e
  simp at this
  have hl := congrArg List.length e
  simp at hl
  rw [List.getElem?_range (by omega)] at this
  simpa using this.symm
 subst hx
 have hl := congrArg List.length e
 simp at hl
 rw [List.length_append, List.length_singleton]
 exact st _ ρ (by omega) h
theorem we_lc {ri : Env → Out (List D)} {f : Env → D → Option Env} {rt : RT} {re : RE} {vs : List Nat} (h : Wi ri ρ (fun ρ1 ds => Wx (qD f rt re vs ds [] ρ1) (fun ρ2 es => Q ρ2 (.ow false (.list es))) E) E) : We (rLc ri f rt re vs) ρ Q E := zb (zg h (fun _ _ q => zb (zg q (fun _ _ q => wxo q) (fun _ _ q => q))) (fun _ _ q => q))
theorem Vv {α : Type} {f : Env → D → Option Env} {rt : RT} {re : RE} {vs : List Nat} {xs : List α} {QC : Env → List D → Prop} (enc : α → D) (I : List α → List D → Env → Prop) (h0 : I [] [] ρ)
  (st : ∀ (pre : List α) (x : α) (post : List α) (acc : List D) (ρ : Env), xs = pre ++ x :: post → I pre acc ρ → WG f (zG ρ vs) (enc x) fun ρ1 => Wt rt ρ1 (fun ρ2 t => if t = true then We re ρ2 (fun ρ3 tp => WSt ρ3 tp fun ρ4 e => acc.length < sizeLine ∧ I (pre ++ [x]) (acc ++ [e]) (zG ρ4 vs)) (fun _ _ => False) else I (pre ++ [x]) acc (zG ρ2 vs)) (fun _ _ => False))
  (en : ∀ acc ρ, I xs acc ρ → QC ρ acc) : Wx (qD f rt re vs (xs.map enc) [] ρ) QC E := by
 have h : ∀ (ys pre : List α) (acc : List D) (ρ : Env), xs = pre ++ ys → I pre acc ρ → Wx (qD f rt re vs (ys.map enc) acc ρ) QC E := by
  intro ys
  induction ys with
  | nil => intro pre acc ρ ha h; unfold qD; exact wxo (en acc ρ (by rw [ha, List.append_nil]; exact h))
  | cons d ys ih =>
   intro pre acc ρ ha h
   obtain ⟨ρ1, e1, h1⟩ := st pre d ys acc ρ ha h
   rw [List.map_cons]
   unfold qD
   simp only [e1]
   refine zb (vB (zg h1 (fun ρ2 t q => ?_) (fun _ _ q => q)))
   cases t with
   | false => rw [if_neg Bool.false_ne_true] at q ⊢; exact ih (pre ++ [d]) acc _ (by rw [ha, List.append_assoc]; rfl) q
   | true =>
    rw [if_pos rfl] at q ⊢
    refine zb (vB (zg q (fun ρ3 tp q => ?_) (fun _ _ q => q)))
    obtain ⟨ρ4, e, e4, hl, q⟩ := q
    simp only [e4]
    rw [if_pos hl]
    exact ih (pre ++ [d]) (acc ++ [e]) _ (by rw [ha, List.append_assoc]; rfl) q
 exact h xs [] [] ρ rfl h0
end
def RtQ (np : Nat) (Q : Rz → Env → Prop) (ρ : Env) : Tp → Prop
 | .fz d => Q (.fz d) (qW np ρ)
 | .ow u d => Q (.ow u d) (qW np ρ)
 | .tr d => Q (.tr d) (qW np ρ)
 | .sl _ => False
theorem zaD {np n : Nat} {r : RS} {args : List (Fg × D)} {ρ0 : Env} {Q : Rz → Env → Prop} {E : Xn → Env → Prop} (hl : args.length = np) (h0 : args.map some ++ List.replicate (n - np) none = ρ0)
  (h : Ws r ρ0 (fun ρ => Q (.fz .none) (qW np ρ)) (fun _ => False) (fun _ => False) (RtQ np Q) (fun ρ x => E x (qW np ρ))) : Wf (ZP np n r args) Q E := by
 unfold ZP
 rw [if_pos hl, h0]
 unfold Ws at h
 generalize r ρ0 = o at h
 cases o with
 | stk => exact wxs h
 | er ρ x => exact wfe (vM h)
 | ok ρ fl =>
  have h := Jy h
  cases fl with
  | nx => exact wfo h
  | bk => exact False.elim h
  | ct => exact False.elim h
  | rt t => cases t with
   | sl i => exact False.elim h
   | fz d => exact wfo h
   | ow u d => exact wfo h
   | tr d => exact wfo h
theorem we_ixSc {ρ : Env} {Q : Env → Tp → Prop} {E : XP} {i : Nat} {r : RE} {ds : List D} (hi : ρ[i]? = some (some (.s, .list ds))) (h : We r ρ (fun ρ1 tp => ∃ j n, rdT ρ1 tp = some (.int j) ∧ atI ds j = some (.int n) ∧ Q ρ1 (.fz (.int n))) E) : We (Km i r) ρ Q E := by
 unfold We Km
 rw [hi]
 refine zb (zg h (fun ρ1 t1 h1 => ?_) (fun _ _ q => q))
 obtain ⟨j, n, e1, e2, q⟩ := h1
 simp only [e1, e2]
 exact wxo q
theorem ws_dry {r : RS} {ρ : Env} {N B C : Env → Prop} {R : Env → Tp → Prop} {E : XP} (h : Ws r ρ N B C R (fun _ _ => False)) : Ws (fun ρ => (r ρ).dry) ρ N B C R E := vB h
def WU (ρ : Env) (i : Nat) (g : Fg) (N : Env → Prop) : Prop := ∃ d, ρ[i]? = some (some (.l, d)) ∧ N (ρ.set i (some (g, d)))
theorem wu_ {ρ ρ' : Env} {i : Nat} {g : Fg} {d : D} {N : Env → Prop} (h1 : ρ[i]? = some (some (.l, d))) (s : Zg ρ i (some (g, d)) ρ') (h : N ρ') : WU ρ i g N := ⟨d, h1, by rw [s.eq]; exact h⟩
section
variable {ρ ρ' ρ1 : Env} {N B C : Env → Prop} {R : Env → Tp → Prop} {E : XP} {i : Nat} {kds : List (D × D)} {r : RS} {g : Fg}
theorem xJ (h : Ws r (ρ.set i (some (.l, .dict kds))) (fun ρ2 => WU ρ2 i g N) (fun ρ2 => WU ρ2 i g B) (fun ρ2 => WU ρ2 i g C) (fun ρ2 t => (∀ j, t ≠ .sl j) ∧ WU ρ2 i g fun ρ3 => R ρ3 t) (fun _ _ => False)) : Wx (QW i g kds r ρ) (flP N B C R) E := by
 unfold QW
 unfold Ws at h
 generalize r (ρ.set i (some (.l, .dict kds))) = o at h
 cases o with
 | stk => exact wxs h
 | er ρ2 x => exact False.elim (vM h)
 | ok ρ2 fl =>
  have h := Jy h
  cases fl with
  | nx => obtain ⟨d, e, q⟩ := h; simp only [e]; exact wxo q
  | bk => obtain ⟨d, e, q⟩ := h; simp only [e]; exact wxo q
  | ct => obtain ⟨d, e, q⟩ := h; simp only [e]; exact wxo q
  | rt t =>
   obtain ⟨ht, d, e, q⟩ := h
   cases t with
   | sl j => exact absurd rfl (ht j)
   | fz d' => simp only [e]; exact wxo q
   | ow u d' => simp only [e]; exact wxo q
   | tr d' => simp only [e]; exact wxo q
class Xd (kds : List (D × D)) : Prop where
 h : Vy (.dict kds) = false
instance : Xd [] := ⟨rfl⟩
instance {i : Int} {v : D} {l : List (D × D)} : Xd ((.int i, v) :: l) := ⟨rfl⟩
instance {i : Str} {v : D} {l : List (D × D)} : Xd ((.str i, v) :: l) := ⟨rfl⟩
instance {i : List D} {v : D} {l : List (D × D)} : Xd ((.tuple i, v) :: l) := ⟨rfl⟩
theorem jm {α : Type} {f : α → D × D} (h : ∀ x d, (f x).1 ≠ .list d) (h0 : ∀ x, (f x).1 ≠ .none) (l : List α) : Xd (l.map f) := ⟨by
 cases l with
 | nil => rfl
 | cons x t =>
  rw [List.map_cons]
  unfold Vy
  split
  ·rename_i e
   injection e with e1
   injection e1 with e2
   exact absurd (congrArg Prod.fst e2) (h x _)
  ·rename_i e
   injection e with e1
   injection e1 with e2
   exact absurd (congrArg Prod.fst e2) (h0 x)
  ·rfl⟩
theorem ws_lockF (hi : ρ[i]? = some (some (.f, .dict kds))) (hE : noE ρ = true) (nn : Xd kds) (s : Zg ρ i (some (.l, .dict kds)) ρ1) (h : Ws r ρ1 (fun ρ2 => WU ρ2 i .f N) (fun ρ2 => WU ρ2 i .f B) (fun ρ2 => WU ρ2 i .f C) (fun ρ2 t => (∀ j, t ≠ .sl j) ∧ WU ρ2 i .f fun ρ3 => R ρ3 t) (fun _ _ => False)) : Ws (Ja i r) ρ N B C R E := by
 have e : wk ρ (.sl i) = some (ρ, .dict kds) := by unfold wk stF; simp only [hi]
 unfold Ws Ja
 simp only [e, hi]
 rw [if_pos hE]
 simp only [nn.h, Bool.false_eq_true, if_false]
 exact xJ (by rw [s.eq]; exact h)
theorem ws_lockB (hi : ρ[i]? = some (some (.b, .dict kds))) (hE : noE ρ = true) (nn : Xd kds) (s : Zg ρ i (some (.l, .dict kds)) ρ1) (h : Ws r ρ1 (fun ρ2 => WU ρ2 i .b N) (fun ρ2 => WU ρ2 i .b B) (fun ρ2 => WU ρ2 i .b C) (fun ρ2 t => (∀ j, t ≠ .sl j) ∧ WU ρ2 i .b fun ρ3 => R ρ3 t) (fun _ _ => False)) : Ws (Ja i r) ρ N B C R E := by
 have e : wk ρ (.sl i) = some (ρ, .dict kds) := by unfold wk; simp only [hi]
 unfold Ws Ja
 simp only [e, hi]
 rw [if_pos hE]
 simp only [nn.h, Bool.false_eq_true, if_false]
 exact xJ (by rw [s.eq]; exact h)
theorem ws_lockO {u : Bool} (hi : ρ[i]? = some (some (.o u false, .dict kds))) (s0 : Zg ρ i (some (.f, .dict kds)) ρ') (hi2 : ρ'[i]? = some (some (.f, .dict kds))) (hE : noE ρ' = true) (nn : Xd kds) (s : Zg ρ' i (some (.l, .dict kds)) ρ1) (h : Ws r ρ1 (fun ρ2 => WU ρ2 i .f N) (fun ρ2 => WU ρ2 i .f B) (fun ρ2 => WU ρ2 i .f C) (fun ρ2 t => (∀ j, t ≠ .sl j) ∧ WU ρ2 i .f fun ρ3 => R ρ3 t) (fun _ _ => False)) : Ws (Ja i r) ρ N B C R E := by
 have e : wk ρ (.sl i) = some (ρ', .dict kds) := by unfold wk stF; simp only [hi]; rw [s0.eq]
 unfold Ws Ja
 simp only [e, hi2]
 rw [if_pos hE]
 simp only [nn.h, Bool.false_eq_true, if_false]
 exact xJ (by rw [s.eq]; exact h)
theorem ws_lockOO {u p : Bool} (hi : ρ[i]? = some (some (.o u p, .dict kds))) (hE : pl0 ρ = true) (s : Zg ρ i (some (.l, .dict kds)) ρ1) (h : Ws r ρ1 (fun ρ2 => WU ρ2 i (.o u p) fun ρ3 => pl0 ρ3 = true ∧ N ρ3) (fun ρ2 => WU ρ2 i (.o u p) fun ρ3 => pl0 ρ3 = true ∧ B ρ3) (fun ρ2 => WU ρ2 i (.o u p) fun ρ3 => pl0 ρ3 = true ∧ C ρ3) (fun ρ2 t => (∀ j, t ≠ .sl j) ∧ WU ρ2 i (.o u p) fun ρ3 => pl0 ρ3 = true ∧ R ρ3 t) (fun _ _ => False)) : Ws (yg i r) ρ N B C R E := by
 unfold Ws yg
 simp only [hi]
 rw [if_pos hE]
 have q : Wx (QW i (.o u p) kds r ρ) (flP (fun ρ3 => pl0 ρ3 = true ∧ N ρ3) (fun ρ3 => pl0 ρ3 = true ∧ B ρ3) (fun ρ3 => pl0 ρ3 = true ∧ C ρ3) (fun ρ3 t => pl0 ρ3 = true ∧ R ρ3 t)) (fun _ _ => False) := xJ (by rw [s.eq]; exact h)
 generalize QW i (.o u p) kds r ρ = o at q
 cases o with
 | stk => exact wxs q
 | er ρ2 x => exact False.elim (vM q)
 | ok ρ2 fl =>
  have q := Jy q
  cases fl with
  | nx => simp only []; rw [if_pos q.1]; exact wxo q.2
  | bk => simp only []; rw [if_pos q.1]; exact wxo q.2
  | ct => simp only []; rw [if_pos q.1]; exact wxo q.2
  | rt t => simp only []; rw [if_pos q.1]; exact wxo q.2
theorem wi_itD {QI : Env → List D → Prop} (hi : ρ[i]? = some (some (.l, .dict kds))) (q : QI ρ (kds.map (·.1))) : Wi (zbf i) ρ QI E := by
 unfold Wi zbf; simp only [hi]; exact wxo q
end
end Vm
namespace Vm
open PySem PySem.Spec PyProof.Rows L2 Fz
class jr (z : Rz) (tp : outParam Tp) : Prop where
 eq : z.tp = tp
instance {d : D} : jr (.fz d) (.fz d) := ⟨rfl⟩
instance {u : Bool} {d : D} : jr (.ow u d) (.ow u d) := ⟨rfl⟩
section
variable {ρ ρ' ρ2 : Env} {Q : Env → Tp → Prop} {E : XP} {N : Env → Prop}
theorem o2_ {f : D → D → Option Rz} {t1 t2 : Tp} {d e : D} {z : Rz} {tp : Tp} (h1 : rdT ρ t1 = some d) (h2 : rdT ρ t2 = some e) (h3 : f d e = some z) (ht : jr z tp) (q : Q ρ tp) : WO2 f ρ t1 t2 Q := ⟨d, e, z, h1, h2, h3, by rw [ht.eq]; exact q⟩
theorem zcG {f : D → D → Option Rz} {t1 t2 : Tp} {d e : D} {z : Rz} {tp : Tp} (h1 : rdT ρ t1 = some d) (h2 : rdT ρ t2 = some e) (h3 : f d e = some z) [ht : jr z tp] (q : Q ρ tp) : WO2 f ρ t1 t2 Q := o2_ h1 h2 h3 ht q
theorem o1_ {f : D → Option Rz} {t1 : Tp} {d : D} {z : Rz} {tp : Tp} (h1 : rdT ρ t1 = some d) (h3 : f d = some z) (ht : jr z tp) (q : Q ρ tp) : WO1 f ρ t1 Q := ⟨d, z, h1, h3, by rw [ht.eq]; exact q⟩
theorem zcH {f : D → Option Rz} {t1 : Tp} {d : D} {z : Rz} {tp : Tp} (h1 : rdT ρ t1 = some d) (h3 : f d = some z) [ht : jr z tp] (q : Q ρ tp) : WO1 f ρ t1 Q := o1_ h1 h3 ht q
theorem sl_ {f : D → Option Int → Option Int → Option Rz} {tp tp2 : Tp} {l h : Option Int} {d : D} {z : Rz} (h1 : rdT ρ tp = some d) (h2 : f d l h = some z) (ht : jr z tp2) (q : Q ρ tp2) : WSl f ρ tp l h Q := ⟨d, z, h1, h2, by rw [ht.eq]; exact q⟩
theorem zcI {f : D → Option Int → Option Int → Option Rz} {tp tp2 : Tp} {l h : Option Int} {d : D} {z : Rz} (h1 : rdT ρ tp = some d) (h2 : f d l h = some z) [ht : jr z tp2] (q : Q ρ tp2) : WSl f ρ tp l h Q := sl_ h1 h2 ht q
theorem au_ {i : Nat} {f : D → D → Option Rz} {tp tp2 : Tp} {d e : D} {z : Rz} (h1 : rdT ρ (.sl i) = some d) (h2 : rdT ρ tp = some e) (h3 : f d e = some z) (ht : jr z tp2) (q : vK ρ i tp2 N) : WAu i f ρ tp N := ⟨d, e, z, h1, h2, h3, by rw [ht.eq]; exact q⟩
theorem ch_ {f g : D → D → Option Rz} {c : RE} {e d : D} {t1 : Tp} {x : Bool} (h1 : rdT ρ t1 = some d) (h2 : f d e = some (.fz (.bool x))) (q : if x = true then We c ρ (fun ρ3 t3 => WO2 g ρ3 (.fz e) t3 Q) E else Q ρ (.fz (.bool false))) :
  ∃ e' d x, (Tp.fz e) = .fz e' ∧ rdT ρ t1 = some d ∧ f d e' = some (.fz (.bool x)) ∧ if x = true then We c ρ (fun ρ3 t3 => WO2 g ρ3 (.fz e') t3 Q) E else Q ρ (.fz (.bool false)) := ⟨e, d, x, rfl, h1, h2, q⟩
class ql (ρ : Env) (ms : List Bool) (tps : List Tp) (io : Env) (ρ2 : outParam Env) : Prop where
 eq : Zi ρ ms tps io = some ρ2
instance {io : Env} : ql ρ [] [] io ρ := ⟨by cases io <;> rfl⟩
instance {ms : List Bool} {tp : Tp} {tps : List Tp} {x : Option (Fg × D)} {io : Env} [h : ql ρ ms tps io ρ2] : ql ρ (false :: ms) (tp :: tps) (x :: io) ρ2 := ⟨by
 rw [← h.eq]
 cases tp <;> rfl⟩
class Vu (ρ : Env) (i : Nat) (p : outParam Bool) : Prop where
 eq : ∃ u d, ρ[i]? = some (some (.o u p, d))
instance {u p : Bool} {d : D} {l : Env} : Vu (some (.o u p, d) :: l) 0 p := ⟨u, d, rfl⟩
instance {a : Option (Fg × D)} {l : Env} {n : Nat} {p : Bool} [h : Vu l n p] : Vu (a :: l) (n + 1) p := ⟨by
 obtain ⟨u, d, e⟩ := h.eq
 exact ⟨u, d, by rw [List.getElem?_cons_succ]; exact e⟩⟩
instance {ms : List Bool} {i : Nat} {tps : List Tp} {u p : Bool} {d : D} {io : Env} [o : Vu ρ i p] [s : Zg ρ i (some (.o u p, d)) ρ'] [h : ql ρ' ms tps io ρ2] : ql ρ (true :: ms) (.sl i :: tps) (some (.o u true, d) :: io) ρ2 := ⟨by
 obtain ⟨u0, d0, e⟩ := o.eq
 rw [← h.eq, ← s.eq]
 show (match ρ[i]? with
  | some (some (.o _ p, _)) => Zi (ρ.set i (some (.o u p, d))) ms tps io
  | _ => none) = _
 rw [e]⟩
instance {ms : List Bool} {u u' : Bool} {d d' : D} {tps : List Tp} {io : Env} [h : ql ρ ms tps io ρ2] : ql ρ (true :: ms) (.ow u d :: tps) (some (.o u' true, d') :: io) ρ2 := ⟨by rw [← h.eq]; rfl⟩
theorem c_ok {m : List (Fg × D) → zY} {ms : List Bool} {tps : List Tp} {as : List (Fg × D)} {z : Rz} {io : Env} {tp : Tp} (h1 : (ms.length = tps.length ∧ Qg ms tps = true)) (h2 : xM ρ ms (Zz ms tps) = some as) (h3 : m as = .ok z io) (h4 : ql ρ ms tps io ρ2) (h5 : jr z tp) (q : Q ρ2 tp) : WC m ms ρ tps Q E := zbg h1 h2 h3 h4.eq h5.eq q
theorem c_dok {m : List (Fg × D) → zY} {ms : List Bool} {tps : List Tp} {as : List (Fg × D)} {z : Rz} {io : Env} {tp : Tp} (h1 : (ms.length = tps.length ∧ Qg ms tps = true)) (h2 : xM ρ ms (Zz ms tps) = some as) (h3 : m as = .ok z io) (h4 : ql ρ ms tps io ρ2) (h5 : jr z tp) (q : Q ρ2 tp) : WC (Zy m) ms ρ tps Q E := zaF h1 h2 h3 h4.eq h5.eq q
theorem zcJ {m : List (Fg × D) → zY} {ms : List Bool} {tps : List Tp} {as : List (Fg × D)} {z : Rz} {io : Env} {tp : Tp} (h1 : (ms.length = tps.length ∧ Qg ms tps = true)) (h2 : xM ρ ms (Zz ms tps) = some as) (h3 : m as = .ok z io) [h4 : ql ρ ms tps io ρ2] [h5 : jr z tp] (q : Q ρ2 tp) : WC (Zy m) ms ρ tps Q E := c_dok h1 h2 h3 h4 h5 q
theorem c_er {m : List (Fg × D) → zY} {ms : List Bool} {tps : List Tp} {as : List (Fg × D)} {x : Xn} {io : Env} (h1 : (ms.length = tps.length ∧ Qg ms tps = true)) (h2 : xM ρ ms (Zz ms tps) = some as) (h3 : m as = .er x io) (h4 : ql ρ ms tps io ρ2) (q : E ρ2 x) : WC m ms ρ tps Q E := zbl h1 h2 h3 h4.eq q
end
def vQ (ds : List D) (n : Int) (e : D) (ds' : List D) : Prop := ∃ j, ixN ds.length n = some j ∧ ds.set j e = ds'
theorem lset0 {a e : D} {l : List D} : vQ (a :: l) 0 e (e :: l) := ⟨0, by simp [ixN], rfl⟩
theorem lset1 {a b e : D} {l : List D} : vQ (a :: b :: l) 1 e (a :: e :: l) := ⟨1, by simp [ixN]; omega, rfl⟩
theorem lset2 {a b c e : D} {l : List D} : vQ (a :: b :: c :: l) 2 e (a :: b :: e :: l) := ⟨2, by simp [ixN]; omega, rfl⟩
theorem lsetN {ds : List D} {k : Nat} {e : D} (h : k < ds.length) : vQ ds (k : Int) e (ds.set k e) := ⟨k, by simp [ixN, h], rfl⟩
theorem lsetM {α : Type} {f : α → D} {xs : List α} {k : Nat} {e : α} (h : k < xs.length) : vQ (xs.map f) (k : Int) (f e) ((xs.set k e).map f) := ⟨k, by simp [ixN, h], by rw [List.map_set]⟩
theorem lsetL {l : List D} {x e : D} : vQ (l ++ [x]) (-1) e (l ++ [e]) := ⟨l.length, by
 have h1 : (-1 + ((l.length : Int) + 1)).toNat = l.length := by omega
 have h2 : (1 : Int) ≤ (l.length : Int) + 1 := by omega
 simp [ixN, h1, h2], by simp⟩
theorem si_ {ρ ρ' : Env} {N : Env → Prop} {i : Nat} {ti : Tp} {e : D} {n : Int} {p : Bool} {ds ds' : List D} (h1 : rdT ρ ti = some (.int n)) (h2 : ρ[i]? = some (some (.o false p, .list ds))) (h3 : vQ ds n e ds') (s : Zg ρ i (some (.o false p, .list ds')) ρ') (q : N ρ') : WSI i ρ ti e N := by
 obtain ⟨j, h3, h4⟩ := h3
 exact za2 h1 h2 h3 h4 s q
class Vb (k : Nat) (l : outParam Env) : Prop where
 eq : List.replicate k none = l
instance : Vb 0 [] := ⟨rfl⟩
instance {k : Nat} {l : Env} [h : Vb k l] : Vb (k + 1) (none :: l) := ⟨by rw [List.replicate_succ, h.eq]⟩
class VD (args : List (Fg × D)) (k : Nat) (l : outParam Env) : Prop where
 eq : args.map some ++ List.replicate k none = l
instance {k : Nat} {l : Env} [h : Vb k l] : VD [] k l := ⟨h.eq⟩
instance {x : Fg × D} {as : List (Fg × D)} {k : Nat} {l : Env} [h : VD as k l] : VD (x :: as) k (some x :: l) := ⟨by rw [List.map_cons, List.cons_append, h.eq]⟩
theorem wf_run' {np n k : Nat} {r : RS} {args : List (Fg × D)} {ρ0 : Env} {Q : Rz → Env → Prop} {E : Xn → Env → Prop} (hl : args.length = np) (hn : n = k + np) (h0 : VD args k ρ0)
  (h : Ws r ρ0 (fun ρ => Q (.fz .none) (qW np ρ)) (fun _ => False) (fun _ => False) (RtQ np Q) (fun ρ x => E x (qW np ρ))) : Wf (ZP np n r args) Q E := zaD hl (by rw [hn, Nat.add_sub_cancel]; exact h0.eq) h
section
variable {i j : Int}
theorem q_add : Xx (.int i) (.int j) = some (.fz (.int (i + j))) := rfl
theorem q_sub : Yt (.int i) (.int j) = some (.fz (.int (i - j))) := rfl
theorem q_lt : oLt (.int i) (.int j) = some (.fz (.bool (decide (i < j)))) := rfl
theorem q_le : oLe (.int i) (.int j) = some (.fz (.bool (decide (i ≤ j)))) := rfl
theorem q_gt : oGt (.int i) (.int j) = some (.fz (.bool (decide (j < i)))) := rfl
theorem q_ge : oGe (.int i) (.int j) = some (.fz (.bool (decide (j ≤ i)))) := rfl
theorem q_eqI : oEq (.int i) (.int j) = some (.fz (.bool (decide (i = j)))) := rfl
theorem q_neI : oNe (.int i) (.int j) = some (.fz (.bool (!decide (i = j)))) := rfl
theorem q_eqS {i j : Str} : oEq (.str i) (.str j) = some (.fz (.bool (decide (i = j)))) := rfl
theorem q_neS {i j : Str} : oNe (.str i) (.str j) = some (.fz (.bool (!decide (i = j)))) := rfl
theorem q_eqB {i j : Bool} : oEq (.bool i) (.bool j) = some (.fz (.bool (decide (i = j)))) := rfl
theorem q_neB {i j : Bool} : oNe (.bool i) (.bool j) = some (.fz (.bool (!decide (i = j)))) := rfl
theorem q_neg : zbS (.int i) = some (.fz (.int (-i))) := rfl
theorem q_max : zbY (.int i) (.int j) = some (.fz (.int (max i j))) := by
 show some (Rz.fz (.int (if j > i then j else i))) = _
 congr 3
 split <;> omega
theorem q_min : zaj (.int i) (.int j) = some (.fz (.int (min i j))) := by
 show some (Rz.fz (.int (if j < i then j else i))) = _
 congr 3
 split <;> omega
theorem q_mul (h : (-1000000000000 ≤ j ∧ j ≤ 1000000000000) ∨ (-1000000000000 ≤ i ∧ i ≤ 1000000000000)) : jX (.int i) (.int j) = some (.fz (.int (i * j))) := by
 show (if Yy i j = true then some (Rz.fz (.int (i * j))) else none) = _
 rw [if_pos (by unfold Yy; simp only [decide_eq_true_eq]; omega)]
theorem q_mod (h : 0 < j) : Kc (.int i) (.int j) = some (.fz (.int (i % j))) := by
 show (if za0 i j = true then some (Rz.fz (.int (i % j))) else none) = _
 rw [if_pos (by unfold za0; simp only [decide_eq_true_eq]; omega)]
theorem q_div (h : 0 < j ∧ j ≤ 1000000000000000) : yR (.int i) (.int j) = some (.fz (.int (i / j))) := by
 show (if WL i j = true then some (Rz.fz (.int (i / j))) else none) = _
 rw [if_pos (by unfold WL; simp only [decide_eq_true_eq]; omega)]
theorem q_pow12 : vP (.int 10) (.int 12) = some (.fz (.int 1000000000000)) := rfl
theorem q_pow8 : vP (.int 10) (.int 8) = some (.fz (.int 100000000)) := rfl
def zbt : Int := 10 ^ 59
theorem q_pow59 : vP (.int 10) (.int 59) = some (.fz (.int zbt)) := by
 show (if YG 10 59 = true then some (Rz.fz (.int (10 ^ (Int.toNat 59)))) else none) = _
 rw [if_pos (by decide)]; rfl
theorem q_abs : zbW (.int i) = some (.fz (.int (if i < 0 then -i else i))) := rfl
theorem q_isN {d : D} : zbX d .none = some (.fz (.bool (isNone d))) := by cases d <;> rfl
theorem q_notN {d : D} : zbq d .none = some (.fz (.bool (!isNone d))) := by cases d <;> rfl
theorem q_lenL {ds : List D} : yW (.list ds) = some (.fz (.int ds.length)) := rfl
theorem q_lenT {ds : List D} : yW (.tuple ds) = some (.fz (.int ds.length)) := rfl
theorem q_lenLM {α : Type} {f : α → D} {xs : List α} : yW (.list (xs.map f)) = some (.fz (.int xs.length)) := by show some (Rz.fz (.int ((xs.map f).length))) = _; rw [List.length_map]
theorem q_lenTM {α : Type} {f : α → D} {xs : List α} : yW (.tuple (xs.map f)) = some (.fz (.int xs.length)) := by show some (Rz.fz (.int ((xs.map f).length))) = _; rw [List.length_map]
end
theorem atI_nat {α : Type} {l : List α} {k : Nat} (h : k < l.length) : atI l (k : Int) = some l[k] := by simp [atI, ixN, h]
theorem atI_map {α β : Type} {l : List α} {f : α → β} {k : Nat} (h : k < l.length) : atI (l.map f) (k : Int) = some (f l[k]) := by rw [atI_nat (by rw [List.length_map]; exact h)]; simp
theorem atI_last {α : Type} {l : List α} {x : α} : atI (l ++ [x]) (-1) = some x := by
 have h1 : (-1 + ((l.length : Int) + 1)).toNat = l.length := by omega
 have h2 : (1 : Int) ≤ (l.length : Int) + 1 := by omega
 simp [atI, ixN, h1, h2]
theorem q_ixL {ds : List D} {i : Int} {d : D} (h : atI ds i = some d) : Kr (.list ds) (.int i) = some (.fz d) := by
 show (match atI ds i with | some d => some (Rz.fz d) | none => none) = _
 rw [h]
theorem q_ixT {ds : List D} {i : Int} {d : D} (h : atI ds i = some d) : zb2 (.tuple ds) (.int i) = some (.fz d) := by
 show (match atI ds i with | some d => some (Rz.fz d) | none => none) = _
 rw [h]
theorem q_catL {ds es : List D} (h : ds.length + es.length ≤ sizeLine) : zad (.list ds) (.list es) = some (.ow false (.list (ds ++ es))) := if_pos h
theorem q_catT {ds es : List D} (h : ds.length + es.length ≤ sizeLine) : YW (.tuple ds) (.tuple es) = some (.fz (.tuple (ds ++ es))) := if_pos h
theorem q_app {ds : List D} {e : D} (h : ds.length < sizeLine) : QJ ds [e] = some (ds ++ [e], .none) := if_pos h
theorem YS : 1000000 ≤ sizeLine := by decide
theorem sz_lt {n : Nat} (h : n ≤ 1000000) : n ≤ sizeLine := Nat.le_trans h YS
theorem sz_lt' {n : Nat} (h : n < 1000000) : n < sizeLine := Nat.lt_of_lt_of_le h YS
theorem q_list {ds : List D} : YT (.list ds) = some (.ow false (.list ds)) := rfl
theorem q_listT {ds : List D} : YT (.tuple ds) = some (.ow false (.list ds)) := rfl
theorem q_tuple {ds : List D} : JC (.list ds) = some (.fz (.tuple ds)) := rfl
theorem q_tupleT {ds : List D} : JC (.tuple ds) = some (.fz (.tuple ds)) := rfl
theorem zu {n : String} {d : D} {b : Bool} (h1 : zbe d = true) (s : String) (h2 : dTy d = s) (h3 : kitB s n = some b) : zX n d = some (.fz (.bool b)) := by
 unfold zX; rw [if_pos h1, h2, h3]
theorem q_isi_list_list {l : List D} : zX "list" (.list l) = some (.fz (.bool true)) := zu rfl "list" rfl (by decide +kernel)
theorem q_isi_list_tuple {l : List D} : zX "list" (.tuple l) = some (.fz (.bool false)) := zu rfl "tuple" rfl (by decide +kernel)
theorem q_isi_list_int {i : Int} : zX "list" (.int i) = some (.fz (.bool false)) := zu rfl "int" rfl (by decide +kernel)
theorem q_isi_list_bool {b : Bool} : zX "list" (.bool b) = some (.fz (.bool false)) := zu rfl "bool" rfl (by decide +kernel)
theorem q_isi_list_str {s : Str} : zX "list" (.str s) = some (.fz (.bool false)) := zu rfl "str" rfl (by decide +kernel)
theorem q_isi_list_none  : zX "list" (.none) = some (.fz (.bool false)) := zu rfl "NoneType" rfl (by decide +kernel)
theorem q_isi_tuple_list {l : List D} : zX "tuple" (.list l) = some (.fz (.bool false)) := zu rfl "list" rfl (by decide +kernel)
theorem q_isi_tuple_tuple {l : List D} : zX "tuple" (.tuple l) = some (.fz (.bool true)) := zu rfl "tuple" rfl (by decide +kernel)
theorem q_isi_tuple_int {i : Int} : zX "tuple" (.int i) = some (.fz (.bool false)) := zu rfl "int" rfl (by decide +kernel)
theorem q_isi_tuple_bool {b : Bool} : zX "tuple" (.bool b) = some (.fz (.bool false)) := zu rfl "bool" rfl (by decide +kernel)
theorem q_isi_tuple_str {s : Str} : zX "tuple" (.str s) = some (.fz (.bool false)) := zu rfl "str" rfl (by decide +kernel)
theorem q_isi_tuple_none  : zX "tuple" (.none) = some (.fz (.bool false)) := zu rfl "NoneType" rfl (by decide +kernel)
theorem q_isi_int_list {l : List D} : zX "int" (.list l) = some (.fz (.bool false)) := zu rfl "list" rfl (by decide +kernel)
theorem q_isi_int_tuple {l : List D} : zX "int" (.tuple l) = some (.fz (.bool false)) := zu rfl "tuple" rfl (by decide +kernel)
theorem q_isi_int_int {i : Int} : zX "int" (.int i) = some (.fz (.bool true)) := zu rfl "int" rfl (by decide +kernel)
theorem q_isi_int_bool {b : Bool} : zX "int" (.bool b) = some (.fz (.bool true)) := zu rfl "bool" rfl (by decide +kernel)
theorem q_isi_int_str {s : Str} : zX "int" (.str s) = some (.fz (.bool false)) := zu rfl "str" rfl (by decide +kernel)
theorem q_isi_int_none  : zX "int" (.none) = some (.fz (.bool false)) := zu rfl "NoneType" rfl (by decide +kernel)
theorem q_isi_bool_list {l : List D} : zX "bool" (.list l) = some (.fz (.bool false)) := zu rfl "list" rfl (by decide +kernel)
theorem q_isi_bool_tuple {l : List D} : zX "bool" (.tuple l) = some (.fz (.bool false)) := zu rfl "tuple" rfl (by decide +kernel)
theorem q_isi_bool_int {i : Int} : zX "bool" (.int i) = some (.fz (.bool false)) := zu rfl "int" rfl (by decide +kernel)
theorem q_isi_bool_bool {b : Bool} : zX "bool" (.bool b) = some (.fz (.bool true)) := zu rfl "bool" rfl (by decide +kernel)
theorem q_isi_bool_str {s : Str} : zX "bool" (.str s) = some (.fz (.bool false)) := zu rfl "str" rfl (by decide +kernel)
theorem q_isi_bool_none  : zX "bool" (.none) = some (.fz (.bool false)) := zu rfl "NoneType" rfl (by decide +kernel)
theorem q_isi_str_list {l : List D} : zX "str" (.list l) = some (.fz (.bool false)) := zu rfl "list" rfl (by decide +kernel)
theorem q_isi_str_tuple {l : List D} : zX "str" (.tuple l) = some (.fz (.bool false)) := zu rfl "tuple" rfl (by decide +kernel)
theorem q_isi_str_int {i : Int} : zX "str" (.int i) = some (.fz (.bool false)) := zu rfl "int" rfl (by decide +kernel)
theorem q_isi_str_bool {b : Bool} : zX "str" (.bool b) = some (.fz (.bool false)) := zu rfl "bool" rfl (by decide +kernel)
theorem q_isi_str_str {s : Str} : zX "str" (.str s) = some (.fz (.bool true)) := zu rfl "str" rfl (by decide +kernel)
theorem q_isi_str_none  : zX "str" (.none) = some (.fz (.bool false)) := zu rfl "NoneType" rfl (by decide +kernel)
theorem q_isi_dict_list {l : List D} : zX "dict" (.list l) = some (.fz (.bool false)) := zu rfl "list" rfl (by decide +kernel)
theorem q_isi_dict_tuple {l : List D} : zX "dict" (.tuple l) = some (.fz (.bool false)) := zu rfl "tuple" rfl (by decide +kernel)
theorem q_isi_dict_int {i : Int} : zX "dict" (.int i) = some (.fz (.bool false)) := zu rfl "int" rfl (by decide +kernel)
theorem q_isi_dict_bool {b : Bool} : zX "dict" (.bool b) = some (.fz (.bool false)) := zu rfl "bool" rfl (by decide +kernel)
theorem q_isi_dict_str {s : Str} : zX "dict" (.str s) = some (.fz (.bool false)) := zu rfl "str" rfl (by decide +kernel)
theorem q_isi_dict_none  : zX "dict" (.none) = some (.fz (.bool false)) := zu rfl "NoneType" rfl (by decide +kernel)
theorem Ji {d e : D} {b : Bool} (h1 : SeqAt.shaped d = true) (h2 : SeqAt.shaped e = true) (h3 : PyData.eqv d e = b) : Xy d e = some (.fz (.bool b)) := by
 unfold Xy; rw [h1, h2, h3]; rfl
theorem Vf {d e : D} {b : Bool} (h1 : SeqAt.shaped d = true) (h2 : SeqAt.shaped e = true) (h3 : PyData.eqv d e = b) : VN d e = some (.fz (.bool !b)) := by
 unfold VN; rw [h1, h2, h3]; rfl
theorem zak {d : D} (h1 : SeqAt.shaped d = true) : Xy d d = some (.fz (.bool true)) := Ji h1 h1 (j5 h1)
end Vm
namespace Vm
open PySem PySem.Spec PyProof.Rows L2 Fz
def T (kv : List (Int × Int)) : List (D × D) := kv.map fun p => (PyData.int p.1, PyData.int p.2)
instance {kv : List (Int × Int)} : Xd (T kv) := jm (fun x d h => by dsimp only at h; cases h) (fun x h => by dsimp only at h; cases h) kv
def lk (kv : List (Int × Int)) (k : Int) : Option Int := (kv.find? fun p => decide (p.1 = k)).map (·.2)
theorem Xh (k i : Int) : Zx (.inl (.inl k)) (.int i) = decide (i = k) := by simp [Zx, X8]
theorem wG (kv : List (Int × Int)) (k : Int) : Zb (T kv) (.inl (.inl k)) = (lk kv k).map PyData.int := by
 induction kv with
 | nil => rfl
 | cons p r ih =>
  unfold T Zb lk at ih ⊢
  rw [List.map_cons, List.find?_cons, List.find?_cons]
  dsimp only
  rw [Xh]
  cases h : decide (p.1 = k) with
  | true => rfl
  | false => exact ih
theorem Vd {kv : List (Int × Int)} (hn : (kv.map (·.1)).Nodup) : ∀ p ∈ kv, lk kv p.1 = some p.2 := by
 induction kv with
 | nil => intro p hp; simp at hp
 | cons q r ih =>
  intro p hp
  rw [List.map_cons, List.nodup_cons] at hn
  unfold lk
  rw [List.find?_cons]
  rcases List.mem_cons.mp hp with rfl | hp
  ·simp
  ·have : q.1 ≠ p.1 := fun e => hn.1 (e ▸ List.mem_map.mpr ⟨p, hp, rfl⟩)
   simp only [this, decide_false]
   exact ih hn.2 p hp
theorem KD {kv : List (Int × Int)} (h : kv ≠ []) : Xm (T kv) = some false := by
 cases kv with
 | nil => exact absurd rfl h
 | cons p r => rfl
theorem lenT (kv : List (Int × Int)) : (T kv).length = kv.length := by unfold T; rw [List.length_map]
theorem keysT (kv : List (Int × Int)) : XS (T kv) = some (kv.map (·.1)) := by
 induction kv with
 | nil => rfl
 | cons p r ih =>
  show (match XS (T r) with | some l => some (p.1 :: l) | none => none) = _
  rw [ih]; rfl
theorem xg (a v : Int) : PyData.eqv (.int a) (.int v) = decide (a = v) := by
 by_cases h : a = v <;> simp [PyData.eqv, h]
theorem any_ints (v : Int) : ∀ l : List Int, ((l.map PyData.int).any fun e => PyData.eqv e (.int v)) = decide (v ∈ l)
 | [] => rfl
 | a :: r => by
  rw [List.map_cons, List.any_cons, any_ints v r, xg]
  by_cases h : a = v
  ·subst h; simp
  ·have h' : ¬ v = a := fun e => h e.symm
   by_cases g : v ∈ r <;> simp [h, h', g]
theorem in_ints (v : Int) (l : List Int) : oIn false (.int v) (.list (l.map PyData.int)) = some (.fz (.bool (decide (v ∈ l)))) := by
 unfold oIn
 dsimp only
 have h : (ZS (.int v) && (l.map PyData.int).all ZS) = true := by
  rw [Bool.and_eq_true]
  refine ⟨rfl, List.all_eq_true.mpr fun d hd => ?_⟩
  obtain ⟨i, _, rfl⟩ := List.mem_map.mp hd
  rfl
 rw [if_pos h, if_neg Bool.false_ne_true, any_ints]
theorem zbC {kv : List (Int × Int)} (hk : kv ≠ []) (v : Int) : wZ true (.int v) (.dict (T kv)) = some (.fz (.bool (lk kv v).isNone)) := by
 have e : inD (T kv) (.int v) = some (lk kv v).isSome := by
  unfold inD
  rw [KD hk]
  show (match keyOf false (.int v) with | some kk => some (Zb (T kv) kk).isSome | none => none) = _
  show some (Zb (T kv) (.inl (.inl v))).isSome = _
  rw [wG]
  cases lk kv v <;> rfl
 unfold wZ
 dsimp only
 rw [e]
 cases lk kv v <;> rfl
theorem zap {kv : List (Int × Int)} (hk : kv ≠ []) {v x : Int} (h : lk kv v = some x) : Qt (.dict (T kv)) (.int v) = some (.fz (.int x)) := by
 unfold Qt
 dsimp only
 rw [KD hk]
 show (match Zb (T kv) (.inl (.inl v)) with | some d => some (Rz.fz d) | none => none) = _
 rw [wG, h]; rfl
theorem j7 : ∀ {l m : List Int}, l.Nodup → (∀ x ∈ l, x ∈ m) → l.length ≤ m.length
 | [], _, _, _ => Nat.zero_le _
 | a :: r, m, hn, hs => by
  rw [List.nodup_cons] at hn
  have ha : a ∈ m := hs a List.mem_cons_self
  have h := j7 (l := r) (m := m.erase a) hn.2 fun x hx => (List.mem_erase_of_ne (show x ≠ a from fun e => by subst e; exact hn.1 hx)).mpr (hs x (List.mem_cons_of_mem _ hx))
  rw [List.length_erase_of_mem ha] at h
  have : 0 < m.length := List.length_pos_of_mem ha
  rw [List.length_cons]
  omega
theorem rgD_len (i : Int) (n : Nat) : (rgD i n).length = n := by unfold rgD; rw [List.length_map, List.length_range]
theorem q_dget {kv : List (Int × Int)} {v x : Int} (h : lk kv v = some x) : Qt (.dict (T kv)) (.int v) = some (.fz (.int x)) := zap (fun e => by subst e; exact nomatch h) h
theorem q_din {kv : List (Int × Int)} {v : Int} (hk : kv ≠ []) : wZ false (.int v) (.dict (T kv)) = some (.fz (.bool (lk kv v).isSome)) := by
 have e : inD (T kv) (.int v) = some (lk kv v).isSome := by
  unfold inD
  rw [KD hk]
  show some (Zb (T kv) (.inl (.inl v))).isSome = _
  rw [wG]
  cases lk kv v <;> rfl
 unfold wZ
 dsimp only
 rw [e]
 cases lk kv v <;> rfl
theorem q_dnotin {kv : List (Int × Int)} {v : Int} (hk : kv ≠ []) : wZ true (.int v) (.dict (T kv)) = some (.fz (.bool (lk kv v).isNone)) := zbC hk v
theorem atI_lastM {α : Type} {f : α → D} {l : List α} {x : α} : atI ((l ++ [x]).map f) (-1) = some (f x) := by rw [List.map_append]; exact atI_last
theorem zau {α : Type} {f : α → D} {l : List α} {x : α} : l.map f ++ [f x] = (l ++ [x]).map f := by rw [List.map_append]; rfl
end Vm
namespace Vm
open PySem PySem.Spec PyProof.Rows L2 Fz
structure Pu where
 a : Int
 b : Int
 h : 0 ≤ b ∧ b < 2147483647
def Pu.nx (p : Pu) : Pu := ⟨p.a, (p.b * 48271 + 12345) % 2147483647, Int.emod_nonneg _ (by decide), Int.emod_lt_of_pos _ (by decide)⟩
def Pu.tk (p : Pu) (n : Int) : Int := if 0 < p.a then p.a % n else if 100000000 < n then (p.nx.b * p.nx.b % 2147483629 / 5 * 2147483629 + p.nx.nx.b * p.nx.nx.b % 2147483629) % n else p.nx.b * p.nx.b % 2147483629 / 5 % n
def Pu.up (p : Pu) (n : Int) : Pu := if 0 < p.a then ⟨p.a / n, p.b, p.h⟩ else if 100000000 < n then p.nx.nx else p.nx
theorem Pu.lt (p : Pu) (n : Int) (h : 0 < n) : 0 ≤ p.tk n ∧ p.tk n < n := by
 unfold Pu.tk
 split
 ·exact ⟨Int.emod_nonneg _ (by omega), Int.emod_lt_of_pos _ h⟩
 ·split <;> exact ⟨Int.emod_nonneg _ (by omega), Int.emod_lt_of_pos _ h⟩
theorem q_divW {i j : Int} (h : 0 < j) (h2 : j ≤ 10 ^ 60) : yR (.int i) (.int j) = some (.fz (.int (i / j))) := by
 show (if WL i j = true then some (Rz.fz (.int (i / j))) else none) = _
 rw [if_pos (by unfold WL; simp only [decide_eq_true_eq]; omega)]
theorem zaP {α : Type} {l : List α} {i : Int} (f : α → D) (h : 0 ≤ i ∧ i < l.length) : ∃ x ∈ l, atI (l.map f) i = some (f x) := by
 obtain ⟨j, rfl⟩ : ∃ j : Nat, i = (j : Int) := ⟨i.toNat, by omega⟩
 have hj : j < l.length := by omega
 exact ⟨l[j], List.getElem_mem hj, atI_map hj⟩
end Vm
namespace Vm
open PySem PySem.Spec PyProof.Rows L2 Fz
section
variable {ρ ρ' : Env} {N B C : Env → Prop} {R : Env → Tp → Prop} {E : XP} {QC : Env → List D → Prop} {α : Type}
theorem WT {f : Env → D → Option Env} {rt : RT} {re : RE} {vs : List Nat} {xs : List α} (enc : α → D) (c : α → Bool) (g : α → D) (hl : xs.length ≤ 1000000) (hw : Xl ρ vs ρ')
  (st : ∀ x ∈ xs, WG f ρ' (enc x) fun ρ1 => Wt rt ρ1 (fun ρ2 t => t = c x ∧ if c x = true then We re ρ2 (fun ρ3 tp => WSt ρ3 tp fun ρ4 e => e = g x ∧ zG ρ4 vs = ρ) (fun _ _ => False) else zG ρ2 vs = ρ) (fun _ _ => False))
  (q : QC ρ ((xs.filter c).map g)) : Wx (qD f rt re vs (xs.map enc) [] ρ) QC E := by
 refine Vv enc (fun pre acc ρ1 => ρ1 = ρ ∧ acc = (pre.filter c).map g) ⟨rfl, rfl⟩ ?_ ?_
 ·rintro pre x post acc ρ1 hx ⟨rfl, rfl⟩
  obtain ⟨ρ2, e, h⟩ := st x (by rw [hx]; simp)
  have hlen : ((pre.filter c).map g).length < sizeLine := by
   have h1 := List.length_filter_le c pre
   have h2 := congrArg List.length hx
   rw [List.length_append, List.length_cons] at h2
   rw [List.length_map]
   exact sz_lt' (by omega)
  refine ⟨ρ2, by rw [hw.eq]; exact e, zg h ?_ (fun _ _ q => q)⟩
  rintro ρ3 t ⟨rfl, h⟩
  cases hc : c x with
  | true =>
   rw [hc, if_pos rfl] at h
   rw [if_pos rfl]
   refine zg h ?_ (fun _ _ q => q)
   rintro ρ4 tp ⟨ρ5, d, e5, rfl, hw⟩
   refine ⟨ρ5, _, e5, hlen, hw, ?_⟩
   rw [List.filter_append, List.map_append]
   simp [hc]
  | false =>
   rw [hc, if_neg Bool.false_ne_true] at h
   rw [if_neg Bool.false_ne_true]
   refine ⟨h, ?_⟩
   rw [List.filter_append, List.map_append]
   simp [hc]
 ·rintro acc ρ1 ⟨rfl, rfl⟩
  exact q
theorem jw {f : Env → D → Option Env} {re : RE} {vs : List Nat} {xs : List α} (enc : α → D) (g : α → D) (hl : xs.length ≤ 1000000) (hw : Xl ρ vs ρ')
  (st : ∀ x ∈ xs, WG f ρ' (enc x) fun ρ2 => We re ρ2 (fun ρ3 tp => WSt ρ3 tp fun ρ4 e => e = g x ∧ zG ρ4 vs = ρ) (fun _ _ => False))
  (q : QC ρ (xs.map g)) : Wx (qD f (fun ρ => .ok ρ true) re vs (xs.map enc) [] ρ) QC E := by
 refine WT enc (fun _ => true) g hl hw (fun x hx => ?_) ?_
 ·obtain ⟨ρ2, e, h⟩ := st x hx
  exact ⟨ρ2, e, wxo ⟨rfl, by rw [if_pos rfl]; exact h⟩⟩
 ·have : xs.filter (fun _ => true) = xs := List.filter_eq_self.mpr (fun _ _ => rfl)
  rw [this]; exact q
end
def pgD (ws : List Int) : D := .tuple (ws.map PyData.int)
theorem zbK (n : Nat) : (List.replicate n [PyData.int 0]).flatten = (List.replicate n (0 : Int)).map PyData.int := by
 induction n with
 | zero => rfl
 | succ n ih => rw [List.replicate_succ, List.replicate_succ, List.flatten_cons, List.map_cons, ih]; rfl
theorem q_rep0 {n : Int} (h : -1000 ≤ n ∧ n ≤ 1000) : Y0 (.tuple [.int 0]) (.int n) = some (.fz (.tuple ((List.replicate n.toNat (0 : Int)).map PyData.int))) := by
 show (if (!([PyData.int 0] : List D).isEmpty && decide (-1000 ≤ n ∧ n ≤ 1000 ∧ ([PyData.int 0] : List D).length ≤ 1000)) = true then some (Rz.fz (.tuple (List.replicate n.toNat [PyData.int 0]).flatten)) else none) = _
 rw [if_pos (by simp; omega), zbK]
theorem q_catTM {α : Type} {f : α → D} {xs ys : List α} (h : xs.length + ys.length ≤ 1000000) : YW (.tuple (xs.map f)) (.tuple (ys.map f)) = some (.fz (.tuple ((xs ++ ys).map f))) := by
 rw [q_catT (sz_lt (by rw [List.length_map, List.length_map]; exact h)), List.map_append]
theorem q_catLM {α : Type} {f : α → D} {xs ys : List α} (h : xs.length + ys.length ≤ 1000000) : zad (.list (xs.map f)) (.list (ys.map f)) = some (.ow false (.list ((xs ++ ys).map f))) := by
 rw [q_catL (sz_lt (by rw [List.length_map, List.length_map]; exact h)), List.map_append]
theorem cut_to {ds : List D} {j : Nat} : yZ ds none (some (j : Int)) = ds.take j := by
 unfold yZ
 rw [HT.sIx_none, HT.sIx_nat, List.drop_zero, Nat.sub_zero]
 rcases Nat.le_total j ds.length with h | h
 ·rw [Nat.min_eq_left h]
 ·rw [Nat.min_eq_right h, List.take_length, List.take_of_length_le h]
theorem Wv {x : Int} (h : -1000000000000 ≤ x ∧ x ≤ 1000000000000) : Builtin.Range.rangeFitsLong x = true := by
 unfold Builtin.Range.rangeFitsLong; simp; omega
theorem wL {n w : Nat} (hw : 0 < w) (hn : n ≤ 1000000) (hw2 : w ≤ 1000000) : Builtin.Range.small 0 n w = true ∧ Builtin.Range.rangeSize 0 n w = (((n + w - 1) / w : Nat) : Int) := by
 have hs : Builtin.Range.rangeSize 0 n w = (((n + w - 1) / w : Nat) : Int) := by
  unfold Builtin.Range.rangeSize
  rw [if_pos (by omega)]
  by_cases h : 0 < n
  ·rw [if_pos (by omega)]
   have e1 : (n + w - 1) / w = (n - 1) / w + 1 := by
    have : n + w - 1 = (n - 1) + w := by omega
    rw [this, Nat.add_div_right _ hw]
   rw [e1]
   have e2 : (n : Int) - 0 - 1 = ((n - 1 : Nat) : Int) := by omega
   rw [e2]
   push_cast
   rfl
  ·have : n = 0 := by omega
   subst this
   rw [if_neg (by omega)]
   have : (0 + w - 1) / w = 0 := Nat.div_eq_of_lt (by omega)
   rw [this]; rfl
 refine ⟨?_, hs⟩
 have hb : (n + w - 1) / w ≤ n + w - 1 := Nat.div_le_self _ _
 unfold Builtin.Range.small
 rw [hs]
 generalize (n + w - 1) / w = z at hb
 rw [Wv (by omega), Wv (by omega), Wv (by omega), Wv (by omega), if_pos (by omega), Wv (by omega)]
 simp
def WR3 (ρ : Env) (tps : List Tp) (QI : Env → List D → Prop) : Prop := ∃ i j c : Int, Qc ρ tps = some [.int i, .int j, .int c] ∧ c ≠ 0 ∧ c.natAbs < 1073741824 ∧ Builtin.Range.small i j c = true ∧ Builtin.Range.rangeSize i j c = ((Builtin.Range.rangeSize i j c).toNat : Int) ∧ QI ρ (vJ i c (Builtin.Range.rangeSize i j c).toNat)
theorem wi_rng3 {ρ : Env} {E : XP} {QI : Env → List D → Prop} {a : RA} (h : Wa a ρ (fun ρ1 tps => WR3 ρ1 tps QI) E) : Wi (yu a) ρ QI E :=
 zb (zg h (fun ρ1 tps ⟨i, j, c, e, h1, h2, h3, h4, q⟩ => by simp only [e]; rw [if_pos ⟨h1, h2, h3, h4⟩]; exact wxo q) (fun _ _ q => q))
theorem zbd {ρ : Env} {QI : Env → List D → Prop} {tps : List Tp} {n w : Nat} (h : Qc ρ tps = some [.int 0, .int (n : Int), .int (w : Int)]) (hw : 0 < w) (hn : n ≤ 1000000) (hw2 : w ≤ 1000000) (q : QI ρ ((List.range ((n + w - 1) / w)).map fun k : Nat => PyData.int ((k * w : Nat) : Int))) : WR3 ρ tps QI := by
 obtain ⟨h1, h2⟩ := wL hw hn hw2
 refine ⟨0, n, w, h, by omega, by omega, h1, by rw [h2]; rfl, ?_⟩
 have e : vJ 0 w (Builtin.Range.rangeSize 0 n w).toNat = (List.range ((n + w - 1) / w)).map fun k : Nat => PyData.int ((k * w : Nat) : Int) := by
  rw [h2, Int.toNat_natCast]
  unfold vJ
  refine List.map_congr_left fun k _ => ?_
  show PyData.int (0 + (k : Int) * (w : Int)) = PyData.int ((k * w : Nat) : Int)
  rw [Int.zero_add, Int.natCast_mul]
 rw [e]; exact q
def WMt (f : List D → Option Rz) (ρ : Env) (tps : List Tp) (Q : Env → Tp → Prop) : Prop := ∃ ds z, Qc ρ tps = some ds ∧ f ds = some z ∧ Q ρ z.tp
def WMo (ok : D → Bool) (ρ : Env) (t1 : Tp) (P : Prop) : Prop := ∃ d, rdT ρ t1 = some d ∧ ok d = true ∧ P
theorem mo_ {ok : D → Bool} {ρ : Env} {t1 : Tp} {P : Prop} {d : D} (h1 : rdT ρ t1 = some d) (h2 : ok d = true) (q : P) : WMo ok ρ t1 P := ⟨d, h1, h2, q⟩
theorem we_meth {ρ : Env} {Q : Env → Tp → Prop} {E : XP} {ok : D → Bool} {f : List D → Option Rz} {o : RE} {a : RA} (h : We o ρ (fun ρ1 t1 => WMo ok ρ1 t1 (Wa a ρ1 (fun ρ2 tps => WMt f ρ2 (t1 :: tps) Q) E)) E) : We (jG ok f o a) ρ Q E :=
 zb (zg h (fun ρ1 t1 ⟨d, e1, e2, h2⟩ => by
  simp only [e1]
  rw [if_pos e2]
  refine zb (zg h2 (fun ρ2 tps ⟨ds, z, e3, e4, q⟩ => ?_) (fun _ _ q => q))
  simp only [e3, e4]
  exact wxo q) (fun _ _ q => q))
theorem mt_ {ρ : Env} {Q : Env → Tp → Prop} {f : List D → Option Rz} {tps : List Tp} {ds : List D} {z : Rz} {tp : Tp} (h1 : Qc ρ tps = some ds) (h2 : f ds = some z) (h3 : jr z tp) (q : Q ρ tp) : WMt f ρ tps Q := ⟨ds, z, h1, h2, by rw [h3.eq]; exact q⟩
theorem q_count {ns : List Int} {k : Int} : za4 [.list (ns.map PyData.int), .int k] = some (.fz (.int (ns.count k : Nat))) := by
 show (match Kz (ns.map PyData.int) with | some ns => some (Rz.fz (.int (ns.count k : Nat))) | none => none) = _
 rw [V6]
def tbF (n : Nat) (f : Int → Int) : List (Int × Int) := (List.range n).map fun i : Nat => (3 + (i : Int), f (3 + (i : Int)))
def k3 (k : Nat) : List Int := (List.range k).map fun i : Nat => 3 + (i : Int)
theorem zcD {k : Nat} {x : Int} : x ∈ k3 k ↔ 3 ≤ x ∧ x < 3 + k := by
 unfold k3
 rw [List.mem_map]
 constructor
 ·rintro ⟨i, hi, rfl⟩; rw [List.mem_range] at hi; omega
 ·rintro ⟨h1, h2⟩; exact ⟨(x - 3).toNat, by rw [List.mem_range]; omega, by omega⟩
theorem k3_len (k : Nat) : (k3 k).length = k := by unfold k3; simp
theorem kZ (n : Nat) (f : Int → Int) : (tbF n f).map (·.1) = k3 n := by unfold tbF k3; rw [List.map_map]; rfl
theorem tbF_len (n : Nat) (f : Int → Int) : (tbF n f).length = n := by unfold tbF; simp
theorem yI {n : Nat} {f : Int → Int} (h : 0 < n) : tbF n f ≠ [] := fun e => by have := tbF_len n f; rw [e] at this; simp at this; omega
theorem Je (k : Nat) : (k3 k).Pairwise (· ≤ ·) := by
 unfold k3
 refine List.pairwise_map.mpr (List.pairwise_lt_range.imp ?_)
 intro x y h; omega
theorem Ks (k : Nat) : (k3 k).Nodup := by
 unfold k3
 rw [List.nodup_iff_pairwise_ne]
 refine (List.pairwise_map.mpr (List.pairwise_lt_range.imp ?_))
 intro x y h q
 have q : (3 : Int) + (x : Int) = 3 + (y : Int) := q
 omega
theorem zas {n : Nat} {f : Int → Int} {k : Int} (h : 3 ≤ k ∧ k < 3 + n) : lk (tbF n f) k = some (f k) := by
 have hm : (k, f k) ∈ tbF n f := by
  unfold tbF
  exact List.mem_map.mpr ⟨(k - 3).toNat, by rw [List.mem_range]; omega, by
   have : 3 + (((k - 3).toNat : Nat) : Int) = k := by omega
   rw [this]⟩
 exact Vd (by rw [kZ]; exact Ks n) _ hm
theorem Vi {kv : List (Int × Int)} {ks : List Int} (hp : (kv.map (·.1)).Perm ks) (hs : ks.Pairwise (· ≤ ·)) (hl : kv.length < 64) (h0 : kv ≠ []) : JQ (.dict (T kv)) = some (.ow false (.list (ks.map PyData.int))) := by
 cases h : kv with
 | nil => exact absurd h h0
 | cons p r =>
  have hk := keysT kv
  rw [h] at hk
  have e : PySem.W.sortI (kv.map (·.1)) = ks := (PySem.W.eq_sortI hp.symm hs).symm
  rw [h] at e
  unfold JQ
  dsimp only
  rw [hk]
  show (if (List.map (·.1) (p :: r)).length < 64 then some (Rz.ow false (.list ((PySem.W.sortI (List.map (·.1) (p :: r))).map PyData.int))) else none) = _
  rw [if_pos (by rw [List.length_map, ← h]; exact hl), e]
theorem q_sortF {n : Nat} {f : Int → Int} (h0 : 0 < n) (hl : n < 64) : JQ (.dict (T (tbF n f))) = some (.ow false (.list ((k3 n).map PyData.int))) :=
 Vi (by rw [kZ]) (Je n) (by rw [tbF_len]; exact hl) (yI h0)
theorem q_getF {n : Nat} {f : Int → Int} {k : Int} (h : 3 ≤ k ∧ k < 3 + n) : Qt (.dict (T (tbF n f))) (.int k) = some (.fz (.int (f k))) := q_dget (zas h)
theorem q_lenF {n : Nat} {f : Int → Int} (h0 : 0 < n) : YZ (.dict (T (tbF n f))) = some (.fz (.int n)) := by
 show (match Xm (T (tbF n f)) with | some false => some (Rz.fz (.int (T (tbF n f)).length)) | _ => none) = _
 rw [KD (yI h0), lenT, tbF_len]
theorem putF {n : Nat} {f : Int → Int} {k x : Int} (h : 3 ≤ k ∧ k < 3 + n) : kh (T (tbF n f)) (.inl (.inl k)) (.int k) (.int x) = T (tbF n fun j => if j = k then x else f j) := by
 unfold kh
 have : ((T (tbF n f)).any fun p => Zx (.inl (.inl k)) p.1) = true := by
  rw [List.any_eq_true]
  refine ⟨(.int k, .int (f k)), ?_, by rw [Xh]; simp⟩
  unfold T
  refine List.mem_map.mpr ⟨(k, f k), ?_, rfl⟩
  unfold tbF
  exact List.mem_map.mpr ⟨(k - 3).toNat, by rw [List.mem_range]; omega, by
   have : 3 + (((k - 3).toNat : Nat) : Int) = k := by omega
   rw [this]⟩
 rw [this, if_pos rfl]
 unfold T tbF
 rw [List.map_map, List.map_map, List.map_map]
 refine List.map_congr_left fun i hi => ?_
 show (if Zx (.inl (.inl k)) (PyData.int (3 + (i : Int))) = true then _ else _) = _
 rw [Xh]
 by_cases e : (3 + (i : Int)) = k
 ·rw [if_pos (decide_eq_true e)]; simp [e]
 ·rw [if_neg (by simpa using e)]; simp [e]
theorem in_w {w : Int} {ne : Bool} : oIn ne (.int w) (.tuple [.int 8, .int 12, .int 16]) = some (.fz (.bool (if ne then !decide (w = 8 ∨ w = 12 ∨ w = 16) else decide (w = 8 ∨ w = 12 ∨ w = 16)))) := by
 have e : oIn ne (.int w) (.tuple [.int 8, .int 12, .int 16]) = some (.fz (.bool (if ne then !([PyData.int 8, .int 12, .int 16].any fun e => PyData.eqv e (.int w)) else [PyData.int 8, .int 12, .int 16].any fun e => PyData.eqv e (.int w)))) := rfl
 have h : ([PyData.int 8, .int 12, .int 16].any fun e => PyData.eqv e (.int w)) = decide (w = 8 ∨ w = 12 ∨ w = 16) := by
  simp only [List.any_cons, List.any_nil, xg, Bool.or_false]
  rw [← Bool.decide_or, ← Bool.decide_or]
  refine decide_eq_decide.mpr ⟨fun h => ?_, fun h => ?_⟩
  ·rcases h with rfl | rfl | rfl <;> simp
  ·rcases h with rfl | rfl | rfl <;> simp
 rw [e, h]
theorem q_slTo {α : Type} {f : α → D} {B : List α} {k : Nat} : zbV (.list (B.map f)) none (some (k : Int)) = some (.ow false (.list ((B.take k).map f))) := by
 show some (Rz.ow false (.list (yZ _ _ _))) = _
 rw [cut_to, List.map_take]
theorem q_repL1 {d : D} {n : Nat} (h : n ≤ 1000) : zba (.list [d]) (.int (n : Int)) = some (.ow false (.list (List.replicate n d))) := by
 show (if -1000000 ≤ (n : Int) ∧ (n : Int) ≤ 1000000 ∧ [d].length * (n : Int).toNat ≤ sizeLine then some (Rz.ow false (.list (List.replicate (n : Int).toNat [d]).flatten)) else none) = _
 rw [if_pos ⟨by omega, by omega, sz_lt (by simp; omega)⟩, Int.toNat_natCast]
 congr 3
 induction n with
 | zero => rfl
 | succ n ih => rw [List.replicate_succ, List.replicate_succ, List.flatten_cons, ih (by omega)]; rfl
structure Tbl (n : Nat) (f : Int → Int) (kv : List (Int × Int)) : Prop where
 pm : (kv.map (·.1)).Perm (k3 n)
 at_ : ∀ k, 3 ≤ k ∧ k < 3 + (n : Int) → lk kv k = some (f k)
section
variable {n : Nat} {f : Int → Int} {kv : List (Int × Int)}
theorem Tbl.len (t : Tbl n f kv) : kv.length = n := by have := t.pm.length_eq; rw [List.length_map, k3_len] at this; exact this
theorem Tbl.ne (t : Tbl n f kv) (h : 0 < n) : kv ≠ [] := fun e => by have := t.len; rw [e] at this; simp at this; omega
theorem Tbl.nd (t : Tbl n f kv) : (kv.map (·.1)).Nodup := t.pm.nodup_iff.mpr (Ks n)
theorem q_sortB (t : Tbl n f kv) (h0 : 0 < n) (hl : n < 64) : JQ (.dict (T kv)) = some (.ow false (.list ((k3 n).map PyData.int))) :=
 Vi t.pm (Je n) (by rw [t.len]; exact hl) (t.ne h0)
theorem q_getB (t : Tbl n f kv) {k : Int} (h : 3 ≤ k ∧ k < 3 + (n : Int)) : Qt (.dict (T kv)) (.int k) = some (.fz (.int (f k))) := q_dget (t.at_ k h)
theorem q_lenB (t : Tbl n f kv) (h0 : 0 < n) : YZ (.dict (T kv)) = some (.fz (.int n)) := by
 show (match Xm (T kv) with | some false => some (Rz.fz (.int (T kv).length)) | _ => none) = _
 rw [KD (t.ne h0), lenT, t.len]
theorem Tbl.mem (t : Tbl n f kv) {p : Int × Int} (h : p ∈ kv) : (3 ≤ p.1 ∧ p.1 < 3 + (n : Int)) ∧ p.2 = f p.1 := by
 have h1 : p.1 ∈ k3 n := t.pm.mem_iff.mp (List.mem_map.mpr ⟨p, h, rfl⟩)
 have h2 := zcD.mp h1
 have h3 := t.at_ p.1 h2
 rw [Vd t.nd p h] at h3
 exact ⟨h2, by injection h3⟩
end
theorem QK {α : Type} [DecidableEq α] {f : α → D} (h : ∀ a b, PyData.eqv (f a) (f b) = decide (a = b)) : ∀ xs ys : List α, PyData.eqvAll (xs.map f) (ys.map f) = decide (xs = ys)
 | [], [] => by simp [PyData.eqvAll]
 | [], y :: ys => by simp [PyData.eqvAll]
 | x :: xs, [] => by simp [PyData.eqvAll]
 | x :: xs, y :: ys => by
  rw [List.map_cons, List.map_cons, PyData.eqvAll, h, QK h xs ys]
  by_cases h1 : x = y <;> by_cases h2 : xs = ys <;> simp [h1, h2]
theorem Q8 (a b : List Int) : PyData.eqv (pgD a) (pgD b) = decide (a = b) := by
 unfold pgD
 rw [PyData.eqv, QK xg]
theorem X5 {α : Type} [DecidableEq α] {f : α → D} (h : ∀ a b, PyData.eqv (f a) (f b) = decide (a = b)) (xs ys : List α) : PyData.eqv (.list (xs.map f)) (.list (ys.map f)) = decide (xs = ys) := by
 rw [PyData.eqv, QK h]
theorem Ve {α : Type} [DecidableEq α] {f : α → D} (h : ∀ a b, PyData.eqv (f a) (f b) = decide (a = b)) (xs ys : List α) : PyData.eqv (.tuple (xs.map f)) (.tuple (ys.map f)) = decide (xs = ys) := by
 rw [PyData.eqv, QK h]
def wrD (p : Nat × List Int) : D := .tuple [.int (p.1 : Int), pgD p.2]
theorem wX (a b : Nat × List Int) : PyData.eqv (wrD a) (wrD b) = decide (a = b) := by
 unfold wrD
 rw [PyData.eqv, PyData.eqvAll, PyData.eqvAll, PyData.eqvAll, xg, Q8]
 obtain ⟨a1, a2⟩ := a
 obtain ⟨b1, b2⟩ := b
 have e : ((a1 : Int) = (b1 : Int)) ↔ a1 = b1 := by omega
 by_cases h1 : a1 = b1
 ·by_cases h2 : a2 = b2 <;> simp [h1, h2]
 ·have h3 : ¬ ((a1 : Int) = (b1 : Int)) := fun z => h1 (e.mp z)
  simp [h1, h3]
theorem Q5 {n : Nat} (ws : List Int) : Shp (n + 1) (pgD ws) := JS ym
theorem zat {n : Nat} (p : Nat × List Int) : Shp (n + 2) (wrD p) := JS fun d hd => by
 simp only [List.mem_cons, List.not_mem_nil, or_false] at hd
 rcases hd with rfl | rfl
 ·exact v9
 ·exact Q5 _
theorem QH (ps : List (List Int)) : SeqAt.shaped (.tuple (ps.map pgD)) = true := (JS (n := 1) fun d hd => by
 obtain ⟨p, _, rfl⟩ := List.mem_map.mp hd
 exact Q5 p).shaped
theorem Qy (ps : List (List Int)) : SeqAt.shaped (.list (ps.map pgD)) = true := (jc (n := 1) fun d hd => by
 obtain ⟨p, _, rfl⟩ := List.mem_map.mp hd
 exact Q5 p).shaped
theorem XH (ps : List (Nat × List Int)) : SeqAt.shaped (.list (ps.map wrD)) = true := (jc (n := 2) fun d hd => by
 obtain ⟨p, _, rfl⟩ := List.mem_map.mp hd
 exact zat p).shaped
theorem q_eqPg {a b : List Int} : Xy (pgD a) (pgD b) = some (.fz (.bool (decide (a = b)))) := Ji ((Q5 (n := 0) a).shaped) ((Q5 (n := 0) b).shaped) (Q8 a b)
theorem q_nePg {a b : List Int} : VN (pgD a) (pgD b) = some (.fz (.bool (!decide (a = b)))) := Vf ((Q5 (n := 0) a).shaped) ((Q5 (n := 0) b).shaped) (Q8 a b)
theorem q_eqPgs {a b : List (List Int)} : Xy (.list (a.map pgD)) (.list (b.map pgD)) = some (.fz (.bool (decide (a = b)))) := Ji (Qy a) (Qy b) (X5 Q8 a b)
theorem q_nePgs {a b : List (List Int)} : VN (.list (a.map pgD)) (.list (b.map pgD)) = some (.fz (.bool (!decide (a = b)))) := Vf (Qy a) (Qy b) (X5 Q8 a b)
theorem q_neDk {a b : List (List Int)} : VN (.tuple (a.map pgD)) (.tuple (b.map pgD)) = some (.fz (.bool (!decide (a = b)))) := Vf (QH a) (QH b) (Ve Q8 a b)
theorem q_eqDk {a b : List (List Int)} : Xy (.tuple (a.map pgD)) (.tuple (b.map pgD)) = some (.fz (.bool (decide (a = b)))) := Ji (QH a) (QH b) (Ve Q8 a b)
theorem q_neWr {a b : List (Nat × List Int)} : VN (.list (a.map wrD)) (.list (b.map wrD)) = some (.fz (.bool (!decide (a = b)))) := Vf (XH a) (XH b) (X5 wX a b)
theorem q_eqWr {a b : List (Nat × List Int)} : Xy (.list (a.map wrD)) (.list (b.map wrD)) = some (.fz (.bool (decide (a = b)))) := Ji (XH a) (XH b) (X5 wX a b)
section
variable {α : Type} {fn : α → D} {a b c d e : α} {l : List α}
theorem Qm {β : Type} {l : List β} {k : Nat} {x : β} (h : l[k]? = some x) : atI l (k : Int) = some x := by
 obtain ⟨h1, h2⟩ := List.getElem?_eq_some_iff.mp h
 rw [atI_nat h1, h2]
theorem atI_m0 : atI ((a :: l).map fn) 0 = some (fn a) := Qm (k := 0) rfl
theorem atI_m1 : atI ((a :: b :: l).map fn) 1 = some (fn b) := Qm (k := 1) rfl
theorem atI_m2 : atI ((a :: b :: c :: l).map fn) 2 = some (fn c) := Qm (k := 2) rfl
theorem atI_m3 : atI ((a :: b :: c :: d :: l).map fn) 3 = some (fn d) := Qm (k := 3) rfl
theorem atI_m4 : atI ((a :: b :: c :: d :: e :: l).map fn) 4 = some (fn e) := Qm (k := 4) rfl
end
theorem q_extT {α : Type} {f : α → D} {xs ys : List α} (h : xs.length + ys.length ≤ 1000000) : wu (xs.map f) [.tuple (ys.map f)] = some ((xs ++ ys).map f, .none) := by
 show (if (xs.map f).length + (ys.map f).length ≤ sizeLine then some (xs.map f ++ ys.map f, PyData.none) else none) = _
 rw [if_pos (sz_lt (by rw [List.length_map, List.length_map]; exact h)), List.map_append]
theorem q_extL {α : Type} {f : α → D} {xs ys : List α} (h : xs.length + ys.length ≤ 1000000) : wC (xs.map f) [.list (ys.map f)] = some ((xs ++ ys).map f, .none) := by
 show (if (xs.map f).length + (ys.map f).length ≤ sizeLine then some (xs.map f ++ ys.map f, PyData.none) else none) = _
 rw [if_pos (sz_lt (by rw [List.length_map, List.length_map]; exact h)), List.map_append]
theorem Kg {α : Type} {f : Env → D → Option Env} {rt : RT} {re : RE} {vs : List Nat} {xs : List α} {QC : Env → List D → Prop} {E : XP} {ρ : Env} (enc : α → D) (I : List α → List D → Env → Prop) (hI : ∀ pre acc ρ, I pre acc ρ → zG ρ vs = ρ) (h0 : I [] [] ρ)
  (st : ∀ (pre : List α) (x : α) (post : List α) (acc : List D) (ρ : Env), xs = pre ++ x :: post → I pre acc ρ → WG f ρ (enc x) fun ρ1 => Wt rt ρ1 (fun ρ2 t => if t = true then We re ρ2 (fun ρ3 tp => WSt ρ3 tp fun ρ4 e => acc.length < sizeLine ∧ I (pre ++ [x]) (acc ++ [e]) (zG ρ4 vs)) (fun _ _ => False) else I (pre ++ [x]) acc (zG ρ2 vs)) (fun _ _ => False))
  (en : ∀ acc ρ, I xs acc ρ → QC ρ acc) : Wx (qD f rt re vs (xs.map enc) [] ρ) QC E :=
 Vv enc I h0 (fun pre x post acc ρ e h => by rw [hI pre acc ρ h]; exact st pre x post acc ρ e h) en
theorem zbR (n : Nat) (x : Int) : (List.replicate n [PyData.int x]).flatten = (List.replicate n x).map PyData.int := by
 induction n with
 | zero => rfl
 | succ n ih => rw [List.replicate_succ, List.replicate_succ, List.flatten_cons, List.map_cons, ih]; rfl
theorem q_repI {n x : Int} (h : -1000 ≤ n ∧ n ≤ 1000) : Y0 (.tuple [.int x]) (.int n) = some (.fz (.tuple ((List.replicate n.toNat x).map PyData.int))) := by
 show (if (!([PyData.int x] : List D).isEmpty && decide (-1000 ≤ n ∧ n ≤ 1000 ∧ ([PyData.int x] : List D).length ≤ 1000)) = true then some (Rz.fz (.tuple (List.replicate n.toNat [PyData.int x]).flatten)) else none) = _
 rw [if_pos (by simp; omega), zbR]
end Vm
namespace Vm
open PySem PySem.Spec PyProof.Rows L2 Fz
def pvD (a : Int) : D := .list [.int a]
theorem qZ (a : Int) {n : Int} (h : 0 < n) : 0 ≤ a % n ∧ a % n < n := ⟨Int.emod_nonneg _ (by omega), Int.emod_lt_of_pos _ h⟩
def zbG : Int := 10 ^ 18
theorem q_pow18 : vP (.int 10) (.int 18) = some (.fz (.int zbG)) := by
 show (if YG 10 18 = true then some (Rz.fz (.int (10 ^ (Int.toNat 18)))) else none) = _
 rw [if_pos (by decide)]; rfl
theorem YJ {ds : List D} (h : SeqAt.shaped (.list ds) = true) : Xy (.list ds) (.list []) = some (.fz (.bool (ds.isEmpty))) :=
 Ji h (by decide) (by cases ds <;> simp [PyData.eqv, PyData.eqvAll])
theorem q_int_b {b : Bool} : zb5 (.bool b) = some (.fz (.int (if b = true then 1 else 0))) := rfl
theorem notin_ints {v : Int} {l : List Int} : oIn true (.int v) (.list (l.map PyData.int)) = some (.fz (.bool (!decide (v ∈ l)))) := by
 unfold oIn
 dsimp only
 have h : (ZS (.int v) && (l.map PyData.int).all ZS) = true := by
  rw [Bool.and_eq_true]
  refine ⟨rfl, List.all_eq_true.mpr fun d hd => ?_⟩
  obtain ⟨i, _, rfl⟩ := List.mem_map.mp hd
  rfl
 rw [if_pos h, if_pos rfl, Vm.any_ints]
theorem q_oIadd {i j : Int} : oI (fun i j => i + j) (.int i) (.int j) = some (.fz (.int (i + j))) := rfl
end Vm
namespace Vm
open PySem PySem.Spec PyProof.Rows L2 Fz
def signs : List Nat := (Str.ofString "abcdefghijklmnopqrstuvwxyz0123456789").cps.toList
def idx (c : Nat) : Nat := signs.idxOf c
theorem Zw : signs.length = 36 := by decide +kernel
theorem Wy : ∀ c ∈ signs, c < 1114112 := by decide +kernel
theorem Yx : ∀ c ∈ signs, Builtin.Str.occurrences (Str.ofString "abcdefghijklmnopqrstuvwxyz0123456789") ⟨#[c]⟩ 0 (Str.ofString "abcdefghijklmnopqrstuvwxyz0123456789").length 1 = [idx c] := by decide +kernel
theorem zaO {c : Nat} (h : c ∈ signs) : idx c < 36 := by
 have := List.idxOf_lt_length_of_mem h
 rw [Zw] at this
 exact this
theorem J9 {c : Nat} (h : c ∈ signs) : signs[idx c]? = some c := by
 have hl := List.idxOf_lt_length_of_mem h
 unfold idx
 rw [List.getElem?_eq_getElem hl, List.getElem_idxOf hl]
theorem Kl {i : Int} (h0 : 0 ≤ i) (h1 : i < 36) : atI (Str.ofString "abcdefghijklmnopqrstuvwxyz0123456789").cps.toList i = some (signs.getD i.toNat 0) ∧ signs.getD i.toNat 0 ∈ signs := by
 have hl := Zw
 have h2 : i.toNat < signs.length := by omega
 have e : ((i.toNat : Nat) : Int) = i := by omega
 have q : atI signs ((i.toNat : Nat) : Int) = some signs[i.toNat] := Vm.atI_nat h2
 rw [e] at q
 have g : signs.getD i.toNat 0 = signs[i.toNat] := by rw [List.getD_eq_getElem?_getD, List.getElem?_eq_getElem h2]; rfl
 rw [g]
 exact ⟨q, List.getElem_mem h2⟩
theorem qC : Str.ofString "" = sL [] := by decide +kernel
def Nm (l : List Nat) : Prop := ∀ c ∈ l, c ∈ signs
theorem Nm.at {l : List Nat} (h : Nm l) {n : Nat} (hn : n < l.length) : l.getD n 0 ∈ signs := by
 rw [List.getD_eq_getElem?_getD, List.getElem?_eq_getElem hn]; exact h _ (List.getElem_mem hn)
theorem Nm.ok {l : List Nat} (h : Nm l) : TOk (sL l) := fun c hc => by
 rw [zV] at hc
 exact Wy c (h c hc)
theorem Nm.take {l : List Nat} (h : Nm l) (n : Nat) : Nm (l.take n) := fun c hc => h c (List.mem_of_mem_take hc)
theorem Nm.drop {l : List Nat} (h : Nm l) (n : Nat) : Nm (l.drop n) := fun c hc => h c (List.mem_of_mem_drop hc)
def Ze (l : List Nat) (n : Nat) : Int := if n < l.length then 1 + (idx (l.getD n 0) : Int) else 0
def zE (l : List Nat) : Nat → Int
 | 0 => 0
 | n + 1 => zE l n * 37 + Ze l n
def xj (l : List Nat) : Int := zE l 6
theorem XX {l : List Nat} (h : Nm l) (n : Nat) : 0 ≤ Ze l n ∧ Ze l n ≤ 36 := by
 unfold Ze
 split
 ·rename_i hn
  have := zaO (h.at hn)
  omega
 ·omega
theorem jo {l : List Nat} (h : Nm l) : ∀ n, 0 ≤ zE l n ∧ zE l n < 37 ^ n
 | 0 => ⟨Int.le_refl _, by show (0 : Int) < 1; decide⟩
 | n + 1 => by
  have ih := jo h n
  have f := XX h n
  unfold zE
  rw [Int.pow_succ]
  omega
def Xf : Nat → Int → List Nat → Option (Int × List Nat)
 | 0, left, p => some (left, p)
 | n + 1, left, p => if 0 < left % 37 then Xf n (left / 37) (signs.getD (left % 37 - 1).toNat 0 :: p) else if p = [] then Xf n (left / 37) p else none
def qY (w : Int) : Option (List Nat) := match Xf 6 w [] with
 | some (left, p) => if 0 < left ∨ p = [] then none else some p
 | none => none
def zb4 : Option (List Nat) → PyData
 | some p => .str (sL p)
 | none => .none
def zR (l : List Nat) : List (List Nat) := (List.range ((l.length + 5) / 6)).map fun i => (l.drop (6 * i)).take 6
abbrev zW (l : List Nat) : PyData := .str (sL l)
theorem j9 {l : List Nat} (h : Nm l) : ∀ t, Xf t (zE l t) (l.drop t) = some (0, l)
 | 0 => rfl
 | t + 1 => by
  have f := XX h t
  have ih := j9 h t
  have e1 : zE l (t + 1) % 37 = Ze l t := by show (zE l t * 37 + Ze l t) % 37 = _; omega
  have e2 : zE l (t + 1) / 37 = zE l t := by show (zE l t * 37 + Ze l t) / 37 = _; omega
  show (if 0 < zE l (t + 1) % 37 then _ else if l.drop (t + 1) = [] then _ else none) = _
  rw [e1, e2]
  by_cases hl : t < l.length
  ·have e3 : Ze l t = 1 + (idx (l.getD t 0) : Int) := by unfold Ze; rw [if_pos hl]
   have e4 : signs.getD (Ze l t - 1).toNat 0 = l.getD t 0 := by
    rw [e3, show (1 + (idx (l.getD t 0) : Int) - 1).toNat = idx (l.getD t 0) by omega, List.getD_eq_getElem?_getD, J9 (h.at hl)]; rfl
   rw [if_pos (by omega), e4]
   have e5 : l.getD t 0 :: l.drop (t + 1) = l.drop t := by
    rw [List.drop_eq_getElem_cons hl, List.getD_eq_getElem?_getD, List.getElem?_eq_getElem hl]; rfl
   rw [e5]; exact ih
  ·have e3 : Ze l t = 0 := by unfold Ze; rw [if_neg hl]
   have e4 : l.drop (t + 1) = [] := List.drop_of_length_le (by omega)
   have e5 : l.drop t = [] := List.drop_of_length_le (by omega)
   rw [e3, if_neg (by omega), if_pos e4, e4]
   rw [e5] at ih; exact ih
theorem jg {l : List Nat} (h : Nm l) (h0 : 1 ≤ l.length) (h1 : l.length ≤ 6) : qY (xj l) = some l := by
 have := j9 h 6
 rw [List.drop_of_length_le h1] at this
 unfold qY xj
 rw [this]
 show (if (0 : Int) < 0 ∨ l = [] then none else some l) = some l
 rw [if_neg]
 rintro (h | h)
 ·omega
 ·subst h; simp at h0
theorem jO {l p : List Nat} (h : Nm l) (hp : p ∈ zR l) : Nm p ∧ 1 ≤ p.length ∧ p.length ≤ 6 := by
 unfold zR at hp
 obtain ⟨i, hi, rfl⟩ := List.mem_map.mp hp
 rw [List.mem_range] at hi
 refine ⟨(h.drop _).take _, ?_, ?_⟩
 ·rw [List.length_take, List.length_drop]; omega
 ·rw [List.length_take]; omega
theorem jx {l : List Nat} : (zR l).length = (l.length + 5) / 6 := by
 unfold zR
 rw [List.length_map, List.length_range]
theorem Jo {k : Nat} (h : k < 36) : idx (signs.getD k 0) = k := by
 have : ∀ k < 36, idx (signs.getD k 0) = k := by decide +kernel
 exact this k h
abbrev Slot := Int × Int × Int × Int
def rsL (q : List Nat) : List Nat := (q.reverse.dropWhile (fun c => c == 32)).reverse
theorem jh (c : Nat) (q : List Nat) : rsL (c :: q) = if rsL q = [] ∧ c = 32 then [] else c :: rsL q := by
 unfold rsL
 rw [List.reverse_cons, List.dropWhile_append]
 cases e : q.reverse.dropWhile (fun c => c == 32) with
 | nil =>
  by_cases hc : c = 32
  ·subst hc; rfl
  ·have h2 : (c == 32) = false := by simpa using hc
   simp only [List.isEmpty_nil, if_true, List.reverse_nil, true_and, if_neg hc, List.dropWhile_cons, h2]; rfl
 | cons a b =>
  have : ¬ ((a :: b).reverse = [] ∧ c = 32) := fun ⟨h, _⟩ => by simp at h
  rw [if_neg this]
  simp
structure Pst (w : Int) (i : Nat) (left : Int) (t : List Nat) : Prop where
 h0 : 0 ≤ left
 len : t.length = i
 yes : 32 ∉ rsL t → Xf 6 w [] = Xf (6 - i) left (rsL t)
 no : 32 ∈ rsL t → Xf 6 w [] = none
theorem Pst.step {w : Int} {i : Nat} {left : Int} {t : List Nat} (h : Pst w i left t) (hi : i < 6) : Pst w (i + 1) (left / 37) ((32 :: signs).getD (left % 37).toNat 0 :: t) := by
 have h0 := h.h0
 have e6 : 6 - i = (6 - (i + 1)) + 1 := by omega
 have n32 : 32 ∉ signs := by decide +kernel
 by_cases c : 0 < left % 37
 ·have e : (32 :: signs).getD (left % 37).toNat 0 = signs.getD (left % 37 - 1).toNat 0 := by
   rw [show (left % 37).toNat = (left % 37 - 1).toNat + 1 by omega]; rfl
  have hs := (Kl (i := left % 37 - 1) (by omega) (by omega)).2
  rw [e]
  have hc : signs.getD (left % 37 - 1).toNat 0 ≠ 32 := fun q => n32 (q ▸ hs)
  have er : rsL (signs.getD (left % 37 - 1).toNat 0 :: t) = signs.getD (left % 37 - 1).toNat 0 :: rsL t := by rw [jh, if_neg (fun q => hc q.2)]
  refine ⟨by omega, by rw [List.length_cons, h.len], fun q => ?_, fun q => ?_⟩
  ·rw [er] at q ⊢
   rw [h.yes (fun z => q (List.mem_cons_of_mem _ z)), e6]
   show (if 0 < left % 37 then _ else _) = _
   rw [if_pos c]
  ·rw [er] at q
   rcases List.mem_cons.mp q with q | q
   ·exact absurd q.symm hc
   ·exact h.no q
 ·have e : (32 :: signs).getD (left % 37).toNat 0 = 32 := by rw [show (left % 37).toNat = 0 by omega]; rfl
  rw [e]
  by_cases hr : rsL t = []
  ·have er : rsL (32 :: t) = [] := by rw [jh, if_pos ⟨hr, rfl⟩]
   refine ⟨by omega, by rw [List.length_cons, h.len], fun q => ?_, fun q => ?_⟩
   ·rw [er, h.yes (by rw [hr]; simp), hr, e6]
    show (if 0 < left % 37 then _ else if ([] : List Nat) = [] then _ else none) = _
    rw [if_neg c, if_pos rfl]
   ·rw [er] at q; simp at q
  ·have er : rsL (32 :: t) = 32 :: rsL t := by rw [jh, if_neg (fun q => hr q.1)]
   refine ⟨by omega, by rw [List.length_cons, h.len], fun q => ?_, fun q => ?_⟩
   ·rw [er] at q; exact absurd List.mem_cons_self q
   ·by_cases q2 : 32 ∈ rsL t
    ·exact h.no q2
    ·rw [h.yes q2, e6]
     show (if 0 < left % 37 then _ else if rsL t = [] then _ else none) = none
     rw [if_neg c, if_neg hr]
section
variable {a b : List Nat}
theorem q_catS (h : a.length + b.length ≤ 100000) : Jr (.str (sL a)) (.str (sL b)) = some (.fz (.str (sL (a ++ b)))) := by
 show (if (sL a).length + (sL b).length ≤ sizeLine then some (Rz.fz (.str (sL a ++ sL b))) else none) = _
 rw [if_pos (sz_lt (by rw [qM, qM]; omega)), zaq]
theorem q_lenS (h : a.length ≤ 100000) : Jp (.str (sL a)) = some (.fz (.int a.length)) := by
 show (if (sL a).length ≤ sizeLine then some (Rz.fz (.int (sL a).length)) else none) = _
 rw [if_pos (sz_lt (by rw [qM]; omega)), qM]
theorem Vx {i : Int} {k : Nat} (hi : i = (k : Int)) (h : k < a.length) (hl : a.length ≤ 100000) : jU (.str (sL a)) (.int i) = some (.fz (.str (sL [a[k]]))) := by
 subst hi
 show (if (sL a).length ≤ sizeLine then (match atI (sL a).cps.toList (k : Int) with | some c => some (Rz.fz (.str (sgn c))) | none => none) else none) = _
 rw [if_pos (sz_lt (by rw [qM]; omega)), zV, Vm.atI_nat h]
 rfl
theorem Y8 {lo hi : Option Int} (hl : a.length ≤ 100000) : Ke (.str (sL a)) lo hi = some (.fz (.str (sL ((a.drop (HT.sIx a.length 0 lo)).take (HT.sIx a.length a.length hi - HT.sIx a.length 0 lo))))) := by
 show (if (sL a).length ≤ sizeLine then some (Rz.fz (.str (cutS (sL a) lo hi))) else none) = _
 rw [if_pos (sz_lt (by rw [qM]; omega)), zaZ]
theorem zbU (i j : Nat) : (a.drop (HT.sIx a.length 0 (some (i : Int)))).take (HT.sIx a.length a.length (some (j : Int)) - HT.sIx a.length 0 (some (i : Int))) = (a.drop i).take (j - i) := by
 rw [HT.sIx_nat, HT.sIx_nat]
 by_cases h : i ≤ a.length
 ·rw [Nat.min_eq_left h]
  by_cases h2 : j ≤ a.length
  ·rw [Nat.min_eq_left h2]
  ·rw [Nat.min_eq_right (by omega), List.take_of_length_le (by rw [List.length_drop]; omega), List.take_of_length_le (by rw [List.length_drop]; omega)]
 ·have e1 : min i a.length = a.length := by omega
  rw [e1, List.drop_of_length_le (Nat.le_refl _), List.drop_of_length_le (show a.length ≤ i by omega)]
  simp
theorem zaQ {i j : Int} {m n : Nat} (hi : i = (m : Int)) (hj : j = (n : Int)) (hl : a.length ≤ 100000) : Ke (.str (sL a)) (some i) (some j) = some (.fz (.str (sL ((a.drop m).take (n - m))))) := by
 subst hi; subst hj
 rw [Y8 hl, zbU]
theorem Vp {j : Int} {n : Nat} (hj : j = (n : Int)) (hl : a.length ≤ 100000) : Ke (.str (sL a)) none (some j) = some (.fz (.str (sL (a.take n)))) := by
 subst hj
 rw [Y8 hl, HT.sIx_none, HT.sIx_nat, List.drop_zero, Nat.sub_zero]
 congr 4
 rcases Nat.le_total n a.length with h | h
 ·rw [Nat.min_eq_left h]
 ·rw [Nat.min_eq_right h, List.take_length, List.take_of_length_le h]
theorem q_eqSL : oEq (.str (sL a)) (.str (sL b)) = some (.fz (.bool (decide (a = b)))) := by
 rw [q_eqS]
 congr 3
 exact decide_eq_decide.mpr ⟨fun h => by rw [← zV a, h, zV], fun h => by rw [h]⟩
theorem q_neSL : oNe (.str (sL a)) (.str (sL b)) = some (.fz (.bool (!decide (a = b)))) := by
 rw [q_neS]
 congr 4
 exact decide_eq_decide.mpr ⟨fun h => by rw [← zV a, h, zV], fun h => by rw [h]⟩
theorem q_inSL {c : Nat} {ne : Bool} : yQ ne (.str (sL [c])) (.str (sL a)) = some (.fz (.bool (if ne then !decide (c ∈ a) else decide (c ∈ a)))) := by
 show (match (sL [c]).cps.toList with | [c] => some (Rz.fz (.bool (if ne then !decide (c ∈ (sL a).cps.toList) else decide (c ∈ (sL a).cps.toList)))) | _ => none) = _
 rw [zV, zV]
theorem zaW (ps : List (List Nat)) : ((ps.map sL).map (·.length)).sum = ps.flatten.length := by
 induction ps with
 | nil => rfl
 | cons p ps ih => rw [List.map_cons, List.map_cons, List.sum_cons, ih, qM, List.flatten_cons, List.length_append]
theorem Va {ps : List (List Nat)} (h : ps.flatten.length ≤ 100000) : jJ [.str (sL []), .list (ps.map fun p => .str (sL p))] = some (.fz (.str (sL ps.flatten))) := by
 have e : xr (ps.map fun p => PyData.str (sL p)) = some (ps.map sL) := by rw [← V7, List.map_map]; rfl
 have e2 : jA (sL []) (ps.map sL) = true := by
  unfold jA
  rw [decide_eq_true_iff, zaW, qM, List.length_nil, Nat.mul_zero]
  omega
 show (match xr (ps.map fun p => PyData.str (sL p)) with | some ys => if jA (sL []) ys = true then some (Rz.fz (.str (Txt.join (sL []) ys))) else none | none => none) = _
 rw [e]
 dsimp only
 rw [if_pos e2, ← qC, Yh]
end
theorem Qh : (Str.ofString "abcdefghijklmnopqrstuvwxyz0123456789") = sL signs := by unfold signs; rw [zbs]
end Vm
namespace Vm
open PySem PySem.Spec PyProof.Rows L2 Fz
section
variable {ρ ρ' : Env} {Q : Env → Tp → Prop} {E : XP}
def zbA (i : Nat) (ρ : Env) (tk : Tp) (Q : Env → Tp → Prop) : Prop := ∃ kd p kds kk d, rdT ρ tk = some kd ∧ ρ[i]? = some (some (.o false p, .dict kds)) ∧ X8 kd = some kk ∧ Zb kds (.inl kk) = some d ∧ Q (ρ.set i (some (.o false p, .dict (Y4 kds (.inl kk))))) (.fz d)
theorem we_dpop {i : Nat} {k : RE} {p : Bool} {kds : List (D × D)} (hi : ρ[i]? = some (some (.o false p, .dict kds))) (h : We k ρ (fun ρ1 tk => zbA i ρ1 tk Q) E) : We (zae i k) ρ Q E := by
 unfold We zae
 rw [hi]
 refine zb (zg h (fun ρ1 tk h1 => ?_) (fun _ _ q => q))
 obtain ⟨kd, p', kds', kk, d, e1, e2, e3, e4, q⟩ := h1
 unfold Y9
 simp only [e1, e2, e3, e4]
 exact wxo q
end
section
variable {ρ : Env} {QI : Env → List D → Prop} {E : XP}
def WZ (ρ : Env) (tps : List Tp) (QI : Env → List D → Prop) : Prop := ∃ ρ2 l, za3 ρ tps = .ok ρ2 l ∧ QI ρ2 l
theorem wi_itZ {a b : RE} (h : Wa (zm a (zm b zQ)) ρ (fun ρ1 tps => WZ ρ1 tps QI) E) : Wi (zb1 a b) ρ QI E :=
 zb (zg h (fun ρ1 tps ⟨ρ2, l, e, q⟩ => by rw [e]; exact wxo q) (fun _ _ q => q))
theorem wz_of {t1 t2 : Tp} {d1 d2 : D} {l : List D} (h1 : z0 ρ t1 = some d1) (h2 : z0 ρ t2 = some d2) (h3 : zav d1 d2 = some l) (q : QI ρ l) : WZ ρ [t1, t2] QI := ⟨ρ, l, by unfold za3; simp only [h1, h2, h3], q⟩
end
def TD (kv : List (Int × D)) : List (D × D) := kv.map fun p => (PyData.int p.1, p.2)
instance {kv : List (Int × D)} : Xd (TD kv) := jm (fun x d h => by dsimp only at h; cases h) (fun x h => by dsimp only at h; cases h) kv
def zbJ (l : List Nat) : List (D × D) := TD (l.map fun n : Nat => ((n : Int), PyData.bool true))
instance {l : List Nat} : Xd (zbJ l) := inferInstanceAs (Xd (TD _))
end Vm
namespace Vm
open PySem PySem.Spec PyProof.Rows L2 Fz
structure IsCh (n : Nat) (f : Int → Int) (bs : List Int) : Prop where
 ne : bs ≠ []
 nd : bs.Nodup
 mem : ∀ b ∈ bs, 3 ≤ b ∧ b < 3 + (n : Int)
 nx : ∀ (i : Nat) (h : i + 1 < bs.length), f (bs[i]'(by omega)) = bs[i + 1]
 last : ∀ b, bs.getLast? = some b → f b = 1
theorem IsCh.len {n : Nat} {f : Int → Int} {bs : List Int} (h : IsCh n f bs) : bs.length ≤ n := by
 have := j7 h.nd (m := k3 n) (fun x hx => zcD.mpr (h.mem x hx))
 rw [k3_len] at this; exact this
def sgK (first : Int) (k : Nat) : Nat := signs.getD ((first + 7 * (k : Int)) % 36).toNat 0
theorem Yr {first : Int} {i j : Nat} (hi : i < 36) (hj : j < 36) (h : sgK first i = sgK first j) : i = j := by
 unfold sgK at h
 have h1 := qZ (first + 7 * (i : Int)) (n := 36) (by decide)
 have h2 := qZ (first + 7 * (j : Int)) (n := 36) (by decide)
 have e := congrArg idx h
 rw [Jo (by omega), Jo (by omega)] at e
 omega
def V5 (ahead : Bool) (l : List Nat) : Option Nat := if ahead = true then l.head? else l.getLast?
theorem vA {first : Int} {ahead : Bool} {L : List (List Nat)} (hl : L.length ≤ 36) (h : ∀ (j : Nat) (hj : j < L.length), V5 ahead L[j] = some (sgK first j)) : L.Nodup := by
 rw [List.nodup_iff_pairwise_ne, List.pairwise_iff_getElem]
 intro i j hi hj hij e
 have h1 := h i hi
 have h2 := h j hj
 rw [e, h2] at h1
 injection h1 with h1
 have := Yr (by omega) (by omega) h1
 omega
theorem VF (a : Int) : ∃ c, c ∈ signs ∧ jU (.str (sL signs)) (.int (a % 36)) = some (.fz (.str (sL [c]))) := by
 have h := qZ a (n := 36) (by decide)
 have hk : (a % 36).toNat < signs.length := by rw [Zw]; omega
 exact ⟨signs[(a % 36).toNat], List.getElem_mem hk, Vx (by omega) hk (by rw [Zw]; omega)⟩
theorem flat_one (l : List Nat) : (l.map fun c => [c]).flatten = l := by
 induction l with
 | nil => rfl
 | cons c l ih => rw [List.map_cons, List.flatten_cons, ih]; rfl
theorem jd {l : List Nat} (h : l.length ≤ 1000) : jJ [.str (sL []), .list (l.map fun c => .str (sL [c]))] = some (.fz (.str (sL l))) := by
 have := Va (ps := l.map fun c => [c]) (by rw [flat_one]; omega)
 rw [flat_one, List.map_map] at this
 exact this
theorem IsCh.of {n : Nat} {f : Int → Int} {c : List Int} (hne : c ≠ []) (hnd : c.Nodup) (hm : ∀ b ∈ c, 3 ≤ b ∧ b < 3 + (n : Int)) (hin : ∀ (i : Nat) (h : i < c.length), f c[i] = (c ++ [1]).getD (i + 1) 0) : IsCh n f c := by
 refine ⟨hne, hnd, hm, fun i hi => ?_, fun b hb => ?_⟩
 ·rw [hin i (by omega), List.getD_eq_getElem?_getD, List.getElem?_append_left hi, List.getElem?_eq_getElem hi]; rfl
 ·rw [List.getLast?_eq_getElem?] at hb
  obtain ⟨h1, rfl⟩ := List.getElem?_eq_some_iff.mp hb
  rw [hin _ h1, List.getD_eq_getElem?_getD, List.getElem?_append_right (by omega), show c.length - 1 + 1 - c.length = 0 by omega]; rfl
end Vm
namespace Vm
open PySem PySem.Spec PyProof.Rows L2 Fz
abbrev Pth := List (List Nat)
def zao (p : Pth) : D := .tuple (p.map zW)
def TP (P : List Pth) (f : Pth → D) : List (D × D) := P.map fun p => (zao p, f p)
instance {P : List Pth} {f : Pth → D} : Xd (TP P f) := jm (fun x d h => by dsimp only [zao] at h; cases h) (fun x h => by dsimp only [zao] at h; cases h) P
def zaE (l : List Nat) : Prop := Nm l ∧ 1 ≤ l.length ∧ l.length ≤ 18
def zb7 (p : Pth) : Prop := ∀ l ∈ p, zaE l
structure Hou (most : Nat) (P : List Pth) (g : Pth → Option (List Int)) : Prop where
 nd : P.Nodup
 hd : P.head? = some []
 root : g [] = none
 up : ∀ p ∈ P, p ≠ [] → p.dropLast ∈ P ∧ g p.dropLast = none
 nm : ∀ p ∈ P, zb7 p
 dp : ∀ p ∈ P, p.length ≤ 4
 ws : ∀ p ∈ P, ∀ v, g p = some v → v.length ≤ most ∧ ∀ x ∈ v, 0 ≤ x ∧ x < 1000000000000
theorem Hou.ne {most : Nat} {P : List Pth} {g : Pth → Option (List Int)} (h : Hou most P g) : P ≠ [] := fun e => by have := h.hd; rw [e] at this; exact nomatch this
theorem we_callE {ρ : Env} {Q : Env → Tp → Prop} {E : XP} {m : List (Fg × D) → zY} {i : Nat} {dE : D} {z : Rz} {io : Env} {tp : Tp} (hi : ρ[i]? = some (some (.e, dE))) (hm : m [(.e, dE)] = .ok z io) (ht : jr z tp) (q : Q ρ tp) : We (yG m i) ρ Q E := by
 unfold We yG
 simp only [hi, hm]
 rw [ht.eq]
 exact wxo q
end Vm
set_option maxHeartbeats 4000000
namespace Cd
open PySem PySem.Spec PyProof.Rows L2 Fz Vm
def Xj : RS := (Za (rIf (zaN (Zk (kW oLe oLe (rK (.int 1)) (JZ Jp (zp 0)) (rK (.int 18)))))
 (Qo (rK (.bool false))) xT)
 (Qo (zF Xy (rLc (YK (zp 0)) (Zt 1) (Zk (zF (yQ true) (zp 1) (rK (.str "abcdefghijklmnopqrstuvwxyz0123456789")))) (zp 1) [1]) (JM zQ))))
def qG : List (Fg × D) → zY := ZP 1 2 (fun ρ => (Xj ρ).dry)
def Qp : RS := (Qo (rLc (yu (zm (rK (.int 0)) (zm (JZ Jp (zp 0)) (zm (rK (.int 6)) zQ)))) (Zt 1) (fun ρ => .ok ρ true) (rSl Ke (zp 0) (Jh (zp 1)) (Jh (zF Xx (zp 1) (rK (.int 6))))) [1]))
def ZM : List (Fg × D) → zY := ZP 1 2 (fun ρ => (Qp ρ).dry)
def X6 : RS := (Za (ZR (zF jX (zp 1) (rK (.int 37))) 1)
 (ZF [2] (rIf (Zk (zF oLt (zp 2) (JZ Jp (zp 0))))
 (ZF [2] (Wj 1 (oI fun i j => i + j) (zF Xx (rK (.int 1)) (jG Xo XD (rK (.str "abcdefghijklmnopqrstuvwxyz0123456789")) (zm (zF jU (zp 0) (zp 2)) zQ))))) xT)))
def xY : RS := (Za (ZR (rK (.int 0)) 1)
 (Za (ZF [0] (K9 (Xw (rK (.int 6))) (Zt 2)
 X6))
 (Qo (zp 1))))
def qF : List (Fg × D) → zY := ZP 1 3 (fun ρ => (xY ρ).dry)
def Xv : RS := (ZF [3] (Za (Ww (zF XN (zp 1) (rK (.int 37))) (VR 2 (Jq (Zt 1) (Jq (Zt 4) zaR))))
 (ZF [4] (rIf (Zk (zF oGt (zp 4) (rK (.int 0))))
 (ZF [4] (ZR (zF Jr (zF jU (rK (.str "abcdefghijklmnopqrstuvwxyz0123456789")) (zF Yt (zp 4) (rK (.int 1)))) (zp 2)) 2)) (rIf (Zk (zF oNe (zp 2) (rK (.str ""))))
 (Qo (rK .none)) xT)))))
def xf : RS := (Za (ZF [0] (ZR (zp 0) 1))
 (Za (ZR (rK (.str "")) 2)
 (Za (K9 (Xw (rK (.int 6))) (Zt 3)
 Xv)
 (Za (ZF [1] (rIf (rOr (Zk (zF oGt (zp 1) (rK (.int 0)))) (Zk (zF oEq (zp 2) (rK (.str "")))))
 (Qo (rK .none)) xT))
 (Qo (zp 2))))))
def Z0 : List (Fg × D) → zY := ZP 1 5 (fun ρ => (xf ρ).dry)
def Qw : RS := (Za (ZF [5] (ZR (zF Kc (zF Xx (zF Xx (zF jX (zp 4) (zp 4)) (zF jX (rK (.int 48271)) (zp 4))) (zp 5)) (rK (.int 2147483629))) 4))
 (ZR (zF Xx (zF jX (zp 3) (rK (.int 2147483587))) (zF Kc (zF jX (zp 4) (rK (.int 69621))) (rK (.int 2147483587)))) 3))
def qp : RS := (Za (ZF [0] (ZR (zaM (Zk (zF oLt (zp 1) (Xi 0))) (Km 0 (zp 1)) (rK (.int 0))) 2))
 (Za (rIf (Zk (zF oGe (zp 2) (zF vP (rK (.int 10)) (rK (.int 18)))))
 (Qo (JM (zm (zF Yt (zp 2) (zF vP (rK (.int 10)) (rK (.int 18)))) zQ))) xT)
 (Za (ZR (rK (.int 0)) 3)
 (Za (ZF [1, 2] (ZR (zF Kc (zF Xx (zF Xx (zF jX (zp 2) (rK (.int 48271))) (zF jX (rK (.int 7919)) (zp 1))) (rK (.int 11))) (rK (.int 2147483647))) 4))
 (Za (ZF [4] (K9 (Xw (rK (.int 80))) (Zt 5)
 Qw))
 (Qo (JM (zm (zp 3) zQ))))))))
def zU : List (Fg × D) → zY := ZP 2 6 (fun ρ => (qp ρ).dry)
def Ql : RS := (Za (ZR (zF Kc (zF Kr (zp 0) (rK (.int 0))) (zp 1)) 2)
 (Za (ZF [1] (Ka 0 (zF yR (zF Kr (zp 0) (rK (.int 0))) (zp 1)) (rK (.int 0))))
 (Qo (zp 2))))
def zB : List (Fg × D) → zY := ZP 2 3 (fun ρ => (Ql ρ).dry)
def qQ : RS := (Qo (rK (.str "abcdefghijklmnopqrstuvwxyz0123456789")))
def zH : List (Fg × D) → zY := ZP 0 0 (fun ρ => (qQ ρ).dry)
def QR : RS := (Za (ZF [6] (ZR (zF jU (Zm (Zy zH) [] zQ) (zF Kc (zF Xx (zp 3) (zF jX (rK (.int 7)) (zp 6))) (rK (.int 36)))) 7))
 (Za (ZR (zF Kr (JM (zm (Zm (Zy zB) [true, false] (zm (zp 0) (zm (rK (.int 18)) zQ))) (zm (zF Kr (JM (zm (rK (.int 5)) (zm (rK (.int 6)) (zm (rK (.int 11)) (zm (rK (.int 12)) (zm (rK (.int 17)) (zm (rK (.int 0)) (zm (rK (.int 4)) (zm (rK (.int 16)) zQ))))))))) (Zm (Zy zB) [true, false] (zm (zp 0) (zm (rK (.int 8)) zQ)))) zQ))) (Zm (Zy zB) [true, false] (zm (zp 0) (zm (rK (.int 2)) zQ)))) 8)
 (ZF [7, 8] (rIf (Zk (zp 4))
 (ZF [7, 8] (vh (QZ 5 QJ (zm (zF Jr (zp 7) (rSl Ke (zp 2) Xz (Jh (zF Kr (JM (zm (rK (.int 6)) (zm (rK (.int 11)) (zm (rK (.int 12)) (zm (rK (.int 17)) zQ))))) (zF Kc (zp 8) (rK (.int 4))))))) zQ)))) (ZF [7, 8] (vh (QZ 5 QJ (zm (zF Jr (rSl Ke (zp 2) Xz (Jh (zp 8))) (zp 7)) zQ))))))))
def qL : RS := (Za (ZR (jG Xo jJ (rK (.str "")) (zm (rLc (Xw (rK (.int 17))) (Zt 6) (fun ρ => .ok ρ true) (zF jU (Zm (Zy zH) [] zQ) (Zm (Zy zB) [true, false] (zm (zp 0) (zm (rK (.int 36)) zQ)))) [6]) zQ)) 2)
 (Za (ZR (Zm (Zy zB) [true, false] (zm (zp 0) (zm (rK (.int 36)) zQ))) 3)
 (Za (ZR (zF oEq (Zm (Zy zB) [true, false] (zm (zp 0) (zm (rK (.int 4)) zQ))) (rK (.int 0))) 4)
 (Za (ZR (JM zQ) 5)
 (Za (ZF [1, 2, 3, 4] (K9 (Xw (zp 1)) (Zt 6)
 QR))
 (Qo (zp 5)))))))
def Zq : List (Fg × D) → zY := ZP 2 9 (fun ρ => (qL ρ).dry)
def Qe : RS := (Qo (rLc (YK (zp 0)) (Zt 1) (fun ρ => .ok ρ true) (jG Xo XD (Zm (Zy zH) [] zQ) (zm (zp 1) zQ)) [1]))
def z8 : List (Fg × D) → zY := ZP 1 2 (fun ρ => (Qe ρ).dry)
def Wd : RS := (Za (ZF [3] (ZR (Zm (Zy zU) [false, false] (zm (zp 0) (zm (zp 3) zQ))) 1))
 (Za (ZF [1] (ZR (jG Xo jJ (rK (.str "")) (zm (rLc (Xw (zF Xx (rK (.int 1)) (Zm (Zy zB) [true, false] (zm (zp 1) (zm (rK (.int 18)) zQ))))) (Zt 7) (fun ρ => .ok ρ true) (zF jU (Zm (Zy zH) [] zQ) (Zm (Zy zB) [true, false] (zm (zp 1) (zm (rK (.int 36)) zQ)))) [7]) zQ)) 4))
 (ZF [4] (rIf (Zk (zF (oIn true) (zp 4) (zp 2)))
 (ZF [4] (vh (QZ 2 QJ (zm (zp 4) zQ)))) xT))))
def wR : RS := (Za (ZR (JZ JC (rLc (yx (Zm (Zy ZM) [false] (zm (zp 4) zQ))) (Zt 8) (fun ρ => .ok ρ true) (Zm (Zy qF) [false] (zm (zp 8) zQ)) [8])) 6)
 (Za (rIf (rOr (Zk (v5 false (zp 6) (zp 5))) (rOr (Zk (zF yN (Zm (Zy qG) [false] (zm (zp 4) zQ)) (rK (.bool true)))) (Zk (zF oNe (jG Xo jJ (rK (.str "")) (zm (rLc (zax (zp 6)) (Zt 9) (fun ρ => .ok ρ true) (Zm (Zy Z0) [false] (zm (zp 9) zQ)) [9]) zQ)) (zp 4)))))
 (Qo (rK (.bool false))) xT)
 (ZF [4, 6] (KZ 5 (zp 4) (zp 6)))))
def Wh : RS := (Za (ZR (Zm (Zy zU) [false, false] (zm (zp 0) (zm (rK (.int 0)) zQ))) 1)
 (Za (ZF [1] (ZR (Zm (Zy Zq) [true, false] (zm (zp 1) (zm (zF Xx (rK (.int 2)) (Zm (Zy zB) [true, false] (zm (zp 1) (zm (rK (.int 11)) zQ)))) zQ))) 2))
 (Za (K9 (VB (rK (.int 1)) (zF zaj (Xi 0) (rK (.int 20)))) (Zt 3)
 Wd)
 (Za (ZR (fun ρ => .ok ρ (.ow true (.dict []))) 5)
 (Za (K9 (yx (zp 2)) (Zt 4)
 wR)
 (Qo (zF Xy (rLc (yx (Qv 5)) (Zt 6) (fun ρ => .ok ρ true) (zF Qt (zp 5) (zp 6)) [6]) (JZ (qN z8) (zp 2)))))))))
def m_law : List (Fg × D) → zY := ZP 1 10 (fun ρ => (Wh ρ).dry)
local macro_rules | `(tactic| walk_at "num") => `(tactic| first | with_reducible assumption | omega | decide)
local macro_rules | `(tactic| walk_at "dec") => `(tactic| first | rfl | with_reducible assumption | (simp only [decide_eq_true_eq, decide_eq_false_iff_not, Bool.not_eq_true', Bool.not_eq_false', Bool.not_true, Bool.not_false]; first | done | omega | assumption))
local macro_rules | `(tactic| walk_at "len") => `(tactic| ((try simp only [List.length_replicate, Vm.k3_len, Vm.tbF_len, List.length_map, List.length_append, List.length_cons, List.length_nil, Vm.rgD_len, Vm.lenT, List.length_range, List.length_reverse, List.length_take, List.length_drop]); omega))
local macro_rules | `(tactic| walk_at "sz") => `(tactic| first | ((with_reducible apply Vm.sz_lt); walk_at "len") | ((with_reducible apply Vm.sz_lt'); walk_at "len"))
local macro_rules | `(tactic| walk_at "at") => `(tactic| first | exact rfl | exact Vm.atI_last | (with_reducible apply Vm.atI_map; omega) | (with_reducible apply Vm.atI_nat; omega))
local macro_rules | `(tactic| lcg_sub) => `(tactic| with_reducible exact Vm.q_tupleT)
local macro_rules | `(tactic| lcg_sub) => `(tactic| with_reducible exact Vm.q_tuple)
local macro_rules | `(tactic| lcg_sub) => `(tactic| with_reducible exact Vm.q_listT)
local macro_rules | `(tactic| lcg_sub) => `(tactic| with_reducible exact Vm.q_list)
local macro_rules | `(tactic| lcg_sub) => `(tactic| ((with_reducible apply Vm.q_catT); walk_at "sz"))
local macro_rules | `(tactic| lcg_sub) => `(tactic| ((with_reducible apply Vm.q_catL); walk_at "sz"))
local macro_rules | `(tactic| lcg_sub) => `(tactic| ((with_reducible apply Vm.q_ixT); walk_at "at"))
local macro_rules | `(tactic| lcg_sub) => `(tactic| ((with_reducible apply Vm.q_ixL); walk_at "at"))
local macro_rules | `(tactic| lcg_sub) => `(tactic| with_reducible exact Vm.q_lenT)
local macro_rules | `(tactic| lcg_sub) => `(tactic| with_reducible exact Vm.q_lenL)
local macro_rules | `(tactic| lcg_sub) => `(tactic| with_reducible exact Vm.q_lenTM)
local macro_rules | `(tactic| lcg_sub) => `(tactic| with_reducible exact Vm.q_lenLM)
local macro_rules | `(tactic| lcg_sub) => `(tactic| with_reducible exact Vm.q_notN)
local macro_rules | `(tactic| lcg_sub) => `(tactic| with_reducible exact Vm.q_isN)
local macro_rules | `(tactic| lcg_sub) => `(tactic| with_reducible exact Vm.q_abs)
local macro_rules | `(tactic| lcg_sub) => `(tactic| with_reducible exact Vm.q_pow59)
local macro_rules | `(tactic| lcg_sub) => `(tactic| with_reducible exact Vm.q_pow8)
local macro_rules | `(tactic| lcg_sub) => `(tactic| with_reducible exact Vm.q_pow12)
local macro_rules | `(tactic| lcg_sub) => `(tactic| ((with_reducible apply Vm.q_divW); walk_at "num"; walk_at "num"))
local macro_rules | `(tactic| lcg_sub) => `(tactic| ((with_reducible apply Vm.q_div); walk_at "num"))
local macro_rules | `(tactic| lcg_sub) => `(tactic| ((with_reducible apply Vm.q_mod); walk_at "num"))
local macro_rules | `(tactic| lcg_sub) => `(tactic| ((with_reducible apply Vm.q_mul); walk_at "num"))
local macro_rules | `(tactic| lcg_sub) => `(tactic| with_reducible exact Vm.q_min)
local macro_rules | `(tactic| lcg_sub) => `(tactic| with_reducible exact Vm.q_max)
local macro_rules | `(tactic| lcg_sub) => `(tactic| with_reducible exact Vm.q_neg)
local macro_rules | `(tactic| lcg_sub) => `(tactic| with_reducible exact Vm.q_neB)
local macro_rules | `(tactic| lcg_sub) => `(tactic| with_reducible exact Vm.q_eqB)
local macro_rules | `(tactic| lcg_sub) => `(tactic| with_reducible exact Vm.q_neS)
local macro_rules | `(tactic| lcg_sub) => `(tactic| with_reducible exact Vm.q_eqS)
local macro_rules | `(tactic| lcg_sub) => `(tactic| with_reducible exact Vm.q_ge)
local macro_rules | `(tactic| lcg_sub) => `(tactic| with_reducible exact Vm.q_gt)
local macro_rules | `(tactic| lcg_sub) => `(tactic| with_reducible exact Vm.q_le)
local macro_rules | `(tactic| lcg_sub) => `(tactic| with_reducible exact Vm.q_lt)
local macro_rules | `(tactic| lcg_sub) => `(tactic| with_reducible exact Vm.q_neI)
local macro_rules | `(tactic| lcg_sub) => `(tactic| with_reducible exact Vm.q_eqI)
local macro_rules | `(tactic| lcg_sub) => `(tactic| with_reducible exact Vm.q_sub)
local macro_rules | `(tactic| lcg_sub) => `(tactic| with_reducible exact Vm.q_add)
local macro_rules | `(tactic| lcg_sub) => `(tactic| (with_reducible exact Vm.notin_ints))
local macro_rules | `(tactic| lcg_sub) => `(tactic| (with_reducible exact Vm.in_ints _ _))
local macro_rules | `(tactic| lcg_sub) => `(tactic| ((with_reducible apply Vm.q_din); assumption))
local macro_rules | `(tactic| lcg_sub) => `(tactic| ((with_reducible apply Vm.q_dnotin); assumption))
local macro_rules | `(tactic| lcg_sub) => `(tactic| ((with_reducible apply Vm.q_dget); assumption))
local macro_rules | `(tactic| lcg_sub) => `(tactic| ((with_reducible apply Vm.q_repL1); omega))
local macro_rules | `(tactic| lcg_sub) => `(tactic| (with_reducible exact Vm.q_slTo))
local macro_rules | `(tactic| lcg_sub) => `(tactic| (with_reducible exact Vm.in_w))
local macro_rules | `(tactic| lcg_sub) => `(tactic| (with_reducible exact Vm.q_eqWr))
local macro_rules | `(tactic| lcg_sub) => `(tactic| (with_reducible exact Vm.q_neWr))
local macro_rules | `(tactic| lcg_sub) => `(tactic| (with_reducible exact Vm.q_eqDk))
local macro_rules | `(tactic| lcg_sub) => `(tactic| (with_reducible exact Vm.q_neDk))
local macro_rules | `(tactic| lcg_sub) => `(tactic| (with_reducible exact Vm.q_eqPg))
local macro_rules | `(tactic| lcg_sub) => `(tactic| (with_reducible exact Vm.q_nePg))
local macro_rules | `(tactic| lcg_sub) => `(tactic| (with_reducible exact Vm.q_eqPgs))
local macro_rules | `(tactic| lcg_sub) => `(tactic| (with_reducible exact Vm.q_nePgs))
local macro_rules | `(tactic| lcg_sub) => `(tactic| (with_reducible exact Vm.q_count))
local macro_rules | `(tactic| lcg_sub) => `(tactic| ((with_reducible apply Vm.q_lenF); walk_at "num"))
local macro_rules | `(tactic| lcg_sub) => `(tactic| ((with_reducible apply Vm.q_sortF); walk_at "num"; walk_at "num"))
local macro_rules | `(tactic| lcg_sub) => `(tactic| ((with_reducible apply Vm.q_lenB); assumption; walk_at "num"))
local macro_rules | `(tactic| lcg_sub) => `(tactic| ((with_reducible apply Vm.q_sortB); assumption; walk_at "num"; walk_at "num"))
local macro_rules | `(tactic| lcg_sub) => `(tactic| ((with_reducible apply Vm.q_getB); assumption; walk_at "num"))
local macro_rules | `(tactic| lcg_sub) => `(tactic| ((with_reducible apply Vm.q_getF); walk_at "num"))
local macro_rules | `(tactic| lcg_sub) => `(tactic| ((with_reducible apply Vm.q_repI); walk_at "num"))
local macro_rules | `(tactic| lcg_sub) => `(tactic| ((with_reducible apply Vm.q_rep0); walk_at "num"))
local macro_rules | `(tactic| lcg_sub) => `(tactic| ((with_reducible apply Vm.q_catLM); walk_at "len"))
local macro_rules | `(tactic| lcg_sub) => `(tactic| ((with_reducible apply Vm.q_catTM); walk_at "len"))
local macro_rules | `(tactic| lcg_sub) => `(tactic| ((with_reducible apply Vm.q_lenS); walk_at "len"))
local macro_rules | `(tactic| lcg_sub) => `(tactic| ((with_reducible apply Vm.q_catS); walk_at "len"))
local macro_rules | `(tactic| lcg_sub) => `(tactic| with_reducible exact Vm.q_inSL)
local macro_rules | `(tactic| lcg_sub) => `(tactic| with_reducible exact Vm.q_neSL)
local macro_rules | `(tactic| lcg_sub) => `(tactic| with_reducible exact Vm.q_eqSL)
local macro_rules | `(tactic| lcg_sub) => `(tactic| with_reducible exact Vm.q_oIadd)
local macro_rules | `(tactic| walk_at "op") => `(tactic| lcg_sub)
local macro_rules | `(tactic| walk_at "isi") => `(tactic| first | with_reducible exact Vm.q_isi_list_list | with_reducible exact Vm.q_isi_list_tuple | with_reducible exact Vm.q_isi_list_int | with_reducible exact Vm.q_isi_list_bool | with_reducible exact Vm.q_isi_list_str | with_reducible exact Vm.q_isi_list_none | with_reducible exact Vm.q_isi_tuple_list | with_reducible exact Vm.q_isi_tuple_tuple | with_reducible exact Vm.q_isi_tuple_int | with_reducible exact Vm.q_isi_tuple_bool | with_reducible exact Vm.q_isi_tuple_str | with_reducible exact Vm.q_isi_tuple_none | with_reducible exact Vm.q_isi_int_list | with_reducible exact Vm.q_isi_int_tuple | with_reducible exact Vm.q_isi_int_int | with_reducible exact Vm.q_isi_int_bool | with_reducible exact Vm.q_isi_int_str | with_reducible exact Vm.q_isi_int_none | with_reducible exact Vm.q_isi_bool_list | with_reducible exact Vm.q_isi_bool_tuple | with_reducible exact Vm.q_isi_bool_int | with_reducible exact Vm.q_isi_bool_bool | with_reducible exact Vm.q_isi_bool_str | with_reducible exact Vm.q_isi_bool_none | with_reducible exact Vm.q_isi_str_list | with_reducible exact Vm.q_isi_str_tuple | with_reducible exact Vm.q_isi_str_int | with_reducible exact Vm.q_isi_str_bool | with_reducible exact Vm.q_isi_str_str | with_reducible exact Vm.q_isi_str_none | with_reducible exact Vm.q_isi_dict_list | with_reducible exact Vm.q_isi_dict_tuple | with_reducible exact Vm.q_isi_dict_int | with_reducible exact Vm.q_isi_dict_bool | with_reducible exact Vm.q_isi_dict_str | with_reducible exact Vm.q_isi_dict_none)
local macro_rules | `(tactic| walk_at "at") => `(tactic| with_reducible first | exact Vm.atI_lastM | exact Vm.atI_m0 | exact Vm.atI_m1 | exact Vm.atI_m2 | exact Vm.atI_m3 | exact Vm.atI_m4)
local macro_rules | `(tactic| walk_at "mth") => `(tactic| first
 | ((with_reducible apply Vm.q_app); walk_at "sz") | ((with_reducible apply Vm.q_extT); walk_at "len") | ((with_reducible apply Vm.q_extL); walk_at "len"))
local macro_rules | `(tactic| walk_at "put") => `(tactic| (simp only [List.set_cons_zero, List.set_cons_succ]; exact rfl))
local macro_rules | `(tactic| walk_at "ix") => `(tactic| with_reducible first | exact Vm.lset0 | exact Vm.lset1 | exact Vm.lset2 | exact Vm.lsetL | (apply Vm.lsetM; omega) | (apply Vm.lsetN; omega))
local macro_rules | `(tactic| walk_at "spec") => `(tactic| fail "no spec")
local macro_rules | `(tactic| k_updF) => `(tactic| ((with_reducible apply Vm.mt_); (focus (exact rfl)); (focus (walk_at "op")); (focus (exact inferInstance))))
local macro_rules | `(tactic| k_updF) => `(tactic| ((with_reducible apply Vm.mo_); (focus (exact rfl)); (focus (exact rfl))))
local macro_rules | `(tactic| k_updF) => `(tactic| with_reducible apply Vm.we_meth)
local macro_rules | `(tactic| k_updF) => `(tactic| with_reducible apply Vm.we_lc)
local macro_rules | `(tactic| k_updF) => `(tactic| with_reducible apply Vm.ws_ct)
local macro_rules | `(tactic| k_updF) => `(tactic| with_reducible apply Vm.ws_bk)
local macro_rules | `(tactic| k_updF) => `(tactic| with_reducible apply Vm.ws_retN)
local macro_rules | `(tactic| k_updF) => `(tactic| ((with_reducible apply Vm.we_callE); (focus (exact rfl)); (focus (walk_at "spec")); (focus (exact inferInstance))))
local macro_rules | `(tactic| k_updF) => `(tactic| ((with_reducible apply Vm.we_fldE); (focus (exact rfl))))
local macro_rules | `(tactic| k_updF) => `(tactic| ((with_reducible apply Vm.we_isE); (focus (exact rfl)); (focus (exact rfl))))
local macro_rules | `(tactic| k_updF) => `(tactic| ((with_reducible apply Vm.wtry_t); (focus (exact rfl)); (focus (exact rfl)); (focus (with_reducible first | exact Vm.encX_n | exact Vm.encX_s)); (focus (exact inferInstance))))
local macro_rules | `(tactic| k_updF) => `(tactic| with_reducible apply Vm.ws_try)
local macro_rules | `(tactic| k_updF) => `(tactic| with_reducible apply Vm.ws_raiseG)
local macro_rules | `(tactic| k_updF) => `(tactic| with_reducible apply Vm.ws_raise)
local macro_rules | `(tactic| k_updF) => `(tactic| ((with_reducible apply Vm.we_lenSc); (focus (exact rfl))))
local macro_rules | `(tactic| k_updF) => `(tactic| with_reducible apply Vm.we_fzv)
local macro_rules | `(tactic| k_updF) => `(tactic| ((with_reducible apply Vm.ch_); (focus (exact rfl)); (focus (walk_at "op"))))
local macro_rules | `(tactic| k_updF) => `(tactic| with_reducible apply Vm.we_chain)
local macro_rules | `(tactic| k_updF) => `(tactic| with_reducible apply Vm.we_notV)
local macro_rules | `(tactic| k_updF) => `(tactic| with_reducible apply Vm.we_orV)
local macro_rules | `(tactic| k_updF) => `(tactic| with_reducible apply Vm.we_andV)
local macro_rules | `(tactic| k_updF) => `(tactic| with_reducible apply Vm.we_ifE)
local macro_rules | `(tactic| k_updF) => `(tactic| ((with_reducible refine Exists.intro _ (And.intro (rfl : PyData.tuple _ = PyData.tuple _) ?_))))
local macro_rules | `(tactic| k_updF) => `(tactic| ((with_reducible refine Exists.intro _ (And.intro (rfl : PyData.list _ = PyData.list _) ?_))))
local macro_rules | `(tactic| k_updF) => `(tactic| ((with_reducible apply Vm.wk_st)))
local macro_rules | `(tactic| k_updF) => `(tactic| ((with_reducible apply Vm.wk_b); (focus (exact rfl))))
local macro_rules | `(tactic| k_updF) => `(tactic| ((with_reducible apply Vm.wz_of); (focus (exact rfl)); (focus (exact rfl)); (focus (exact rfl))))
local macro_rules | `(tactic| k_updF) => `(tactic| with_reducible apply Vm.wi_itZ)
local macro_rules | `(tactic| k_updF) => `(tactic| with_reducible apply Vm.wi_itET)
local macro_rules | `(tactic| k_updF) => `(tactic| with_reducible apply Vm.wi_itE)
local macro_rules | `(tactic| k_updF) => `(tactic| with_reducible apply Vm.wi_itT)
local macro_rules | `(tactic| k_updF) => `(tactic| with_reducible apply Vm.wi_itL)
local macro_rules | `(tactic| k_updF) => `(tactic| ((with_reducible apply Vm.ws_lockO); (focus (exact rfl)); (focus (exact inferInstance)); (focus (exact rfl)); (focus (exact rfl)); (focus (exact inferInstance)); (focus (exact inferInstance))))
local macro_rules | `(tactic| k_updF) => `(tactic| ((with_reducible apply Vm.ws_lockOO); (focus (exact rfl)); (focus (exact rfl)); (focus (exact inferInstance))))
local macro_rules | `(tactic| k_updF) => `(tactic| ((with_reducible apply Vm.ws_lockF); (focus (exact rfl)); (focus (exact rfl)); (focus (exact inferInstance)); (focus (exact inferInstance))))
local macro_rules | `(tactic| k_updF) => `(tactic| ((with_reducible apply Vm.ws_lockB); (focus (exact rfl)); (focus (exact rfl)); (focus (exact inferInstance)); (focus (exact inferInstance))))
local macro_rules | `(tactic| k_updF) => `(tactic| ((with_reducible apply Vm.wi_itD); (focus (exact rfl))))
local macro_rules | `(tactic| k_updF) => `(tactic| with_reducible apply Vm.wi_rng3)
local macro_rules | `(tactic| k_updF) => `(tactic| with_reducible apply Vm.we_lrg2)
local macro_rules | `(tactic| k_updF) => `(tactic| with_reducible apply Vm.we_lrg1)
local macro_rules | `(tactic| k_updF) => `(tactic| ((with_reducible apply Vm.wr2_of); (focus (exact rfl)); (focus (exact rfl)); (focus (omega)); (focus (exact rfl))))
local macro_rules | `(tactic| k_updF) => `(tactic| ((with_reducible apply Vm.wr1_of); (focus (exact rfl)); (focus (omega))))
local macro_rules | `(tactic| k_updF) => `(tactic| ((with_reducible apply Vm.wr1_n); (focus (exact rfl)); (focus (omega))))
local macro_rules | `(tactic| k_updF) => `(tactic| with_reducible apply Vm.wi_rng2)
local macro_rules | `(tactic| k_updF) => `(tactic| with_reducible apply Vm.wi_rng1)
local macro_rules | `(tactic| k_updF) => `(tactic| ((with_reducible apply Vm.sl_); (focus (exact rfl)); (focus (walk_at "op")); (focus (exact inferInstance))))
local macro_rules | `(tactic| k_updF) => `(tactic| ((with_reducible apply Vm.wpt_of); (focus (exact rfl))))
local macro_rules | `(tactic| k_updF) => `(tactic| with_reducible apply Vm.wp_part)
local macro_rules | `(tactic| k_updF) => `(tactic| with_reducible apply Vm.wp_no)
local macro_rules | `(tactic| k_updF) => `(tactic| with_reducible apply Vm.we_sl)
local macro_rules | `(tactic| k_updF) => `(tactic| ((with_reducible apply Vm.o1_); (focus (exact rfl)); (focus (walk_at "isi")); (focus (exact inferInstance))))
local macro_rules | `(tactic| k_updF) => `(tactic| with_reducible apply Vm.we_isi)
local macro_rules | `(tactic| k_updF) => `(tactic| with_reducible apply Vm.we_dnew)
local macro_rules | `(tactic| k_updF) => `(tactic| ((with_reducible apply Vm.wg_tup); (focus (exact rfl))))
local macro_rules | `(tactic| k_updF) => `(tactic| with_reducible apply Vm.wgs_cons)
local macro_rules | `(tactic| k_updF) => `(tactic| with_reducible apply Vm.wgs_nil)
local macro_rules | `(tactic| k_updF) => `(tactic| ((with_reducible apply Vm.wg_name); (focus (exact inferInstance)); (focus (exact rfl))))
local macro_rules | `(tactic| k_updF) => `(tactic| with_reducible apply Vm.ws_asgG)
local macro_rules | `(tactic| k_updF) => `(tactic| ((with_reducible apply Vm.au_); (focus (exact rfl)); (focus (exact rfl)); (focus (walk_at "op")); (focus (exact inferInstance))))
local macro_rules | `(tactic| k_updF) => `(tactic| ((with_reducible apply Vm.ws_aug); (focus (exact rfl))))
local macro_rules | `(tactic| k_updF) => `(tactic| ((with_reducible apply Vm.si_); (focus (exact rfl)); (focus (exact rfl)); (focus (walk_at "ix")); (focus (exact inferInstance))))
local macro_rules | `(tactic| k_updF) => `(tactic| ((with_reducible apply Vm.ws_setI); (focus (exact rfl))))
local macro_rules | `(tactic| k_updF) => `(tactic| ((with_reducible apply Vm.we_dpop); (focus (exact rfl))))
local macro_rules | `(tactic| k_updF) => `(tactic| ((with_reducible apply Vm.wdp_of); (focus (exact rfl)); (focus (exact rfl)); (focus (exact rfl)); (focus (walk_at "sz")); (focus (walk_at "put")); (focus (exact inferInstance))))
local macro_rules | `(tactic| k_updF) => `(tactic| ((with_reducible apply Vm.ws_dput); (focus (exact rfl))))
local macro_rules | `(tactic| k_updF) => `(tactic| ((with_reducible apply Vm.wm_of); (focus (exact rfl)); (focus (walk_at "mth")); (focus (exact inferInstance))))
local macro_rules | `(tactic| k_updF) => `(tactic| ((with_reducible apply Vm.we_methL); (focus (exact rfl))))
local macro_rules | `(tactic| k_updF) => `(tactic| with_reducible apply Vm.ws_drop)
local macro_rules | `(tactic| k_updF) => `(tactic| with_reducible apply Vm.ws_for)
local macro_rules | `(tactic| k_updF) => `(tactic| ((with_reducible refine And.intro (a := _ < sizeLine) ?_ ?_); (focus (walk_at "sz"))))
local macro_rules | `(tactic| k_updF) => `(tactic| ((with_reducible refine And.intro (a := _ ≤ sizeLine) ?_ ?_); (focus (walk_at "sz"))))
local macro_rules | `(tactic| k_updF) => `(tactic| ((with_reducible apply Vm.st_slo); (focus (exact rfl)); (focus (exact inferInstance))))
local macro_rules | `(tactic| k_updF) => `(tactic| ((with_reducible apply Vm.st_slf); (focus (exact rfl))))
local macro_rules | `(tactic| k_updF) => `(tactic| with_reducible apply Vm.st_ow)
local macro_rules | `(tactic| k_updF) => `(tactic| with_reducible apply Vm.st_fz)
local macro_rules | `(tactic| k_updF) => `(tactic| with_reducible apply Vm.sts_cons)
local macro_rules | `(tactic| k_updF) => `(tactic| with_reducible apply Vm.sts_nil)
local macro_rules | `(tactic| k_updF) => `(tactic| with_reducible apply Vm.we_tup)
local macro_rules | `(tactic| k_updF) => `(tactic| with_reducible apply Vm.we_lst)
local macro_rules | `(tactic| k_updF) => `(tactic| with_reducible apply Vm.wt_yes)
local macro_rules | `(tactic| k_updF) => `(tactic| with_reducible apply Vm.wt_not)
local macro_rules | `(tactic| k_updF) => `(tactic| with_reducible apply Vm.wt_and)
local macro_rules | `(tactic| k_updF) => `(tactic| with_reducible apply Vm.wt_or)
local macro_rules | `(tactic| k_updF) => `(tactic| ((with_reducible apply Vm.rt_slo); (focus (exact rfl)); (focus (exact inferInstance))))
local macro_rules | `(tactic| k_updF) => `(tactic| ((with_reducible apply Vm.rt_slf); (focus (exact rfl))))
local macro_rules | `(tactic| k_updF) => `(tactic| with_reducible apply Vm.rt_ow)
local macro_rules | `(tactic| k_updF) => `(tactic| with_reducible apply Vm.rt_fz)
local macro_rules | `(tactic| k_updF) => `(tactic| with_reducible apply Vm.ws_ret)
local macro_rules | `(tactic| k_updF) => `(tactic| ((with_reducible apply Vm.c_er); (focus (exact ⟨rfl, rfl⟩)); (focus (exact rfl)); (focus (walk_at "spec")); (focus (exact inferInstance))))
local macro_rules | `(tactic| k_updF) => `(tactic| ((with_reducible apply Vm.c_ok); (focus (exact ⟨rfl, rfl⟩)); (focus (exact rfl)); (focus (walk_at "spec")); (focus (exact inferInstance)); (focus (exact inferInstance))))
local macro_rules | `(tactic| k_updF) => `(tactic| ((with_reducible apply Vm.c_dok); (focus (exact ⟨rfl, rfl⟩)); (focus (exact rfl)); (focus (walk_at "spec")); (focus (exact inferInstance)); (focus (exact inferInstance))))
local macro_rules | `(tactic| k_updF) => `(tactic| with_reducible apply Vm.wa_nil)
local macro_rules | `(tactic| k_updF) => `(tactic| with_reducible apply Vm.wa_cons)
local macro_rules | `(tactic| k_updF) => `(tactic| with_reducible apply Vm.we_call)
local macro_rules | `(tactic| k_updF) => `(tactic| with_reducible apply Vm.ws_next)
local macro_rules | `(tactic| k_updF) => `(tactic| with_reducible apply Vm.ws_if)
local macro_rules | `(tactic| k_updF) => `(tactic| ((with_reducible apply Vm.wu_); (focus (exact rfl)); (focus (exact inferInstance))))
local macro_rules | `(tactic| k_updF) => `(tactic| with_reducible apply Vm.ws_fgtL)
local macro_rules | `(tactic| k_updF) => `(tactic| ((with_reducible apply Vm.ww_); (focus (exact inferInstance))))
local macro_rules | `(tactic| k_updF) => `(tactic| with_reducible apply Vm.ws_fgt)
local macro_rules | `(tactic| k_updF) => `(tactic| ((with_reducible apply Vm.asg_slo); (focus (exact rfl)); (focus (exact inferInstance)); (focus (exact inferInstance)); (focus (exact rfl))))
local macro_rules | `(tactic| k_updF) => `(tactic| ((with_reducible apply Vm.asg_slf); (focus (exact rfl)); (focus (exact inferInstance)); (focus (exact rfl))))
local macro_rules | `(tactic| k_updF) => `(tactic| ((with_reducible apply Vm.asg_ow); (focus (exact inferInstance)); (focus (exact rfl))))
local macro_rules | `(tactic| k_updF) => `(tactic| ((with_reducible apply Vm.asg_fz); (focus (exact inferInstance)); (focus (exact rfl))))
local macro_rules | `(tactic| k_updF) => `(tactic| with_reducible apply Vm.ws_asg)
local macro_rules | `(tactic| k_updF) => `(tactic| ((with_reducible apply Vm.o1_); (focus (exact rfl)); (focus (walk_at "op")); (focus (exact inferInstance))))
local macro_rules | `(tactic| k_updF) => `(tactic| with_reducible apply Vm.we_op1)
local macro_rules | `(tactic| k_updF) => `(tactic| ((with_reducible apply Vm.wb_of); (focus (exact rfl))))
local macro_rules | `(tactic| k_updF) => `(tactic| with_reducible apply Vm.wt_test)
local macro_rules | `(tactic| k_updF) => `(tactic| ((with_reducible apply Vm.o2_); (focus (exact rfl)); (focus (exact rfl)); (focus (walk_at "op")); (focus (exact inferInstance))))
local macro_rules | `(tactic| k_updF) => `(tactic| with_reducible apply Vm.we_op2)
local macro_rules | `(tactic| k_updF) => `(tactic| with_reducible apply Vm.we_K)
local macro_rules | `(tactic| k_updF) => `(tactic| ((with_reducible apply Vm.we_var); (focus (exact rfl))))
local macro_rules | `(tactic| k_updF) => `(tactic| with_reducible apply Vm.ws_seq)
local macro_rules | `(tactic| walk_at "step") => `(tactic| k_updF)
local macro_rules | `(tactic| walk_at "if") => `(tactic| first
 | ((with_reducible refine Vm.ite_F ?_ ?_); (focus (walk_at "dec")))
 | ((with_reducible refine Vm.ite_T ?_ ?_); (focus (walk_at "dec"))))
local macro_rules | `(tactic| walk_at "go") => `(tactic| repeat (first | walk_at "step" | walk_at "if"))
local macro_rules | `(tactic| walk_at "fn") => `(tactic| ((with_reducible apply Vm.wf_run'); (focus (exact rfl)); (focus (exact rfl)); (focus (exact inferInstance)); (try with_reducible apply Vm.ws_dry)))
theorem YD {a n : Int} (hn : 0 < n) (hn2 : n ≤ 10 ^ 60) : zB [(.o false true, pvD a), (.f, .int n)] = .ok (.fz (.int (a % n))) [some (.o false true, pvD (a / n)), none] := jM (by
 unfold pvD zB
 walk_at "fn"
 unfold Ql
 walk_at "go"
 exact ⟨rfl, rfl⟩)
local macro_rules | `(tactic| walk_at "spec") => `(tactic| (with_reducible refine YD ?_ ?_) <;> walk_at "num")
local macro_rules | `(tactic| walk_at "op") => `(tactic| with_reducible first | exact Vm.q_pow18 | exact Vm.q_int_b)
theorem wF (ns : List Int) (k : Int) (h0 : 0 ≤ k) (h1 : k ≤ 1000) : ∃ a : Int, zU [(.s, .list (ns.map PyData.int)), (.f, .int k)] = .ok (.ow false (pvD a)) [none, none] := by
 obtain ⟨j, rfl⟩ : ∃ j : Nat, k = (j : Int) := ⟨k.toNat, by omega⟩
 have key : Wf (zU [(.s, .list (ns.map PyData.int)), (.f, .int (j : Int))]) (fun r io => ∃ a, r = .ow false (pvD a) ∧ io = [none, none]) (fun _ _ => False) := by
  unfold zU
  walk_at "fn"
  unfold qp
  refine zaT (fun ρ => ∃ c : Int, ρ = [none, some (.f, .int (j : Int)), some (.f, .int c), none, none, none]) ?_ ?_
  ·walk_at "go"
   refine Qu (fun q => ?_) (fun q => ?_)
   ·have q : j < ns.length := by have := of_decide_eq_true q; rw [List.length_map] at this; omega
    refine Vm.we_ixSc rfl ?_
    walk_at "go"
    refine ⟨(j : Int), ns[j], rfl, Vm.atI_map q, ?_⟩
    walk_at "go"
    exact ⟨_, rfl⟩
   ·walk_at "go"
    exact ⟨_, rfl⟩
  ·rintro ρ ⟨c, rfl⟩
   walk_at "go"
   refine Qu (fun q => ?_) (fun q => ?_)
   ·walk_at "go"
    exact ⟨_, rfl, rfl⟩
   ·walk_at "go"
    have hb := qZ (c * 48271 + 7919 * (j : Int) + 11) (n := 2147483647) (by decide)
    generalize (c * 48271 + 7919 * (j : Int) + 11) % 2147483647 = x at hb
    refine jD (fun _ ρ => ∃ t y : Int, (0 ≤ y ∧ y < 2147483647) ∧ ρ = [none, none, none, some (.f, .int t), some (.f, .int y), none]) ⟨_, _, hb, rfl⟩ ?_ ?_
    ·rintro k ρ hk ⟨t, y, hy, rfl⟩
     walk_at "go"
     unfold Qw
     walk_at "go"
     have hb := qZ (y * y + 48271 * y + (0 + (k : Int))) (n := 2147483629) (by decide)
     generalize (y * y + 48271 * y + (0 + (k : Int))) % 2147483629 = z at hb
     walk_at "go"
     exact ⟨_, _, ⟨hb.1, by omega⟩, rfl⟩
    ·rintro ρ ⟨t, y, hy, rfl⟩
     walk_at "go"
     exact ⟨_, rfl, rfl⟩
 obtain ⟨z, io, e, a, rfl, rfl⟩ := yd key
 exact ⟨a, e⟩
theorem xG : zH [] = .ok (.fz (.str (sL Vm.signs))) [] := jM (by
 unfold zH
 walk_at "fn"
 unfold qQ
 rw [Qh]
 walk_at "go"
 exact ⟨rfl, rfl⟩)
theorem yt (a : Int) {n : Int} (h0 : 0 ≤ n) (h1 : n ≤ 36) : ∃ (b : Int) (L : List (List Nat)), L.length = n.toNat ∧ (∀ l ∈ L, Nm l ∧ 1 ≤ l.length ∧ l.length ≤ 18) ∧ L.Nodup ∧ Zq [(.o false true, pvD a), (.f, .int n)] = .ok (.ow false (.list (L.map zW))) [some (.o false true, pvD b), none] := by
 have key : Wf (Zq [(.o false true, pvD a), (.f, .int n)]) (fun z io => ∃ (b : Int) (L : List (List Nat)), L.length = n.toNat ∧ (∀ l ∈ L, Nm l ∧ 1 ≤ l.length ∧ l.length ≤ 18) ∧ L.Nodup ∧ z = .ow false (.list (L.map zW)) ∧ io = [some (.o false true, pvD b), none]) (fun _ _ => False) := by
  unfold Zq
  walk_at "fn"
  unfold qL
  rw [qC]
  walk_at "go"
  unfold rgD
  refine Kg (fun i : Nat => PyData.int (0 + (i : Int))) (fun pre acc ρ => ∃ (b : Int) (l : List Nat), Nm l ∧ l.length = pre.length ∧ acc = l.map (fun c => .str (sL [c])) ∧ ρ = [some (.o false true, pvD b), some (.f, .int n), none, none, none, none, none, none, none]) (by rintro pre acc ρ ⟨b, l, _, _, _, rfl⟩; rfl) ⟨a, [], (fun _ h => nomatch h), rfl, rfl, rfl⟩ ?_ ?_
  ·rintro pre x post acc ρ hx ⟨b, l, hl, hll, rfl, rfl⟩
   have hxl := congrArg List.length hx
   rw [List.length_range, List.length_append, List.length_cons] at hxl
   have hxl : 17 = pre.length + (post.length + 1) := hxl
   walk_at "go"
   refine zcJ ⟨rfl, rfl⟩ rfl xG ?_
   obtain ⟨c, hc, ec⟩ := VF b
   walk_at "go"
   refine zcG rfl rfl ec ?_
   walk_at "go"
   refine ⟨_, l ++ [c], ?_, by simp [hll], by rw [List.map_append]; rfl, rfl⟩
   intro d hd
   rcases List.mem_append.mp hd with hd | hd
   ·exact hl d hd
   ·rw [List.mem_singleton] at hd; subst hd; exact hc
  ·rintro acc ρ ⟨b, base, hb, hbl, rfl, rfl⟩
   have hbl : base.length = 17 := by rw [hbl, List.length_range]; rfl
   walk_at "go"
   refine mt_ rfl (jd (by omega)) inferInstance ?_
   walk_at "go"
   generalize hah : decide (b / 36 % 4 = 0) = ahead
   generalize b / 36 / 4 = b1
   generalize b % 36 = first
   refine jD (fun k ρ => ∃ (b : Int) (L : List (List Nat)), L.length = k ∧ (∀ l ∈ L, Nm l ∧ 1 ≤ l.length ∧ l.length ≤ 18) ∧ (∀ (j : Nat) (hj : j < L.length), V5 ahead L[j] = some (sgK first j)) ∧ ρ = [some (.o false true, pvD b), some (.f, .int n), some (.f, zW base), some (.f, .int first), some (.f, .bool ahead), some (.o false false, .list (L.map zW)), none, none, none]) ⟨b1, [], rfl, (fun _ h => nomatch h), (fun _ h => nomatch h), rfl⟩ ?_ ?_
   ·rintro k ρ hk ⟨b, L, hLl, hL, hE, rfl⟩
    have hsg := qZ (first + 7 * (0 + (k : Int))) (n := 36) (by decide)
    have hs1 : ((first + 7 * (0 + (k : Int))) % 36).toNat < Vm.signs.length := by rw [Zw]; omega
    have hsk : Vm.signs[((first + 7 * (0 + (k : Int))) % 36).toNat] = sgK first k := by
     unfold sgK
     rw [show ((first + 7 * (k : Int)) % 36).toNat = ((first + 7 * (0 + (k : Int))) % 36).toNat by rw [Int.zero_add], List.getD_eq_getElem?_getD, List.getElem?_eq_getElem hs1]; rfl
    have hsm : sgK first k ∈ Vm.signs := hsk ▸ List.getElem_mem hs1
    have esg : jU (.str (sL Vm.signs)) (.int ((first + 7 * (0 + (k : Int))) % 36)) = some (.fz (.str (sL [sgK first k]))) := by
     rw [Vx (k := ((first + 7 * (0 + (k : Int))) % 36).toNat) (by omega) hs1 (by rw [Zw]; omega), hsk]
    have snoc : ∀ (l : List Nat), Nm l → 1 ≤ l.length → l.length ≤ 18 → V5 ahead l = some (sgK first k) → (L ++ [l]).length = k + 1 ∧ (∀ l' ∈ L ++ [l], Nm l' ∧ 1 ≤ l'.length ∧ l'.length ≤ 18) ∧ (∀ (j : Nat) (hj : j < (L ++ [l]).length), V5 ahead (L ++ [l])[j] = some (sgK first j)) := by
     intro l h1 h2 h3 h4
     refine ⟨by simp [hLl], ?_, ?_⟩
     ·intro l' hl'
      rcases List.mem_append.mp hl' with h | h
      ·exact hL l' h
      ·rw [List.mem_singleton] at h; subst h; exact ⟨h1, h2, h3⟩
     ·intro j hj
      rw [List.getElem_append]
      split
      ·exact hE j _
      ·rename_i hq
       rw [List.length_append, List.length_singleton] at hj
       have : j = k := by omega
       subst this
       simpa using h4
    walk_at "go"
    unfold QR
    walk_at "go"
    refine zcJ ⟨rfl, rfl⟩ rfl xG ?_
    walk_at "go"
    refine zcG rfl rfl esg ?_
    have g1 := qZ b (n := 18) (by decide)
    have g2 := qZ (b / 18) (n := 8) (by decide)
    have g3 := qZ (b / 18 / 8) (n := 2) (by decide)
    walk_at "go"
    obtain ⟨y, hy, ey⟩ := zaP (l := [5, 6, 11, 12, 17, 0, 4, 16]) PyData.int g2
    refine zcG rfl rfl (q_ixL ey) ?_
    walk_at "go"
    obtain ⟨z, hz, ez⟩ := zaP (l := [b % 18, y]) PyData.int g3
    refine zcG rfl rfl (q_ixL ez) ?_
    have hz2 : 0 ≤ z ∧ z ≤ 17 := by
     simp only [List.mem_cons, List.not_mem_nil, or_false] at hz hy
     omega
    clear ey ez
    walk_at "go"
    cases ahead with
    | true =>
     have g4 := qZ z (n := 4) (by decide)
     walk_at "go"
     obtain ⟨c, hc, ec⟩ := zaP (l := [6, 11, 12, 17]) PyData.int g4
     refine zcG rfl rfl (q_ixL ec) ?_
     have hc2 : 0 ≤ c ∧ c ≤ 17 := by simp only [List.mem_cons, List.not_mem_nil, or_false] at hc; omega
     walk_at "go"
     refine zcI rfl (Vp (n := c.toNat) (by omega) (by omega)) ?_
     walk_at "go"
     have ht : (base.take c.toNat).length ≤ 17 := by rw [List.length_take]; omega
     obtain ⟨s1, s2, s3⟩ := snoc ([sgK first k] ++ base.take c.toNat) (fun d hd => by
      rcases List.mem_append.mp hd with h | h
      ·rw [List.mem_singleton] at h; subst h; exact hsm
      ·exact hb d (List.mem_of_mem_take h)) (by rw [List.length_append, List.length_singleton]; omega) (by rw [List.length_append, List.length_singleton]; omega) (by unfold V5; rw [if_pos rfl]; rfl)
     exact ⟨_, _, s1, s2, s3, by rw [zau]⟩
    | false =>
     walk_at "go"
     refine zcI rfl (Vp (n := z.toNat) (by omega) (by omega)) ?_
     walk_at "go"
     have ht : (base.take z.toNat).length ≤ 17 := by rw [List.length_take]; omega
     obtain ⟨s1, s2, s3⟩ := snoc (base.take z.toNat ++ [sgK first k]) (fun d hd => by
      rcases List.mem_append.mp hd with h | h
      ·exact hb d (List.mem_of_mem_take h)
      ·rw [List.mem_singleton] at h; subst h; exact hsm) (by rw [List.length_append, List.length_singleton]; omega) (by rw [List.length_append, List.length_singleton]; omega) (by unfold V5; rw [if_neg Bool.false_ne_true, List.getLast?_append]; rfl)
     exact ⟨_, _, s1, s2, s3, by rw [zau]⟩
   ·rintro ρ ⟨b, L, hLl, hL, hE, rfl⟩
    walk_at "go"
    exact ⟨b, L, hLl, hL, vA (by omega) hE, rfl, rfl⟩
 obtain ⟨z, io, e, b, L, h1, h2, h3, rfl, rfl⟩ := yd key
 exact ⟨b, L, h1, h2, h3, e⟩
def nmB (l : List Nat) : Bool := decide (1 ≤ l.length) && (decide (l.length ≤ 18) && l.all fun c => decide (c ∈ Vm.signs))
theorem zcF {l : List Nat} : nmB l = true ↔ zaE l := by
 unfold nmB zaE Nm
 rw [Bool.and_eq_true, Bool.and_eq_true, decide_eq_true_iff, decide_eq_true_iff, List.all_eq_true]
 constructor
 ·rintro ⟨h1, h2, h3⟩
  exact ⟨fun c hc => of_decide_eq_true (h3 c hc), h1, h2⟩
 ·rintro ⟨h1, h2, h3⟩
  exact ⟨h2, h3, fun c hc => decide_eq_true (h1 c hc)⟩
theorem K7 {ls : List (List Nat)} (h : ∀ l ∈ ls, TOk (sL l)) : SeqAt.shaped (.list (ls.map zW)) = true := (jc (n := 0) fun d hd => by
 obtain ⟨l, hl, rfl⟩ := List.mem_map.mp hd
 exact YM (h l hl)).shaped
theorem vN {l : List Nat} : ((l.filter fun c => !decide (c ∈ Vm.signs)).map fun c => zW [c]).isEmpty = l.all fun c => decide (c ∈ Vm.signs) := by
 induction l with
 | nil => rfl
 | cons c l ih =>
  by_cases h : c ∈ Vm.signs
  ·rw [List.filter_cons_of_neg (by simp [h]), ih, List.all_cons, decide_eq_true h]; rfl
  ·rw [List.filter_cons_of_pos (by simp [h]), List.all_cons, decide_eq_false h]; rfl
theorem VJ {l : List Nat} (hT : TOk (sL l)) (hl : l.length ≤ 1000) : qG [(.f, .str (sL l))] = .ok (.fz (.bool (nmB l))) [none] := jM (by
 unfold qG
 walk_at "fn"
 unfold Xj
 rw [Qh]
 walk_at "go"
 refine Qu (fun h1 => ?_) (fun h1 => ?_)
 ·have h1 := of_decide_eq_true h1
  walk_at "go"
  refine Qu (fun h2 => ?_) (fun h2 => ?_)
  ·have h2 : ¬ (l.length : Int) ≤ 18 := by simpa using h2
   walk_at "go"
   refine ⟨?_, rfl⟩
   unfold nmB
   rw [decide_eq_false (show ¬ l.length ≤ 18 by omega), Bool.false_and, Bool.and_false]
  ·have h2 : (l.length : Int) ≤ 18 := by simpa using h2
   walk_at "go"
   refine Wz ?_
   walk_at "go"
   refine ⟨_, rfl, ?_⟩
   rw [zV]
   refine WT (fun c => PyData.str (sgn c)) (fun c => !decide (c ∈ Vm.signs)) (fun c => zW [c]) (by omega) inferInstance ?_ ?_
   ·intro c hc
    rw [W0]
    walk_at "go"
    refine ⟨rfl, ?_⟩
    refine Qu (fun e => ?_) (fun e => ?_)
    ·walk_at "go"
     exact ⟨rfl, rfl⟩
    ·walk_at "go"
     rfl
   ·walk_at "go"
    refine zcG rfl rfl (YJ ?_) ?_
    ·have := K7 (ls := (l.filter fun c => !decide (c ∈ Vm.signs)).map fun c => [c]) (fun p hp => by
      obtain ⟨c, hc, rfl⟩ := List.mem_map.mp hp
      intro d hd
      rw [zV, List.mem_singleton] at hd
      subst hd
      exact hT d (by rw [zV]; exact (List.mem_filter.mp hc).1))
     rw [List.map_map] at this
     exact this
    ·walk_at "go"
     refine ⟨?_, rfl⟩
     rw [vN]
     unfold nmB
     rw [decide_eq_true (show 1 ≤ l.length by omega), decide_eq_true (show l.length ≤ 18 by omega)]; rfl
 ·have h1 : ¬ (1 : Int) ≤ (l.length : Int) := by simpa using h1
  walk_at "go"
  refine ⟨?_, rfl⟩
  unfold nmB
  rw [decide_eq_false (show ¬ 1 ≤ l.length by omega), Bool.false_and])
theorem yS (x : List Nat) (M : List (List Nat)) : ((M.map zW).any fun e => PyData.eqv e (zW x)) = decide (x ∈ M) := by
 induction M with
 | nil => simp
 | cons m M ih =>
  rw [List.map_cons, List.any_cons, ih]
  have h : PyData.eqv (zW m) (zW x) = decide (m = x) := by
   unfold zW
   show (sL m == sL x) = _
   by_cases e : m = x
   ·subst e; simp
   ·rw [decide_eq_false e]
    simp only [beq_eq_false_iff_ne, ne_eq]
    exact fun z => e (by rw [← zV m, z, zV])
  rw [h]
  by_cases e : m = x
  ·subst e; simp
  ·have : ¬ x = m := fun z => e z.symm
   simp [e, this]
theorem zbv {ne : Bool} {x : List Nat} {M : List (List Nat)} : oIn ne (zW x) (.list (M.map zW)) = some (.fz (.bool (if ne then !decide (x ∈ M) else decide (x ∈ M)))) := by
 unfold oIn zW
 dsimp only
 have h : (ZS (.str (sL x)) && (M.map zW).all ZS) = true := by
  rw [Bool.and_eq_true]
  refine ⟨rfl, List.all_eq_true.mpr fun d hd => ?_⟩
  obtain ⟨m, _, rfl⟩ := List.mem_map.mp hd
  rfl
 have e := yS x M
 unfold zW at e h
 rw [if_pos h, e]
theorem yh {i : Int} : XN (.int i) (.int 37) = some (.fz (.tuple [.int (i / 37), .int (i % 37)])) := rfl
local macro_rules | `(tactic| walk_at "op") => `(tactic| with_reducible exact yh)
theorem yL (g : Int) : Z0 [(.f, .int g)] = .ok (.fz (zb4 (qY g))) [none] := jM (by
 unfold Z0
 walk_at "fn"
 unfold xf
 walk_at "go"
 rw [qC]
 refine jD (fun i ρ => ∃ (left : Int) (p : List Nat), p.length ≤ i ∧ Xf 6 g [] = Xf (6 - i) left p ∧ ρ = [none, some (.f, .int left), some (.f, .str (sL p)), none, none]) ⟨g, [], by simp, rfl, rfl⟩ ?_ ?_
 ·rintro i ρ hi ⟨left, p, hl, hp, rfl⟩
  have hi : i < 6 := hi
  walk_at "go"
  unfold Xv
  rw [qC]
  walk_at "go"
  rw [show 6 - i = (6 - (i + 1)) + 1 by omega, show Xf (6 - (i + 1) + 1) left p = if 0 < left % 37 then Xf (6 - (i + 1)) (left / 37) (signs.getD (left % 37 - 1).toNat 0 :: p) else if p = [] then Xf (6 - (i + 1)) (left / 37) p else none from rfl] at hp
  refine Qu (fun q => ?_) (fun q => ?_)
  ·have q := of_decide_eq_true q
   rw [if_pos q] at hp
   walk_at "go"
   have hs := Kl (i := left % 37 - 1) (by omega) (by omega)
   have hk : (left % 37 - 1).toNat < signs.length := by rw [Zw]; omega
   rw [Qh]
   refine zcG rfl rfl (Vx (k := (left % 37 - 1).toNat) (by omega) hk (by rw [Zw]; omega)) ?_
   walk_at "go"
   refine ⟨_, _, ?_, hp, ?_⟩
   ·simp; omega
   ·rw [List.getD_eq_getElem?_getD, List.getElem?_eq_getElem hk]; rfl
  ·have q := of_decide_eq_false q
   rw [if_neg q] at hp
   walk_at "go"
   refine Qu (fun q2 => ?_) (fun q2 => ?_)
   ·have q2 : ¬ p = [] := by simpa using q2
    rw [if_neg q2] at hp
    walk_at "go"
    unfold qY
    rw [hp]
    exact ⟨rfl, rfl⟩
   ·have q2 : p = [] := by simpa using q2
    rw [if_pos q2] at hp
    walk_at "go"
    exact ⟨_, p, by omega, hp, rfl⟩
 ·rintro ρ ⟨left, p, hl, hp, rfl⟩
  have hp : Xf 6 g [] = some (left, p) := hp
  have e : qY g = if 0 < left ∨ p = [] then none else some p := by unfold qY; rw [hp]
  rw [e]
  walk_at "go"
  refine Qu (fun q => ?_) (fun q => ?_)
  ·walk_at "go"
   rw [if_pos (.inl (of_decide_eq_true q))]
   exact ⟨rfl, rfl⟩
  walk_at "go"
  refine Qu (fun q2 => ?_) (fun q2 => ?_)
  ·walk_at "go"
   rw [if_pos (.inr (of_decide_eq_true q2))]
   exact ⟨rfl, rfl⟩
  walk_at "go"
  rw [if_neg (by rintro (z | z); exact of_decide_eq_false q z; exact of_decide_eq_false q2 z)]
  exact ⟨rfl, rfl⟩)
theorem Ku {c : Nat} (h : c ∈ Vm.signs) : XD [.str (sL Vm.signs), .str (sL [c])] = some (.fz (.int (Vm.idx c))) := by
 have e := Yx c h
 rw [Qh] at e
 show (if (!(Builtin.Str.occurrences (sL Vm.signs) (sL [c]) 0 (sL Vm.signs).length 1).isEmpty) = true then some (Rz.fz (.int (((Builtin.Str.occurrences (sL Vm.signs) (sL [c]) 0 (sL Vm.signs).length 1).headD 0 : Nat) : Int))) else none) = _
 have e2 : Builtin.Str.occurrences (sL Vm.signs) (sL [c]) 0 (sL Vm.signs).length 1 = [Vm.idx c] := e
 rw [e2]
 rfl
theorem VH {l : List Nat} (hn : Nm l) (hl : l.length ≤ 6) : qF [(.f, .str (sL l))] = .ok (.fz (.int (xj l))) [none] := jM (by
 unfold qF
 walk_at "fn"
 unfold xY
 walk_at "go"
 refine jD (fun k ρ => ρ = [some (.f, .str (sL l)), some (.f, .int (zE l k)), none]) rfl ?_ ?_
 ·rintro k ρ hk rfl
  have hk : k < 6 := hk
  walk_at "go"
  unfold X6
  rw [Qh]
  walk_at "go"
  refine Qu (fun q => ?_) (fun q => ?_)
  ·have q := of_decide_eq_true q
   have hkl : k < l.length := by omega
   walk_at "go"
   refine zcG rfl rfl (Vx (k := k) (by omega) hkl (by omega)) ?_
   walk_at "go"
   refine mt_ rfl (Ku (hn _ (List.getElem_mem hkl))) inferInstance ?_
   walk_at "go"
   show _ = [some (Fg.f, PyData.str (sL l)), some (Fg.f, PyData.int (zE l k * 37 + Ze l k)), none]
   unfold Ze
   rw [if_pos hkl, List.getD_eq_getElem?_getD, List.getElem?_eq_getElem hkl]; rfl
  ·have q := of_decide_eq_false q
   walk_at "go"
   show _ = [some (Fg.f, PyData.str (sL l)), some (Fg.f, PyData.int (zE l k * 37 + Ze l k)), none]
   unfold Ze
   rw [if_neg (by omega), Int.add_zero]
 ·rintro ρ rfl
  walk_at "go"
  exact ⟨rfl, rfl⟩)
theorem K8 {l : List Nat} (hl : l.length ≤ 1000) : ZM [(.f, .str (sL l))] = .ok (.ow false (.list ((zR l).map zW))) [none] := jM (by
 unfold ZM
 walk_at "fn"
 unfold Qp
 walk_at "go"
 refine zbd (n := l.length) (w := 6) rfl (by omega) (by omega) (by omega) ?_
 refine jw (fun k : Nat => PyData.int ((k * 6 : Nat) : Int)) (fun k => zW ((l.drop (6 * k)).take 6)) (by rw [List.length_range]; omega) inferInstance ?_ ?_
 ·intro k hk
  walk_at "go"
  refine zcI rfl (zaQ (m := 6 * k) (n := 6 * k + 6) (by omega) (by omega) (by omega)) ?_
  walk_at "go"
  refine ⟨?_, rfl⟩
  rw [Nat.add_sub_cancel_left]
 ·walk_at "go"
  refine ⟨?_, rfl⟩
  unfold zR
  rw [List.map_map]; rfl)
def zP (l : List Nat) : List Int := (zR l).map xj
def Zf (l : List Nat) : List Int := l.map fun c => (Vm.idx c : Int)
abbrev Q3 (l : List Nat) : D := .tuple ((zP l).map PyData.int)
theorem xQ : ∀ (p a b : List Int), Z9 (p ++ a) (p ++ b) = Z9 a b
 | [], _, _ => rfl
 | x :: p, a, b => by
  show (decide (x < x) || (!decide (x < x) && Z9 (p ++ a) (p ++ b))) = _
  rw [xQ p a b, decide_eq_false (Int.lt_irrefl x)]; rfl
theorem X7 : ∀ (a b : List Int), Z9 a b = true → Z9 b a = false
 | [], [], h => nomatch h
 | [], _ :: _, _ => rfl
 | _ :: _, [], h => nomatch h
 | x :: a, y :: b, h => by
  have h : (decide (x < y) || (!decide (y < x) && Z9 a b)) = true := h
  show (decide (y < x) || (!decide (x < y) && Z9 b a)) = false
  by_cases h1 : x < y
  ·rw [decide_eq_true h1, decide_eq_false (show ¬ y < x by omega)]; rfl
  ·rw [decide_eq_false h1] at h
   by_cases h2 : y < x
   ·rw [decide_eq_true h2] at h; exact nomatch h
   ·rw [decide_eq_false h2] at h
    rw [decide_eq_false h2, decide_eq_false h1, X7 a b (by simpa using h)]; rfl
theorem Vj : ∀ (a b : List Int), Z9 a b = decide (a < b)
 | [], [] => rfl
 | [], _ :: _ => by simp [Z9]
 | _ :: _, [] => by simp [Z9]
 | x :: a, y :: b => by
  show (decide (x < y) || (!decide (y < x) && Z9 a b)) = _
  rw [Vj a b]
  by_cases h1 : x < y
  ·simp [h1, List.cons_lt_cons_iff]
  ·by_cases h2 : y < x
   ·have : ¬ x = y := by omega
    simp [h1, h2, this, List.cons_lt_cons_iff]
   ·have : x = y := by omega
    subst this
    simp [List.cons_lt_cons_iff]
theorem leI (a b : List Int) : decide (a ≤ b) = !Z9 b a := by
 rw [Vj]
 by_cases h : b < a
 ·have : ¬ a ≤ b := fun r => List.not_lt.mpr r h
  simp [h, this]
 ·have : a ≤ b := List.not_lt.mp h
  simp [h, this]
theorem Yn {c d : Nat} (hc : c ∈ Vm.signs) (hd : d ∈ Vm.signs) (h : Vm.idx c = Vm.idx d) : c = d := by
 have e := J9 hc
 rw [h, J9 hd] at e
 exact (Option.some.inj e).symm
theorem X3 {l : List Nat} {n : Nat} (h : n < l.length) : l = l.take n ++ (l.getD n 0 :: l.drop (n + 1)) := by
 rw [List.getD_eq_getElem?_getD, List.getElem?_eq_getElem h]
 show l = l.take n ++ (l[n] :: l.drop (n + 1))
 rw [← List.drop_eq_getElem_cons h, List.take_append_drop]
theorem Qi (a b : List Nat) : Zf (a ++ b) = Zf a ++ Zf b := List.map_append
theorem jn {a b : List Nat} (ha : Nm a) (hb : Nm b) : ∀ n, (zE a n < zE b n → Z9 (Zf a) (Zf b) = true) ∧ (zE a n = zE b n → a.take n = b.take n)
 | 0 => ⟨fun h => absurd h (Int.lt_irrefl _), fun _ => by rw [List.take_zero, List.take_zero]⟩
 | n + 1 => by
  obtain ⟨i1, i2⟩ := jn ha hb n
  have f1 := XX ha n
  have f2 := XX hb n
  have e1 : zE a (n + 1) = zE a n * 37 + Ze a n := rfl
  have e2 : zE b (n + 1) = zE b n * 37 + Ze b n := rfl
  have fa : n < a.length → Ze a n = 1 + (Vm.idx (a.getD n 0) : Int) := fun h => by unfold Ze; rw [if_pos h]
  have fb : n < b.length → Ze b n = 1 + (Vm.idx (b.getD n 0) : Int) := fun h => by unfold Ze; rw [if_pos h]
  have fa0 : ¬ n < a.length → Ze a n = 0 := fun h => by unfold Ze; rw [if_neg h]
  have fb0 : ¬ n < b.length → Ze b n = 0 := fun h => by unfold Ze; rw [if_neg h]
  constructor
  ·intro h
   rcases Int.lt_trichotomy (zE a n) (zE b n) with q | q | q
   ·exact i1 q
   ·have ht := i2 q
    have hlt : Ze a n < Ze b n := by omega
    have nb : n < b.length := Decidable.byContradiction fun z => by have := fb0 z; omega
    by_cases na : n < a.length
    ·have x1 := fa na
     have x2 := fb nb
     rw [X3 na, X3 nb, Qi, Qi, ht, xQ]
     show (decide ((Vm.idx (a.getD n 0) : Int) < (Vm.idx (b.getD n 0) : Int)) || _) = true
     rw [decide_eq_true (by omega)]; rfl
    ·have ea : a = a.take n := (List.take_of_length_le (by omega)).symm
     rw [ea, ht, X3 nb, Qi]
     have := xQ (Zf (b.take n)) [] (Zf (b.getD n 0 :: b.drop (n + 1)))
     rw [List.append_nil] at this
     have e : List.take n (List.take n b ++ b.getD n 0 :: List.drop (n + 1) b) = List.take n b := by rw [← X3 nb]
     rw [e, this]; rfl
   ·omega
  ·intro h
   have q : zE a n = zE b n := by omega
   have ht := i2 q
   have hf : Ze a n = Ze b n := by omega
   by_cases na : n < a.length
   ·have nb : n < b.length := Decidable.byContradiction fun z => by have := fb0 z; have := fa na; omega
    have x1 := fa na
    have x2 := fb nb
    have hc := Yn (ha.at na) (hb.at nb) (by omega)
    have t1 : ∀ {l : List Nat}, n < l.length → l.take (n + 1) = l.take n ++ [l.getD n 0] := fun {l} hl => by
     rw [List.take_add_one, List.getElem?_eq_getElem hl, List.getD_eq_getElem?_getD, List.getElem?_eq_getElem hl]; rfl
    rw [t1 na, t1 nb, ht, hc]
   ·have nb : ¬ n < b.length := fun z => by have := fa0 na; have := fb z; omega
    rw [List.take_of_length_le (show a.length ≤ n + 1 by omega), List.take_of_length_le (show b.length ≤ n + 1 by omega)]
    rw [List.take_of_length_le (show a.length ≤ n by omega), List.take_of_length_le (show b.length ≤ n by omega)] at ht
    exact ht
theorem ji (l : List Nat) : ∀ n ≤ 6, zE (l.take 6) n = zE l n
 | 0, _ => rfl
 | n + 1, h => by
  show zE (l.take 6) n * 37 + Ze (l.take 6) n = zE l n * 37 + Ze l n
  rw [ji l n (by omega)]
  congr 1
  unfold Ze
  by_cases h1 : n < l.length
  ·have h2 : n < (l.take 6).length := by rw [List.length_take]; omega
   rw [if_pos h1, if_pos h2, List.getD_eq_getElem?_getD, List.getD_eq_getElem?_getD, List.getElem?_take, if_pos (by omega)]
  ·have h2 : ¬ n < (l.take 6).length := by rw [List.length_take]; omega
   rw [if_neg h1, if_neg h2]
theorem Xp {l : List Nat} (h : l ≠ []) : zR l = l.take 6 :: zR (l.drop 6) := by
 have hl : 1 ≤ l.length := by cases l with | nil => exact absurd rfl h | cons _ _ => simp
 unfold zR
 rw [List.length_drop, show (l.length + 5) / 6 = (l.length - 6 + 5) / 6 + 1 by omega, List.range_succ_eq_map, List.map_cons, List.map_map]
 congr 1
 apply List.map_congr_left
 intro i _
 dsimp only [Function.comp]
 rw [List.drop_drop, show 6 * (i + 1) = 6 + 6 * i by omega]
theorem qI {l : List Nat} (h : l ≠ []) : zP l = zE l 6 :: zP (l.drop 6) := by
 unfold zP
 rw [Xp h, List.map_cons]
 congr 1
 exact ji l 6 (Nat.le_refl _)
theorem zaU {l : List Nat} (h : l ≠ []) : zP l ≠ [] := by rw [qI h]; exact List.cons_ne_nil _ _
theorem KR : ∀ (n : Nat) {a b : List Nat}, a.length ≤ n → Nm a → Nm b → Z9 (zP a) (zP b) = Z9 (Zf a) (Zf b)
 | n, [], b, _, _, _ => by
  cases b with
  | nil => rfl
  | cons d b => rw [qI (List.cons_ne_nil d b)]; rfl
 | n, c :: a, [], _, _, _ => by rw [qI (List.cons_ne_nil c a)]; rfl
 | 0, c :: a, d :: b, h, _, _ => by simp at h
 | n + 1, c :: a, d :: b, h, ha, hb => by
  have ih := KR n (a := (c :: a).drop 6) (b := (d :: b).drop 6) (by rw [List.length_drop]; rw [List.length_cons] at h ⊢; omega) (ha.drop 6) (hb.drop 6)
  obtain ⟨c1, c2⟩ := jn ha hb 6
  obtain ⟨c3, _⟩ := jn hb ha 6
  rw [qI (List.cons_ne_nil c a), qI (List.cons_ne_nil d b)]
  generalize c :: a = p at *
  generalize d :: b = q at *
  show (decide (zE p 6 < zE q 6) || (!decide (zE q 6 < zE p 6) && Z9 (zP (p.drop 6)) (zP (q.drop 6)))) = _
  rcases Int.lt_trichotomy (zE p 6) (zE q 6) with z | z | z
  ·rw [decide_eq_true z, c1 z]; rfl
  ·rw [decide_eq_false (by omega), decide_eq_false (by omega), ih]
   have t := c2 z
   rw [← List.take_append_drop 6 p, ← List.take_append_drop 6 q, Qi, Qi]
   have e1 : List.drop 6 (List.take 6 p ++ List.drop 6 p) = p.drop 6 := by rw [List.take_append_drop]
   have e2 : List.drop 6 (List.take 6 q ++ List.drop 6 q) = q.drop 6 := by rw [List.take_append_drop]
   rw [e1, e2, t, xQ]; rfl
  ·rw [decide_eq_false (by omega), decide_eq_true z, X7 _ _ (c3 z)]; rfl
theorem Z8 : ∀ (n : Nat) {l : List Nat}, l.length ≤ n → (zR l).flatten = l
 | n, [], _ => rfl
 | 0, c :: l, h => by simp at h
 | n + 1, c :: l, h => by
  rw [Xp (List.cons_ne_nil c l), List.flatten_cons, Z8 n (by rw [List.length_drop]; rw [List.length_cons] at h ⊢; omega), List.take_append_drop]
theorem Yz {a b : List Nat} (ha : Nm a) (hb : Nm b) (h : zP a = zP b) : a = b := by
 have key : ∀ {l : List Nat}, Nm l → (zP l).map qY = (zR l).map some := fun {l} hl => by
  unfold zP
  rw [List.map_map]
  apply List.map_congr_left
  intro p hp
  obtain ⟨q1, q2, q3⟩ := jO hl hp
  exact jg q1 q2 q3
 have e := key ha
 rw [h, key hb] at e
 have e2 : zR b = zR a := by
  have := congrArg (fun l => l.filterMap id) e
  simpa using this
 rw [← Z8 _ (Nat.le_refl a.length), ← Z8 _ (Nat.le_refl b.length), e2]
theorem zbu {a b : List Nat} (ha : Nm a) (hb : Nm b) : Z4 (zP a) (zP b) = decide (Zf a ≤ Zf b) := by
 rw [leI]
 show (!Z9 (zP b) (zP a)) = _
 rw [KR _ (Nat.le_refl _) hb ha]
def jL (L : List (List Nat)) : List (List Nat) := L.mergeSort fun a b => decide (Zf a ≤ Zf b)
theorem zcE {L : List (List Nat)} {l : List Nat} : l ∈ jL L ↔ l ∈ L := List.mem_mergeSort
theorem wM {L : List (List Nat)} (h : ∀ l ∈ L, Nm l) : (L.mergeSort fun a b => Z4 (zP a) (zP b)) = jL L := by
 have := List.map_mergeSort (l := L) (f := id) (r := fun a b => Z4 (zP a) (zP b)) (s := fun a b => decide (Zf a ≤ Zf b)) (fun a ha b hb => zbu (h a ha) (h b hb))
 rw [List.map_id, List.map_id] at this
 exact this
theorem QX : ∀ ns : List Int, ZD (ns.map PyData.int) = some ns
 | [] => rfl
 | n :: ns => by
  show (match ZD (ns.map PyData.int) with | some ns => some (n :: ns) | none => none) = _
  rw [QX ns]
theorem vm : ∀ {L : List (List Nat)}, (∀ l ∈ L, l ≠ []) → V9 (L.map Q3) = some (L.map zP)
 | [], _ => rfl
 | l :: L, h => by
  have hn := zaU (h l List.mem_cons_self)
  have ih := vm (L := L) fun q hq => h q (List.mem_cons_of_mem _ hq)
  rw [List.map_cons]
  unfold Q3
  cases e : zP l with
  | nil => exact absurd e hn
  | cons x r =>
   rw [List.map_cons]
   unfold V9
   have e2 := QX (x :: r)
   rw [List.map_cons] at e2
   rw [e2, ih, List.map_cons, e]
def TC (L : List (List Nat)) : List (D × D) := L.map fun l => (Q3 l, zW l)
theorem yj {L : List (List Nat)} (h : ∀ l ∈ L, Nm l ∧ l ≠ []) : xE (.dict (TC L)) = some (.ow false (.list ((jL L).map Q3))) := by
 unfold xE
 dsimp only
 have e : (TC L).map (·.1) = L.map Q3 := by unfold TC; rw [List.map_map]; rfl
 rw [e, vm fun l hl => (h l hl).2]
 dsimp only
 have e2 : yr ((L.map Q3).zip (L.map zP)) = (jL L).map Q3 := by
  unfold yr
  rw [← wM fun l hl => (h l hl).1, List.zip_map', ← List.map_mergeSort (r := fun a b => Z4 (zP a) (zP b)) (s := fun p q : D × List Int => Z4 p.2 q.2) (f := fun l : List Nat => (Q3 l, zP l)) (fun _ _ _ _ => rfl), List.map_map]
  rfl
 rw [e2]
theorem W9 {m : List (Fg × D) → zY} {L : List (List Nat)} (h : ∀ l ∈ L, Xq m (zW l) = some (Zf l)) : qN m (.list (L.map zW)) = some (.ow false (.list ((jL L).map zW))) := by
 have e : Q7 m (L.map zW) = some (L.map Zf) := by
  induction L with
  | nil => rfl
  | cons l L ih =>
   rw [List.map_cons]
   unfold Q7
   rw [h l List.mem_cons_self, ih fun q hq => h q (List.mem_cons_of_mem _ hq)]
   rfl
 unfold qN
 dsimp only
 rw [e]
 dsimp only
 have e2 : ye ((L.map zW).zip (L.map Zf)) = (jL L).map zW := by
  unfold ye jL
  rw [List.zip_map', ← List.map_mergeSort (r := fun a b : List Nat => decide (Zf a ≤ Zf b)) (s := fun p q : D × List Int => decide (p.2 ≤ q.2)) (f := fun l : List Nat => (zW l, Zf l)) (fun _ _ _ _ => rfl), List.map_map]
  rfl
 rw [e2]
def vC (l : List Nat) : Key ⊕ List Key := .inr ((zP l).map Sum.inl)
theorem zaS (l : List Nat) : (zP l).map PyData.int = ((zP l).map Sum.inl).map kD := by rw [List.map_map]; rfl
theorem Jg (l : List Nat) : Qq ((zP l).map PyData.int) = some ((zP l).map Sum.inl) := by rw [zaS, je]
theorem Ym {l : List Nat} : (zP l).length = (l.length + 5) / 6 := by unfold zP; rw [List.length_map, jx]
theorem Yw {l : List Nat} (hn : Nm l) (h2 : l.length ≤ 18) : cst ((zP l).map PyData.int) = false := by
 have hl := Ym (l := l)
 cases hc : cst ((zP l).map PyData.int) with
 | false => rfl
 | true =>
  exfalso
  unfold cst at hc
  split at hc
  ·rename_i e
   have := congrArg List.length e
   rw [List.length_map, hl] at this
   simp at this
   omega
  ·rename_i e
   have h3 := congrArg List.length e
   rw [List.length_map, hl] at h3
   have h3 : (l.length + 5) / 6 = 3 := h3
   have hne : l ≠ [] := fun z => by subst z; simp at h3
   rw [qI hne, List.map_cons] at e
   have e : zE l 6 = 8 := congrArg (fun d : List D => match d with | PyData.int i :: _ => i | _ => 0) e
   have g : ∀ n, n < 6 → 1 ≤ Ze l n := fun n hn => by unfold Ze; rw [if_pos (by omega)]; omega
   have hz := jo hn 5
   have e5 : zE l 6 = zE l 5 * 37 + Ze l 5 := rfl
   have e4 : zE l 5 = zE l 4 * 37 + Ze l 4 := rfl
   have z4 := (jo hn 4).1
   have := g 4 (by omega)
   have := g 5 (by omega)
   omega
  ·exact nomatch hc
theorem Xc {l : List Nat} (hn : Nm l) (h2 : l.length ≤ 18) : jT (Q3 l) = some ((zP l).map Sum.inl) := by
 show (if cst ((zP l).map PyData.int) = true then none else Qq ((zP l).map PyData.int)) = _
 rw [Yw hn h2, if_neg Bool.false_ne_true, Jg]
theorem KY {a b : List Nat} (ha : Nm a) (hb : Nm b) : Zx (vC a) (Q3 b) = decide (b = a) := by
 show decide (Qq ((zP b).map PyData.int) = some ((zP a).map Sum.inl)) = _
 rw [Jg]
 by_cases h : b = a
 ·subst h; rw [decide_eq_true rfl, decide_eq_true rfl]
 ·rw [decide_eq_false h, decide_eq_false]
  intro e
  injection e with e
  refine h (Yz hb ha ?_)
  have := congrArg (fun l : List Key => l.map fun k => match k with | .inl i => i | .inr _ => 0) e
  simpa [List.map_map, Function.comp_def] using this
theorem J8 : ∀ {L : List (List Nat)} {l : List Nat}, (∀ q ∈ L, Nm q) → Nm l → Zb (TC L) (vC l) = if l ∈ L then some (zW l) else none
 | [], l, _, _ => rfl
 | q :: L, l, hL, hn => by
  have ih := J8 (L := L) (fun p hp => hL p (List.mem_cons_of_mem _ hp)) hn
  unfold Zb TC at ih ⊢
  rw [List.map_cons, List.find?_cons, KY hn (hL q List.mem_cons_self)]
  by_cases h : q = l
  ·subst h
   rw [decide_eq_true rfl, if_pos List.mem_cons_self]; rfl
  ·rw [decide_eq_false h]
   dsimp only
   rw [ih]
   by_cases hp : l ∈ L
   ·rw [if_pos hp, if_pos (List.mem_cons_of_mem _ hp)]
   ·rw [if_neg hp, if_neg (fun z => by rcases List.mem_cons.mp z with z | z; exact h z.symm; exact hp z)]
theorem zai {L : List (List Nat)} {l : List Nat} (hL : ∀ q ∈ L, Nm q) (hn : Nm l) (h : l ∉ L) : kh (TC L) (vC l) (Q3 l) (zW l) = TC (L ++ [l]) := by
 have e : ((TC L).any fun p => Zx (vC l) p.1) = false := by
  rw [List.any_eq_false]
  intro p hp
  unfold TC at hp
  obtain ⟨q, hq, rfl⟩ := List.mem_map.mp hp
  dsimp only
  rw [KY hn (hL q hq), decide_eq_false (fun z : q = l => h (by rw [← z]; exact hq))]
  exact Bool.false_ne_true
 unfold kh
 rw [e, if_neg Bool.false_ne_true]
 unfold TC
 rw [List.map_append]; rfl
theorem Ys {L : List (List Nat)} {l : List Nat} (hL : ∀ q ∈ L, Nm q) (hl : l ∈ L) (h2 : l.length ≤ 18) : Qt (.dict (TC L)) (Q3 l) = some (.fz (zW l)) := by
 have hk : Xm (TC L) = some true := by
  cases L with
  | nil => exact nomatch hl
  | cons q L => rfl
 unfold Qt
 dsimp only
 rw [hk]
 dsimp only
 rw [show Vm.keyOf true (Q3 l) = some (vC l) by
  unfold Vm.keyOf
  rw [if_pos rfl, Xc (hL l hl) h2]; rfl]
 dsimp only
 rw [J8 hL (hL l hl), if_pos hl]
def WDT (neg : Bool) (ρ1 : Vm.Env) (tps : List Tp) (Q : Vm.Env → Tp → Prop) : Prop := ∃ b, Kh neg ρ1 tps = .ok ρ1 (.fz (.bool b)) ∧ Q ρ1 (.fz (.bool b))
theorem Yq {ρ : Vm.Env} {Q : Vm.Env → Tp → Prop} {E : XP} {neg : Bool} {a d : RE} (h : Wa (zm a (zm d zQ)) ρ (fun ρ1 tps => WDT neg ρ1 tps Q) E) : We (v5 neg a d) ρ Q E := by
 unfold We v5
 exact zb (zg h (fun ρ1 tps ⟨o, e, q⟩ => by rw [e]; exact wxo q) (fun _ _ q => q))
theorem zal {ρ : Vm.Env} {Q : Vm.Env → Tp → Prop} {i : Nat} {p neg : Bool} {L : List (List Nat)} {tk : Tp} {l : List Nat} (hi : ρ[i]? = some (some (.o true p, .dict (TC L)))) (hk : rdT ρ tk = some (Q3 l)) (hL : ∀ q ∈ L, Nm q) (hn : Nm l) (h2 : l.length ≤ 18)
  (q : Q ρ (.fz (.bool (if neg then !decide (l ∈ L) else decide (l ∈ L))))) : WDT neg ρ [tk, .sl i] Q := by
 refine ⟨_, ?_, q⟩
 unfold Kh
 dsimp only
 unfold yU
 rw [hk]
 dsimp only
 rw [hi]
 dsimp only
 rw [Xc hn h2]
 dsimp only
 rw [show (Sum.inr ((zP l).map Sum.inl) : Key ⊕ List Key) = vC l from rfl, J8 hL hn]
 by_cases h : l ∈ L
 ·rw [if_pos h, decide_eq_true h]; rfl
 ·rw [if_neg h, decide_eq_false h]; rfl
theorem VM {ρ : Vm.Env} {Q : Vm.Env → Tp → Prop} {E : XP} {i : Nat} {p : Bool} {kds : List (D × D)} {z : Rz} {tp : Tp} (hi : ρ[i]? = some (some (.o true p, .dict kds))) (hm : xE (.dict kds) = some z) (ht : jr z tp) (q : Q ρ tp) : We (Qv i) ρ Q E := by
 unfold We Qv
 simp only [hi, hm]
 rw [ht.eq]
 exact wxo q
theorem yO {l : List Nat} (hn : Nm l) (h2 : l.length ≤ 1000) : z8 [(.f, .str (sL l))] = .ok (.ow false (.list ((Zf l).map PyData.int))) [none] := jM (by
 unfold z8
 walk_at "fn"
 unfold Qe
 walk_at "go"
 refine Wz ?_
 walk_at "go"
 refine ⟨_, rfl, ?_⟩
 rw [zV]
 refine jw (fun c => PyData.str (sgn c)) (fun c => PyData.int (Vm.idx c : Int)) (by omega) inferInstance ?_ ?_
 ·intro c hc
  rw [W0]
  walk_at "go"
  refine zcJ ⟨rfl, rfl⟩ rfl xG ?_
  walk_at "go"
  refine mt_ rfl (Ku (hn c hc)) inferInstance ?_
  walk_at "go"
  exact ⟨rfl, rfl⟩
 ·walk_at "go"
  refine ⟨?_, rfl⟩
  unfold Zf
  rw [List.map_map]; rfl)
theorem Wc {l : List Nat} (hn : Nm l) (h2 : l.length ≤ 1000) : Xq z8 (zW l) = some (Zf l) := by
 unfold Xq
 rw [show z8 [(Fg.f, zW l)] = _ from yO hn h2]
 exact QX _
theorem law_holds (ns : List Int) (hns : ns.length ≤ 63) (hb : ∀ z ∈ ns, Builtin.Int.intBits z ≤ 1048576) : ∃ io, m_law [(.s, .list (ns.map PyData.int))] = .ok (.fz (.bool true)) io := by
 have key : Wf (m_law [(.s, .list (ns.map PyData.int))]) (fun z _ => z = .fz (.bool true)) (fun _ _ => False) := by
  unfold m_law
  walk_at "fn"
  unfold Wh
  walk_at "go"
  obtain ⟨a0, hp0⟩ := wF ns 0 (by omega) (by omega)
  refine zcJ ⟨rfl, rfl⟩ rfl hp0 ?_
  have g0 := qZ a0 (n := 11) (by decide)
  walk_at "go"
  obtain ⟨b0, L0, l1, l2, l3, en⟩ := yt (a0 / 11) (n := 2 + a0 % 11) (by omega) (by omega)
  refine zcJ ⟨rfl, rfl⟩ rfl en ?_
  walk_at "go"
  have hl1 : L0.length ≤ 12 := by omega
  refine jD (fun k ρ => ∃ L : List (List Nat), L.length ≤ 12 + k ∧ (∀ l ∈ L, Nm l ∧ 1 ≤ l.length ∧ l.length ≤ 18) ∧ L.Nodup ∧ ρ = [some (.s, .list (ns.map PyData.int)), none, some (.o false false, .list (L.map zW)), none, none, none, none, none, none, none]) ⟨L0, by omega, l2, l3, rfl⟩ ?_ ?_
  ·rintro k ρ hk ⟨L, hLl, hL, hn, rfl⟩
   walk_at "go"
   unfold Wd
   rw [qC]
   walk_at "go"
   obtain ⟨a1, hp1⟩ := wF ns (1 + (k : Int)) (by omega) (by omega)
   refine zcJ ⟨rfl, rfl⟩ rfl hp1 ?_
   have g1 := qZ a1 (n := 18) (by decide)
   walk_at "go"
   obtain ⟨m, hm⟩ : ∃ m : Nat, 1 + a1 % 18 = (m : Int) := ⟨(1 + a1 % 18).toNat, by omega⟩
   rw [hm]
   unfold rgD
   refine Kg (fun i : Nat => PyData.int (0 + (i : Int))) (fun pre acc ρ => ∃ (b : Int) (l : List Nat), Nm l ∧ l.length = pre.length ∧ acc = l.map (fun c => .str (sL [c])) ∧ ρ = [some (.s, .list (ns.map PyData.int)), some (.o false false, pvD b), some (.o false false, .list (L.map zW)), none, none, none, none, none, none, none]) (by rintro pre acc ρ ⟨b, l, _, _, _, rfl⟩; rfl) ⟨_, [], (fun _ h => nomatch h), rfl, rfl, rfl⟩ ?_ ?_
   ·rintro pre x post acc ρ hx ⟨b, l, hl, hll, rfl, rfl⟩
    have hxl := congrArg List.length hx
    rw [List.length_range, List.length_append, List.length_cons] at hxl
    walk_at "go"
    refine zcJ ⟨rfl, rfl⟩ rfl xG ?_
    obtain ⟨c, hc, ec⟩ := VF b
    walk_at "go"
    refine zcG rfl rfl ec ?_
    walk_at "go"
    refine ⟨_, l ++ [c], ?_, by simp [hll], by rw [List.map_append]; rfl, rfl⟩
    intro d hd
    rcases List.mem_append.mp hd with hd | hd
    ·exact hl d hd
    ·rw [List.mem_singleton] at hd; subst hd; exact hc
   ·rintro acc ρ ⟨b, l, hl, hll, rfl, rfl⟩
    rw [List.length_range] at hll
    have hll : l.length = m := by rw [hll]; omega
    walk_at "go"
    refine mt_ rfl (jd (by omega)) inferInstance ?_
    walk_at "go"
    refine zcG rfl rfl zbv ?_
    walk_at "go"
    refine Qu (fun q => ?_) (fun q => ?_)
    ·have q : ¬ l ∈ L := by simpa using q
     walk_at "go"
     refine ⟨L ++ [l], by rw [List.length_append, List.length_singleton]; omega, ?_, ?_, by rw [zau]⟩
     ·intro x hx
      rcases List.mem_append.mp hx with hx | hx
      ·exact hL x hx
      ·rw [List.mem_singleton] at hx; subst hx; exact ⟨hl, by omega, by omega⟩
     ·rw [List.nodup_append]
      refine ⟨hn, by simp, fun x hx y hy => ?_⟩
      rw [List.mem_singleton] at hy; subst hy
      exact fun z => q (z ▸ hx)
    ·walk_at "go"
     exact ⟨L, by omega, hL, hn, rfl⟩
  ·rintro ρ ⟨L, hLl, hL, hn, rfl⟩
   walk_at "go"
   refine wV (xs := L) zW (fun pre ρ => ρ = [some (.s, .list (ns.map PyData.int)), none, some (.f, .list (L.map zW)), none, none, some (.o true false, .dict (TC pre)), none, none, none, none]) rfl ?_ ?_
   ·rintro pre l post ρ hx rfl
    have hll := hL l (by rw [hx]; simp)
    have hpre : ∀ q ∈ pre, Nm q := fun q hq => (hL q (by rw [hx]; simp [hq])).1
    have hni : l ∉ pre := fun z => by
     rw [hx, List.nodup_append] at hn
     exact hn.2.2 l z l (by simp) rfl
    have hp : ∀ p ∈ zR l, Nm p ∧ 1 ≤ p.length ∧ p.length ≤ 6 := fun p hp => jO hll.1 hp
    have hpc := jx (l := l)
    walk_at "go"
    unfold wR
    rw [qC]
    walk_at "go"
    refine zcJ ⟨rfl, rfl⟩ rfl (K8 (by omega)) ?_
    walk_at "go"
    refine jw zW (fun p => PyData.int (xj p)) (by omega) inferInstance ?_ ?_
    ·intro p hpm
     obtain ⟨p1, p2, p3⟩ := hp p hpm
     walk_at "go"
     refine zcJ ⟨rfl, rfl⟩ rfl (VH p1 p3) ?_
     walk_at "go"
     exact ⟨rfl, rfl⟩
    ·have er : (zR l).map (fun p => PyData.int (xj p)) = (zP l).map PyData.int := by unfold zP; rw [List.map_map]; rfl
     rw [er]
     walk_at "go"
     refine Yq ?_
     walk_at "go"
     refine zal rfl rfl hpre hll.1 hll.2.2 ?_
     rw [decide_eq_false hni]
     walk_at "go"
     refine zcJ ⟨rfl, rfl⟩ rfl (VJ hll.1.ok (by omega)) ?_
     rw [zcF.mpr ⟨hll.1, hll.2.1, hll.2.2⟩]
     walk_at "go"
     refine zcG rfl rfl (show yN (.bool true) (.bool true) = some (.fz (.bool false)) from rfl) ?_
     walk_at "go"
     have ed : (zP l).map PyData.int = (zR l).map fun p => PyData.int (xj p) := er.symm
     rw [ed]
     refine jw (fun p => PyData.int (xj p)) zW (by omega) inferInstance ?_ ?_
     ·intro p hpm
      obtain ⟨p1, p2, p3⟩ := hp p hpm
      walk_at "go"
      refine zcJ ⟨rfl, rfl⟩ rfl (yL (xj p)) ?_
      rw [jg p1 p2 p3]
      walk_at "go"
      exact ⟨rfl, rfl⟩
     rw [er]
     have hfl := Z8 _ (Nat.le_refl l.length)
     walk_at "go"
     refine mt_ rfl (Va (by rw [hfl]; omega)) inferInstance ?_
     rw [hfl]
     walk_at "go"
     walk_at "go"
     have hpl : pre.length < L.length := by rw [hx, List.length_append, List.length_cons]; omega
     refine wdp_of (kk := vC l) rfl rfl (by unfold Vm.keyOf; rw [if_pos rfl, show jT (.tuple ((zP l).map PyData.int)) = _ from Xc hll.1 hll.2.2]; rfl) (by unfold TC; rw [List.length_map, sizeLine_eq]; omega) (zai hpre hll.1 hni) inferInstance ?_
     walk_at "go"
     rfl
   ·rintro ρ rfl
    walk_at "go"
    have hb : L.length ≤ 31 := by omega
    refine VM rfl (yj fun l hl => ⟨(hL l hl).1, fun z => by have := (hL l hl).2.1; rw [z] at this; simp at this⟩) inferInstance ?_
    have hS : ∀ l ∈ jL L, l ∈ L := fun l hl => zcE.mp hl
    have hSl : (jL L).length = L.length := List.length_mergeSort _
    have hq : qN z8 (.list (L.map zW)) = some (.ow false (.list ((jL L).map zW))) := W9 fun l hl => Wc (hL l hl).1 (by have := (hL l hl).2.2; omega)
    generalize jL L = S at hS hSl hq ⊢
    walk_at "go"
    refine jw Q3 zW (by omega) inferInstance ?_ ?_
    ·intro l hl
     walk_at "go"
     refine zcG rfl rfl (Ys (fun q hq => (hL q hq).1) (hS l hl) (hL l (hS l hl)).2.2) ?_
     walk_at "go"
     exact ⟨rfl, rfl⟩
    walk_at "go"
    refine zcH rfl hq ?_
    walk_at "go"
    refine zcG rfl rfl (zak (K7 fun l hl => (hL l (hS l hl)).1.ok)) ?_
    walk_at "go"
    rfl
 obtain ⟨z, io, e, rfl⟩ := yd key
 exact ⟨io, e⟩
def jY (i : Nat) : Stmt := PySem.Challenge.pw_chaindisk_k23_whole_names_by_their_words.main.body.getD i (.Pass ⟨0, 0, 0, 0⟩)
abbrev ZJ : Stmt := jY 5
theorem zcr : FnScope ["text", "sign"] ["text"] (defScope ZJ) := ⟨rfl, rfl, rfl, by decide +kernel, rfl, by decide +kernel, by decide +kernel⟩
abbrev Zj : Stmt := jY 6
theorem zcj : FnScope ["name", "start"] ["name"] (defScope Zj) := ⟨rfl, rfl, rfl, by decide +kernel, rfl, by decide +kernel, by decide +kernel⟩
abbrev ZX : Stmt := jY 7
theorem zch : FnScope ["piece", "code", "place"] ["piece"] (defScope ZX) := ⟨rfl, rfl, rfl, by decide +kernel, rfl, by decide +kernel, by decide +kernel⟩
abbrev ZK : Stmt := jY 8
theorem zcd : FnScope ["word", "left", "piece", "turn", "figure"] ["word"] (defScope ZK) := ⟨rfl, rfl, rfl, by decide +kernel, rfl, by decide +kernel, by decide +kernel⟩
abbrev Zd : Stmt := jY 10
theorem zcc : FnScope ["_law_script", "_law_k", "_law_cell", "_law_total", "_law_number", "_law_turn"] ["_law_script", "_law_k"] (defScope Zd) := ⟨rfl, rfl, rfl, by decide +kernel, rfl, by decide +kernel, by decide +kernel⟩
abbrev Zv : Stmt := jY 11
theorem zcs : FnScope ["_law_held", "_law_many", "_law_drawn"] ["_law_held", "_law_many"] (defScope Zv) := ⟨rfl, rfl, rfl, by decide +kernel, rfl, by decide +kernel, by decide +kernel⟩
abbrev Zr : Stmt := jY 12
theorem jV : FnScope [] [] (defScope Zr) := ⟨rfl, rfl, rfl, by decide +kernel, rfl, by decide +kernel, by decide +kernel⟩
abbrev z9 : Stmt := jY 13
theorem zca : FnScope ["_law_held", "_law_many", "_law_base", "_law_first", "_law_ahead", "_law_names_here", "_law_k", "_law_sign", "_law_size"] ["_law_held", "_law_many"] (defScope z9) := ⟨rfl, rfl, rfl, by decide +kernel, rfl, by decide +kernel, by decide +kernel⟩
abbrev Zo : Stmt := jY 14
theorem zck : FnScope ["_law_name", "_law_sign"] ["_law_name"] (defScope Zo) := ⟨rfl, rfl, rfl, by decide +kernel, rfl, by decide +kernel, by decide +kernel⟩
abbrev qH : Stmt := jY 15
theorem zce : FnScope ["_law_script", "_law_held", "_law_names_here", "_law_k", "_law_name", "_law_codes", "_law_row", "_law_turn", "_law_piece", "_law_code"] ["_law_script"] (defScope qH) := ⟨rfl, rfl, rfl, by decide +kernel, rfl, by decide +kernel, by decide +kernel⟩
structure Txt (K : PySem.W.Frag) (mg : Str → Option Value) : Prop where
 b_divmod : mg "divmod" = none
 b_len : mg "len" = none
 b_min : mg "min" = none
 b_range : mg "range" = none
 b_sorted : mg "sorted" = none
 b_tuple : mg "tuple" = none
 c_SIGNS : ∃ t, mg "SIGNS" = some (.str "abcdefghijklmnopqrstuvwxyz0123456789" t)
 c_MOST_SIGNS : ∃ t, mg "MOST_SIGNS" = some (.int 18 t)
 c_PIECE : ∃ t, mg "PIECE" = some (.int 6 t)
 c_BASE : ∃ t, mg "BASE" = some (.int 37 t)
section
variable {P : Program} {w : World} {K : PySem.W.Frag} {mg : Str → Option Value} {base : Heap} {T0 : List (Addr × Str)}
theorem vp {f : Addr} {fd : FuncData} (D : Def K mg "is_name" ZJ ["text"] f fd) (T : Txt K mg) : Cal P w K mg base CX0 "is_name" 1 ["text"] (spM K T0 qG) f fd := by
 refine ⟨?_, D.g, D.F.kp, D.b⟩
 have h := okM (P := P) (w := w) (mg := mg) (base := base) (T := T0) (k := 0) (r := Xj) D.F zcr (fun cdv Ar outer s H E hr => ⟨_, (pss_cons (ps_if (pt_not (pt_chain op_le op_le pe_int (pe_callB call_len_str (by rfl) T.b_len PySem.boot_len (pa_cons (pv 0) pa_nil)) (pe_glob (v := .int 18) (by rfl) T.c_MOST_SIGNS.choose_spec ⟨_, rfl⟩)))
 (pss_one (ps_ret pe_bl)) pss_nil)
 (pss_one (ps_ret (pe_cmpR (op_eqD hr.units) (pe_lc (own := [("sign", 1)]) rfl zcr.nd (pi_str (pv 0)) (blkOk_by (N := ["text", "sign"]) (sc := defScope ZJ) (by decide +kernel)) (fun _ _ _ _ _ => (pg_name (i := 1) zcr.nd rfl (Or.inl rfl) (Or.inr rfl))) (fun _ _ _ _ _ => (pts_one (pt_cmpR op_notIn_sign (pv 1) (pe_glob (v := .str "abcdefghijklmnopqrstuvwxyz0123456789") (by rfl) T.c_SIGNS.choose_spec ⟨_, rfl⟩) rfl))) (fun _ _ _ _ _ => (pv 1))) (pe_lst pa_nil) (nomark _))))), fun B => by
  try dsimp only [cxOf, Cx.nox, Cx.wish]
  exact (zA (xO (zar (Zh (yq wU wU zj (JF jj za) zj)))
 (Zu yF) qR)
 (Zu (zq Vq (Xr (w1 := fun _ _ _ _ => False) (w2 := fun _ _ _ _ => False) (wz za) (ZQ (by decide)) (Zh (zq vL za qm)) za) (Q6 zr))))⟩)
 exact h
theorem JV {f : Addr} {fd : FuncData} (D : Def K mg "pieces_of" Zj ["name"] f fd) (T : Txt K mg) : Cal P w K mg base CX0 "pieces_of" 1 ["name"] (spM K T0 ZM) f fd := by
 refine ⟨?_, D.g, D.F.kp, D.b⟩
 have h := okM (P := P) (w := w) (mg := mg) (base := base) (T := T0) (k := 0) (r := Qp) D.F zcj (fun cdv Ar outer s H E hr => ⟨_, (pss_one (ps_ret (pe_lc (own := [("start", 1)]) rfl zcj.nd (pi_range3 (by rfl) T.b_range (pa_cons pe_int (pa_cons (pe_callB call_len_str (by rfl) T.b_len PySem.boot_len (pa_cons (pv 0) pa_nil)) (pa_cons (pe_glob (v := .int 6) (by rfl) T.c_PIECE.choose_spec ⟨_, rfl⟩) pa_nil)))) (blkOk_by (N := ["name", "start"]) (sc := defScope Zj) (by decide +kernel)) (fun _ _ _ _ _ => (pg_name (i := 1) zcj.nd rfl (Or.inl rfl) (Or.inr rfl))) (fun _ _ _ _ _ => pts_nil) (fun _ _ _ _ _ => (pe_slice sl_str (pv 0) (po_some (pv 1)) (po_some (pe_op op_add (pv 1) (pe_glob (v := .int 6) (by rfl) T.c_PIECE.choose_spec ⟨_, rfl⟩)))))))), fun B => by
  try dsimp only [cxOf, Cx.nox, Cx.wish]
  exact (Zu (Xr (w1 := fun _ _ _ _ => False) (w2 := fun _ _ _ _ => False) (Yg (zf zj (zf (JF jj za) (zf zj zr)))) (ZQ (by decide)) Q4 (Wq Wm za (XF za) (XF (zq ZL za zj)))))⟩)
 exact h
theorem vG {f : Addr} {fd : FuncData} (D : Def K mg "code_of" ZX ["piece"] f fd) (T : Txt K mg) : Cal P w K mg base CX0 "code_of" 1 ["piece"] (spM K T0 qF) f fd := by
 refine ⟨?_, D.g, D.F.kp, D.b⟩
 have h := okM (P := P) (w := w) (mg := mg) (base := base) (T := T0) (k := 0) (r := xY) D.F zch (fun cdv Ar outer s H E hr => ⟨_, (pss_cons (ps_set (i := 1) zch.nd rfl (by first | exact .inl rfl | exact .inr rfl) pe_int)
 (pss_cons (ps_for PassesOwn.never rfl (pi_range1 (by rfl) T.b_range (pa_cons (pe_glob (v := .int 6) (by rfl) T.c_PIECE.choose_spec ⟨_, rfl⟩) pa_nil)) (pg_name (i := 2) zch.nd rfl (by first | exact .inl rfl | exact .inr rfl))
 (pss_cons (ps_set (i := 1) zch.nd rfl (by first | exact .inl rfl | exact .inr rfl) (pe_op op_mul (pv 1) (pe_glob (v := .int 37) (by rfl) T.c_BASE.choose_spec ⟨_, rfl⟩)))
 (pss_one (ps_if (pt_cmpR op_lt (pv 2) (pe_callB call_len_str (by rfl) T.b_len PySem.boot_len (pa_cons (pv 0) pa_nil)) (nomark _))
 (pss_one (ps_aug (i := 1) zch.nd rfl (by first | exact .inl rfl | exact .inr rfl) (pe_op op_add pe_int (pe_bm PySem.F.plainAttrs_str PySem.F.slot_str_index PySem.F.type_str_index mt_sindex (pe_glob (v := .str "abcdefghijklmnopqrstuvwxyz0123456789") (by rfl) T.c_SIGNS.choose_spec ⟨_, rfl⟩) (pa_cons (pe_ix ix_str (pv 0) (pv 2) (fun _ _ => rfl)) pa_nil))) ip_add)) pss_nil))))
 (pss_one (ps_ret (pv 1))))), fun B => by
  try dsimp only [cxOf, Cx.nox, Cx.wish]
  exact (zA (zN zj)
 (zA (zM (Xa (QM zj) Z6
 (zA (zN (zq Z7 za zj))
 (zM (xO (Zh (zq WD za (JF jj za)))
 (zM (zag zaG (zq ZL zj (xK jE qm (zf (zq xP za za) zr))))) qR)))))
 (Zu za)))⟩)
 exact h
theorem Kf {f : Addr} {fd : FuncData} (D : Def K mg "piece_of" ZK ["word"] f fd) (T : Txt K mg) : Cal P w K mg base CX0 "piece_of" 1 ["word"] (spM K T0 Z0) f fd := by
 refine ⟨?_, D.g, D.F.kp, D.b⟩
 have h := okM (P := P) (w := w) (mg := mg) (base := base) (T := T0) (k := 0) (r := xf) D.F zcd (fun cdv Ar outer s H E hr => ⟨_, (pss_cons (ps_set (i := 1) zcd.nd rfl (by first | exact .inl rfl | exact .inr rfl) (pv 0))
 (pss_cons (ps_set (i := 2) zcd.nd rfl (by first | exact .inl rfl | exact .inr rfl) pe_str)
 (pss_cons (ps_for PassesOwn.never rfl (pi_range1 (by rfl) T.b_range (pa_cons (pe_glob (v := .int 6) (by rfl) T.c_PIECE.choose_spec ⟨_, rfl⟩) pa_nil)) (pg_name (i := 3) zcd.nd rfl (by first | exact .inl rfl | exact .inr rfl))
 (pss_cons (ps_asg (pe_callB call_divmod (by rfl) T.b_divmod (by decide +kernel) (pa_cons (pv 1) (pa_cons (pe_glob (v := .int 37) (by rfl) T.c_BASE.choose_spec ⟨_, rfl⟩) pa_nil))) (pg_tup rfl (pgs_cons (pg_name (i := 1) zcd.nd rfl (by first | exact .inl rfl | exact .inr rfl)) (pgs_cons (pg_name (i := 4) zcd.nd rfl (by first | exact .inl rfl | exact .inr rfl)) pgs_nil))))
 (pss_one (ps_if (pt_cmpR op_gt (pv 4) pe_int (nomark _))
 (pss_one (ps_set (i := 2) zcd.nd rfl (by first | exact .inl rfl | exact .inr rfl) (pe_op op_add_str (pe_ix ix_str (pe_glob (v := .str "abcdefghijklmnopqrstuvwxyz0123456789") (by rfl) T.c_SIGNS.choose_spec ⟨_, rfl⟩) (pe_op op_sub (pv 4) pe_int) (fun _ _ => rfl)) (pv 2)))) (pss_one (ps_if (pt_cmpR op_ne (pv 2) pe_str (nomark _))
 (pss_one (ps_ret pe_non)) pss_nil))))))
 (pss_cons (ps_if (pw_or (pt_cmpR op_gt (pv 1) pe_int (nomark _)) (pw_or1 (pt_cmpR op_eq (pv 2) pe_str (nomark _)))).pt
 (pss_one (ps_ret pe_non)) pss_nil)
 (pss_one (ps_ret (pv 2))))))), fun B => by
  try dsimp only [cxOf, Cx.nox, Cx.wish]
  exact (zA (zM (zN za))
 (zA (zN qm)
 (zA (Xa (QM zj) Z6
 (zM (zA (Yp (wN vU za zj) (zaV (Vr Z6 (Vr Z6 zaC))))
 (zM (xO (Zh (zq wA za zj))
 (zM (zN (zq jy (zq xP qm (zq Vl za zj)) za))) (xO (Zh (zq WN za qm))
 (Zu W8) qR))))))
 (zA (zM (xO (w6 (Zh (zq wA za zj)) (Zh (zq Wk za qm)))
 (Zu W8) qR))
 (Zu za)))))⟩)
 exact h
theorem jQ {f : Addr} {fd : FuncData} (D : Def K mg "_law_digits" Zd ["_law_script", "_law_k"] f fd) (T : Txt K mg) : Cal P w K mg base CX0 "_law_digits" 1 ["_law_script", "_law_k"] (spM K T0 zU) f fd := by
 refine ⟨?_, D.g, D.F.kp, D.b⟩
 have h := okM (P := P) (w := w) (mg := mg) (base := base) (T := T0) (k := 0) (r := qp) D.F zcc (fun cdv Ar outer s H E hr => ⟨_, (pss_cons (ps_set (i := 2) zcc.nd rfl (by first | exact .inl rfl | exact .inr rfl) (pe_ifExp (pt_cmpR op_lt (pv 1) (pe_callB call_len_seq (by rfl) T.b_len PySem.boot_len (pa_cons (pv 0) pa_nil)) (nomark _)) (pe_ix ix_list (pv 0) (pv 1) (fun _ _ => rfl)) pe_int))
 (pss_cons (ps_if (pt_cmpR op_ge (pv 2) (pe_op op_pow pe_int pe_int) (nomark _))
 (pss_one (ps_ret (pe_lst (pa_cons (pe_op op_sub (pv 2) (pe_op op_pow pe_int pe_int)) pa_nil)))) pss_nil)
 (pss_cons (ps_set (i := 3) zcc.nd rfl (by first | exact .inl rfl | exact .inr rfl) pe_int)
 (pss_cons (ps_set (i := 4) zcc.nd rfl (by first | exact .inl rfl | exact .inr rfl) (pe_op op_mod (pe_op op_add (pe_op op_add (pe_op op_mul (pv 2) pe_int) (pe_op op_mul pe_int (pv 1))) pe_int) pe_int))
 (pss_cons (ps_for PassesOwn.never rfl (pi_range1 (by rfl) T.b_range (pa_cons pe_int pa_nil)) (pg_name (i := 5) zcc.nd rfl (by first | exact .inl rfl | exact .inr rfl))
 (pss_cons (ps_set (i := 4) zcc.nd rfl (by first | exact .inl rfl | exact .inr rfl) (pe_op op_mod (pe_op op_add (pe_op op_add (pe_op op_mul (pv 4) (pv 4)) (pe_op op_mul pe_int (pv 4))) (pv 5)) pe_int))
 (pss_one (ps_set (i := 3) zcc.nd rfl (by first | exact .inl rfl | exact .inr rfl) (pe_op op_add (pe_op op_mul (pv 3) pe_int) (pe_op op_mod (pe_op op_mul (pv 4) pe_int) pe_int))))))
 (pss_one (ps_ret (pe_lst (pa_cons (pv 3) pa_nil))))))))), fun B => by
  try dsimp only [cxOf, Cx.nox, Cx.wish]
  exact (zA (zM (zN (zaA (Zh (zq WD za Kd)) (Yo za) zj)))
 (zA (xO (Zh (zq zaY za (zq Vt zj zj)))
 (Zu (Q6 (zf (zq Vl za (zq Vt zj zj)) zr))) qR)
 (zA (zN zj)
 (zA (zM (zN (zq Qz (zq ZL (zq ZL (zq Z7 za zj) (zq Z7 zj za)) zj) zj)))
 (zA (zM (Xa (QM zj) Z6
 (zA (zM (zN (zq Qz (zq ZL (zq ZL (zq Z7 za za) (zq Z7 zj za)) za) zj)))
 (zN (zq ZL (zq Z7 za zj) (zq Qz (zq Z7 za zj) zj))))))
 (Zu (Q6 (zf za zr))))))))⟩)
 exact h
theorem JW {f : Addr} {fd : FuncData} (D : Def K mg "_law_take" Zv ["_law_held", "_law_many"] f fd) (T : Txt K mg) : Cal P w K mg base CX0 "_law_take" 1 ["_law_held", "_law_many"] (spM K T0 zB) f fd := by
 refine ⟨?_, D.g, D.F.kp, D.b⟩
 have h := okM (P := P) (w := w) (mg := mg) (base := base) (T := T0) (k := 0) (r := Ql) D.F zcs (fun cdv Ar outer s H E hr => ⟨_, (pss_cons (ps_set (i := 2) zcs.nd rfl (by first | exact .inl rfl | exact .inr rfl) (pe_op op_mod (pe_ix ix_list (pv 0) pe_int (fun _ _ => rfl)) (pv 1)))
 (pss_cons (ps_asg (pe_op op_fdivW (pe_ix ix_list (pv 0) pe_int (fun _ _ => rfl)) (pv 1)) (pg_sub (pv 0) pe_int set_list))
 (pss_one (ps_ret (pv 2))))), fun B => by
  try dsimp only [cxOf, Cx.nox, Cx.wish]
  exact (zA (zN (zq Qz (zq xN za zj) za))
 (zA (zM (YL (zq YB (zq xN za zj) za) zj))
 (Zu za)))⟩)
 exact h
theorem jW {f : Addr} {fd : FuncData} (D : Def K mg "_law_signs" Zr [] f fd) (T : Txt K mg) : Cal P w K mg base CX0 "_law_signs" 1 [] (spM K T0 zH) f fd := by
 refine ⟨?_, D.g, D.F.kp, D.b⟩
 have h := okM (P := P) (w := w) (mg := mg) (base := base) (T := T0) (k := 0) (r := qQ) D.F jV (fun cdv Ar outer s H E hr => ⟨_, (pss_one (ps_ret pe_str)), fun B => by
  try dsimp only [cxOf, Cx.nox, Cx.wish]
  exact (Zu qm)⟩)
 exact h
theorem jZ {f : Addr} {fd : FuncData} (D : Def K mg "_law_names" z9 ["_law_held", "_law_many"] f fd) (T : Txt K mg) {zcn : Addr} {fd__law_take : FuncData} (zb8 : Cal P w K mg base CX0 "_law_take" 1 ["_law_held", "_law_many"] (spM K T0 zB) zcn fd__law_take) {zcf : Addr} {fd__law_signs : FuncData} (zb9 : Cal P w K mg base CX0 "_law_signs" 1 [] (spM K T0 zH) zcf fd__law_signs) : Cal P w K mg base CX0 "_law_names" 2 ["_law_held", "_law_many"] (spM K T0 Zq) f fd := by
 refine ⟨?_, D.g, D.F.kp, D.b⟩
 have h := okM (P := P) (w := w) (mg := mg) (base := base) (T := T0) (k := 1) (r := qL) D.F zca (fun cdv Ar outer s H E hr => ⟨_, (pss_cons (ps_set (i := 2) zca.nd rfl (by first | exact .inl rfl | exact .inr rfl) (pe_bm PySem.F.plainAttrs_str PySem.F.slot_str_join PySem.F.type_str_join mt_join pe_str (pa_cons (pe_lc (own := [("_law_k", 6)]) rfl zca.nd (pi_range1 (by rfl) T.b_range (pa_cons pe_int pa_nil)) (blkOk_by (N := ["_law_held", "_law_many", "_law_base", "_law_first", "_law_ahead", "_law_names_here", "_law_k", "_law_sign", "_law_size"]) (sc := defScope z9) (by decide +kernel)) (fun _ _ _ _ _ => (pg_name (i := 6) zca.nd rfl (Or.inl rfl) (Or.inr rfl))) (fun _ _ _ _ _ => pts_nil) (fun _ _ _ _ _ => (pe_ix ix_str (pe_call0 zb9.G (hr.mono (by omega)) (by rfl) zb9.g zb9.kp zb9.b .nil pass0) (pe_call zb8.G (hr.mono (by omega)) (by rfl) zb8.g zb8.kp zb8.b .nil pass0 (pa_cons (pv 0) (pa_cons pe_int pa_nil))) (fun _ _ => rfl)))) pa_nil)))
 (pss_cons (ps_set (i := 3) zca.nd rfl (by first | exact .inl rfl | exact .inr rfl) (pe_call zb8.G (hr.mono (by omega)) (by rfl) zb8.g zb8.kp zb8.b .nil pass0 (pa_cons (pv 0) (pa_cons pe_int pa_nil))))
 (pss_cons (ps_set (i := 4) zca.nd rfl (by first | exact .inl rfl | exact .inr rfl) (pe_cmpR op_eq (pe_call zb8.G (hr.mono (by omega)) (by rfl) zb8.g zb8.kp zb8.b .nil pass0 (pa_cons (pv 0) (pa_cons pe_int pa_nil))) pe_int (nomark _)))
 (pss_cons (ps_set (i := 5) zca.nd rfl (by first | exact .inl rfl | exact .inr rfl) (pe_lst pa_nil))
 (pss_cons (ps_for PassesOwn.never rfl (pi_range1 (by rfl) T.b_range (pa_cons (pv 1) pa_nil)) (pg_name (i := 6) zca.nd rfl (by first | exact .inl rfl | exact .inr rfl))
 (pss_cons (ps_set (i := 7) zca.nd rfl (by first | exact .inl rfl | exact .inr rfl) (pe_ix ix_str (pe_call0 zb9.G (hr.mono (by omega)) (by rfl) zb9.g zb9.kp zb9.b .nil pass0) (pe_op op_mod (pe_op op_add (pv 3) (pe_op op_mul pe_int (pv 6))) pe_int) (fun _ _ => rfl)))
 (pss_cons (ps_set (i := 8) zca.nd rfl (by first | exact .inl rfl | exact .inr rfl) (pe_ix ix_list (pe_lst (pa_cons (pe_call zb8.G (hr.mono (by omega)) (by rfl) zb8.g zb8.kp zb8.b .nil pass0 (pa_cons (pv 0) (pa_cons pe_int pa_nil))) (pa_cons (pe_ix ix_list (pe_lst (pa_cons pe_int (pa_cons pe_int (pa_cons pe_int (pa_cons pe_int (pa_cons pe_int (pa_cons pe_int (pa_cons pe_int (pa_cons pe_int pa_nil))))))))) (pe_call zb8.G (hr.mono (by omega)) (by rfl) zb8.g zb8.kp zb8.b .nil pass0 (pa_cons (pv 0) (pa_cons pe_int pa_nil))) (fun _ _ => rfl)) pa_nil))) (pe_call zb8.G (hr.mono (by omega)) (by rfl) zb8.g zb8.kp zb8.b .nil pass0 (pa_cons (pv 0) (pa_cons pe_int pa_nil))) (fun _ _ => rfl)))
 (pss_one (ps_if (pt_val (pv 4))
 (pss_one (ps_expr (pe_bm PySem.F.plainAttrs_list PySem.F.slot_list_append PySem.F.type_list_append mt_append (pv 5) (pa_cons (pe_op op_add_str (pv 7) (pe_slice sl_str (pv 2) po_none (po_some (pe_ix ix_list (pe_lst (pa_cons pe_int (pa_cons pe_int (pa_cons pe_int (pa_cons pe_int pa_nil))))) (pe_op op_mod (pv 8) pe_int) (fun _ _ => rfl))))) pa_nil)))) (pss_one (ps_expr (pe_bm PySem.F.plainAttrs_list PySem.F.slot_list_append PySem.F.type_list_append mt_append (pv 5) (pa_cons (pe_op op_add_str (pe_slice sl_str (pv 2) po_none (po_some (pv 8))) (pv 7)) pa_nil)))))))))
 (pss_one (ps_ret (pv 5)))))))), fun B => by
  try dsimp only [cxOf, Cx.nox, Cx.wish]
  exact (zA (zN (xK jR qm (zf (Xr (w1 := fun _ _ _ _ => False) (w2 := fun _ _ _ _ => False) (QM zj) (ZQ (by decide)) Q4 (zq xP (zK [] zr) (zK [true, false] (zf za (zf zj zr))))) zr)))
 (zA (zN (zK [true, false] (zf za (zf zj zr))))
 (zA (zN (zq Wk (zK [true, false] (zf za (zf zj zr))) zj))
 (zA (zN (Q6 zr))
 (zA (zM (Xa (QM za) Z6
 (zA (zM (zN (zq xP (zK [] zr) (zq Qz (zq ZL za (zq Z7 zj za)) zj))))
 (zA (zN (zq xN (Q6 (zf (zK [true, false] (zf za (zf zj zr))) (zf (zq xN (Q6 (zf zj (zf zj (zf zj (zf zj (zf zj (zf zj (zf zj (zf zj zr))))))))) (zK [true, false] (zf za (zf zj zr)))) zr))) (zK [true, false] (zf za (zf zj zr)))))
 (zM (xO (zb0 za)
 (zM (JT (jK Q9 (zf (zq jy za (Wq Wm za Vz (XF (zq xN (Q6 (zf zj (zf zj (zf zj (zf zj zr))))) (zq Qz za zj))))) zr)))) (zM (JT (jK Q9 (zf (zq jy (Wq Wm za Vz (XF za)) za) zr))))))))))
 (Zu za))))))⟩)
 exact h
theorem JH {f : Addr} {fd : FuncData} (D : Def K mg "_law_rank" Zo ["_law_name"] f fd) (T : Txt K mg) {zcf : Addr} {fd__law_signs : FuncData} (zb9 : Cal P w K mg base CX0 "_law_signs" 1 [] (spM K T0 zH) zcf fd__law_signs) : Cal P w K mg base CX0 "_law_rank" 2 ["_law_name"] (spM K T0 z8) f fd := by
 refine ⟨?_, D.g, D.F.kp, D.b⟩
 have h := okM (P := P) (w := w) (mg := mg) (base := base) (T := T0) (k := 1) (r := Qe) D.F zck (fun cdv Ar outer s H E hr => ⟨_, (pss_one (ps_ret (pe_lc (own := [("_law_sign", 1)]) rfl zck.nd (pi_str (pv 0)) (blkOk_by (N := ["_law_name", "_law_sign"]) (sc := defScope Zo) (by decide +kernel)) (fun _ _ _ _ _ => (pg_name (i := 1) zck.nd rfl (Or.inl rfl) (Or.inr rfl))) (fun _ _ _ _ _ => pts_nil) (fun _ _ _ _ _ => (Fz.pe_bmK K rfl PySem.F.plainAttrs_str PySem.F.slot_str_index PySem.F.type_str_index mt_sindex (pe_call0 zb9.G (hr.mono (by omega)) (by rfl) zb9.g zb9.kp zb9.b .nil pass0) (pa_cons (pv 1) pa_nil)))))), fun B => by
  try dsimp only [cxOf, Cx.nox, Cx.wish]
  exact (Zu (Xr (w1 := fun _ _ _ _ => False) (w2 := fun _ _ _ _ => False) (wz za) (ZQ (by decide)) Q4 (xK jE (zK [] zr) (zf za zr))))⟩)
 exact h
theorem zaX {f : Addr} {fd : FuncData} (D : Def K mg "law" qH ["_law_script"] f fd) (T : Txt K mg) {zcB : Addr} {fd_is_name : FuncData} (zcp : Cal P w K mg base CX0 "is_name" 1 ["text"] (spM K T0 qG) zcB fd_is_name) {zcx : Addr} {fd_pieces_of : FuncData} (zci : Cal P w K mg base CX0 "pieces_of" 1 ["name"] (spM K T0 ZM) zcx fd_pieces_of) {zcC : Addr} {fd_code_of : FuncData} (zcq : Cal P w K mg base CX0 "code_of" 1 ["piece"] (spM K T0 qF) zcC fd_code_of) {zcz : Addr} {fd_piece_of : FuncData} (zcl : Cal P w K mg base CX0 "piece_of" 1 ["word"] (spM K T0 Z0) zcz fd_piece_of) {zct : Addr} {fd__law_digits : FuncData} (zcb : Cal P w K mg base CX0 "_law_digits" 1 ["_law_script", "_law_k"] (spM K T0 zU) zct fd__law_digits) {zcn : Addr} {fd__law_take : FuncData} (zb8 : Cal P w K mg base CX0 "_law_take" 1 ["_law_held", "_law_many"] (spM K T0 zB) zcn fd__law_take) {zcf : Addr} {fd__law_signs : FuncData} (zb9 : Cal P w K mg base CX0 "_law_signs" 1 [] (spM K T0 zH) zcf fd__law_signs) {zcu : Addr} {fd__law_names : FuncData} (zcg : Cal P w K mg base CX0 "_law_names" 2 ["_law_held", "_law_many"] (spM K T0 Zq) zcu fd__law_names) {zcy : Addr} {fd__law_rank : FuncData} (zco : Cal P w K mg base CX0 "_law_rank" 2 ["_law_name"] (spM K T0 z8) zcy fd__law_rank) : Cal P w K mg base CX0 "law" 4 ["_law_script"] (spM K T0 m_law) f fd := by
 refine ⟨?_, D.g, D.F.kp, D.b⟩
 have h := okM (P := P) (w := w) (mg := mg) (base := base) (T := T0) (k := 3) (r := Wh) D.F zce (fun cdv Ar outer s H E hr => ⟨_, (pss_cons (ps_set (i := 1) zce.nd rfl (by first | exact .inl rfl | exact .inr rfl) (pe_call zcb.G (hr.mono (by omega)) (by rfl) zcb.g zcb.kp zcb.b .nil pass0 (pa_cons (pv 0) (pa_cons pe_int pa_nil))))
 (pss_cons (ps_set (i := 2) zce.nd rfl (by first | exact .inl rfl | exact .inr rfl) (pe_call zcg.G (hr.mono (by omega)) (by rfl) zcg.g zcg.kp zcg.b .nil pass0 (pa_cons (pv 1) (pa_cons (pe_op op_add pe_int (pe_call zb8.G (hr.mono (by omega)) (by rfl) zb8.g zb8.kp zb8.b .nil pass0 (pa_cons (pv 1) (pa_cons pe_int pa_nil)))) pa_nil))))
 (pss_cons (ps_for PassesOwn.never rfl (pi_range2 (by rfl) T.b_range (pa_cons pe_int (pa_cons (pe_callB (call_min2 rfl) (by rfl) T.b_min (by decide +kernel) (pa_cons (pe_callB call_len_seq (by rfl) T.b_len PySem.boot_len (pa_cons (pv 0) pa_nil)) (pa_cons pe_int pa_nil))) pa_nil))) (pg_name (i := 3) zce.nd rfl (by first | exact .inl rfl | exact .inr rfl))
 (pss_cons (ps_set (i := 1) zce.nd rfl (by first | exact .inl rfl | exact .inr rfl) (pe_call zcb.G (hr.mono (by omega)) (by rfl) zcb.g zcb.kp zcb.b .nil pass0 (pa_cons (pv 0) (pa_cons (pv 3) pa_nil))))
 (pss_cons (ps_set (i := 4) zce.nd rfl (by first | exact .inl rfl | exact .inr rfl) (pe_bm PySem.F.plainAttrs_str PySem.F.slot_str_join PySem.F.type_str_join mt_join pe_str (pa_cons (pe_lc (own := [("_law_turn", 7)]) rfl zce.nd (pi_range1 (by rfl) T.b_range (pa_cons (pe_op op_add pe_int (pe_call zb8.G (hr.mono (by omega)) (by rfl) zb8.g zb8.kp zb8.b .nil pass0 (pa_cons (pv 1) (pa_cons pe_int pa_nil)))) pa_nil)) (blkOk_by (N := ["_law_script", "_law_held", "_law_names_here", "_law_k", "_law_name", "_law_codes", "_law_row", "_law_turn", "_law_piece", "_law_code"]) (sc := defScope qH) (by decide +kernel)) (fun _ _ _ _ _ => (pg_name (i := 7) zce.nd rfl (Or.inl rfl) (Or.inr rfl))) (fun _ _ _ _ _ => pts_nil) (fun _ _ _ _ _ => (pe_ix ix_str (pe_call0 zb9.G (hr.mono (by omega)) (by rfl) zb9.g zb9.kp zb9.b .nil pass0) (pe_call zb8.G (hr.mono (by omega)) (by rfl) zb8.g zb8.kp zb8.b .nil pass0 (pa_cons (pv 1) (pa_cons pe_int pa_nil))) (fun _ _ => rfl)))) pa_nil)))
 (pss_one (ps_if (pt_cmpR op_notIn_seq (pv 4) (pv 2) (by rfl))
 (pss_one (ps_expr (pe_bm PySem.F.plainAttrs_list PySem.F.slot_list_append PySem.F.type_list_append mt_append (pv 2) (pa_cons (pv 4) pa_nil)))) pss_nil)))))
 (pss_cons (ps_set (i := 5) zce.nd rfl (by first | exact .inl rfl | exact .inr rfl) pe_dnewT)
 (pss_cons (ps_for PassesOwn.never rfl (pi_list (pv 2)) (pg_name (i := 4) zce.nd rfl (by first | exact .inl rfl | exact .inr rfl))
 (pss_cons (ps_set (i := 6) zce.nd rfl (by first | exact .inl rfl | exact .inr rfl) (pe_callTy call_tuple_of (by rfl) T.b_tuple (by decide +kernel) (pa_cons (pe_lc (own := [("_law_piece", 8)]) rfl zce.nd (pi_list (pe_call zci.G (hr.mono (by omega)) (by rfl) zci.g zci.kp zci.b .nil pass0 (pa_cons (pv 4) pa_nil))) (blkOk_by (N := ["_law_script", "_law_held", "_law_names_here", "_law_k", "_law_name", "_law_codes", "_law_row", "_law_turn", "_law_piece", "_law_code"]) (sc := defScope qH) (by decide +kernel)) (fun _ _ _ _ _ => (pg_name (i := 8) zce.nd rfl (Or.inl rfl) (Or.inr rfl))) (fun _ _ _ _ _ => pts_nil) (fun _ _ _ _ _ => (pe_call zcq.G (hr.mono (by omega)) (by rfl) zcq.g zcq.kp zcq.b .nil pass0 (pa_cons (pv 8) pa_nil)))) pa_nil)))
 (pss_cons (ps_if (pw_or (pt_cmp (pc_din (hu_of hr) (pv 6) (pv 5))) (pw_or (pt_cmpR Vm.op_isNotB (pe_call zcp.G (hr.mono (by omega)) (by rfl) zcp.g zcp.kp zcp.b .nil pass0 (pa_cons (pv 4) pa_nil)) pe_bl (nomark _)) (pw_or1 (pt_cmpR op_ne (pe_bm PySem.F.plainAttrs_str PySem.F.slot_str_join PySem.F.type_str_join mt_join pe_str (pa_cons (pe_lc (own := [("_law_code", 9)]) rfl zce.nd (pi_tup (pv 6)) (blkOk_by (N := ["_law_script", "_law_held", "_law_names_here", "_law_k", "_law_name", "_law_codes", "_law_row", "_law_turn", "_law_piece", "_law_code"]) (sc := defScope qH) (by decide +kernel)) (fun _ _ _ _ _ => (pg_name (i := 9) zce.nd rfl (Or.inl rfl) (Or.inr rfl))) (fun _ _ _ _ _ => pts_nil) (fun _ _ _ _ _ => (pe_call zcl.G (hr.mono (by omega)) (by rfl) zcl.g zcl.kp zcl.b .nil pass0 (pa_cons (pv 9) pa_nil)))) pa_nil)) (pv 4) (nomark _))))).pt
 (pss_one (ps_ret pe_bl)) pss_nil)
 (pss_one (ps_dput (hu_of hr) (pv 5) (pv 6) (pv 4) rfl)))))
 (pss_one (ps_ret (pe_cmpR (op_eqD hr.units) (pe_lc (own := [("_law_row", 6)]) rfl zce.nd (pi_list (pe_callB (Kv (by rfl)) (by rfl) T.b_sorted (by decide +kernel) (pa_cons (pv 5) pa_nil))) (blkOk_by (N := ["_law_script", "_law_held", "_law_names_here", "_law_k", "_law_name", "_law_codes", "_law_row", "_law_turn", "_law_piece", "_law_code"]) (sc := defScope qH) (by decide +kernel)) (fun _ _ _ _ _ => (pg_name (i := 6) zce.nd rfl (Or.inl rfl) (Or.inr rfl))) (fun _ _ _ _ _ => pts_nil) (fun _ _ _ _ _ => (pe_dget (hu_of hr) (pv 5) (pv 6) (fun _ _ => rfl)))) (VP zco.G hr (Wr (hr.mono (by omega))) zco.b (by rfl) T.b_sorted (by rfl) zco.g (pa_cons (pv 2) pa_nil)) (nomark _))))))))), fun B => by
  try dsimp only [cxOf, Cx.nox, Cx.wish]
  exact (zA (zN (zK [false, false] (zf za (zf zj zr))))
 (zA (zM (zN (zK [true, false] (zf za (zf (zq ZL zj (zK [true, false] (zf za (zf zj zr)))) zr)))))
 (zA (Xa (Yb zj (wN YF Kd zj)) Z6
 (zA (zM (zN (zK [false, false] (zf za (zf za zr)))))
 (zA (zM (zN (xK jR qm (zf (Xr (w1 := fun _ _ _ _ => False) (w2 := fun _ _ _ _ => False) (QM (zq ZL zj (zK [true, false] (zf za (zf zj zr))))) (ZQ (by decide)) Q4 (zq xP (zK [] zr) (zK [true, false] (zf za (zf zj zr))))) zr))))
 (zM (xO (Zh (zq zaK za za))
 (zM (JT (jK Q9 (zf za zr)))) qR)))))
 (zA (zN yJ)
 (zA (Xa (JR za) Z6
 (zA (zN (JF V2 (Xr (w1 := fun _ _ _ _ => False) (w2 := fun _ _ _ _ => False) (JR (zK [false] (zf za zr))) (ZQ (by decide)) Q4 (zK [false] (zf za zr)))))
 (zA (xO (w6 (Zh (YQ za za)) (w6 (Zh (zq wJ (zK [false] (zf za zr)) yF)) (Zh (zq WN (xK jR qm (zf (Xr (w1 := fun _ _ _ _ => False) (w2 := fun _ _ _ _ => False) (zaH za) (ZQ (by decide)) Q4 (zK [false] (zf za zr))) zr)) za))))
 (Zu yF) qR)
 (zM (Yk za za)))))
 (Zu (zq Vq (Xr (w1 := fun _ _ _ _ => False) (w2 := fun _ _ _ _ => False) (JR vR) (ZQ (by decide)) Q4 (YC za za)) (V4 (zf za zr)))))))))⟩)
 exact h
end
theorem all_mk {l : PySem.W.OpenLaw} {w : World} {K : PySem.W.Frag} {h : Heap} {mg : Str → Option Value} {fa : Addr} (X : K.In h) (G : h.Ns mainGlobals mg) (hfa : mg "law" = some (.ref fa))
  {f0 : Addr} {od0 an0 : Option Addr} {sl0 : Array (Option Value)} {oc0 kV0 dc0 pm0 cd0 ct0 : Value}
  {f1 : Addr} {od1 an1 : Option Addr} {sl1 : Array (Option Value)} {oc1 kV1 dc1 pm1 cd1 ct1 : Value}
  {f2 : Addr} {od2 an2 : Option Addr} {sl2 : Array (Option Value)} {oc2 kV2 dc2 pm2 cd2 ct2 : Value}
  {f3 : Addr} {od3 an3 : Option Addr} {sl3 : Array (Option Value)} {oc3 kV3 dc3 pm3 cd3 ct3 : Value}
  {f4 : Addr} {od4 an4 : Option Addr} {sl4 : Array (Option Value)} {oc4 kV4 dc4 pm4 cd4 ct4 : Value}
  {f5 : Addr} {od5 an5 : Option Addr} {sl5 : Array (Option Value)} {oc5 kV5 dc5 pm5 cd5 ct5 : Value}
  {f6 : Addr} {od6 an6 : Option Addr} {sl6 : Array (Option Value)} {oc6 kV6 dc6 pm6 cd6 ct6 : Value}
  {f7 : Addr} {od7 an7 : Option Addr} {sl7 : Array (Option Value)} {oc7 kV7 dc7 pm7 cd7 ct7 : Value}
  {f8 : Addr} {od8 an8 : Option Addr} {sl8 : Array (Option Value)} {oc8 kV8 dc8 pm8 cd8 ct8 : Value}
  {f9 : Addr} {od9 an9 : Option Addr} {sl9 : Array (Option Value)} {oc9 kV9 dc9 pm9 cd9 ct9 : Value}
  {t_SIGNS : Tok}
  {t_MOST_SIGNS : Tok}
  {t_PIECE : Tok}
  {t_BASE : Tok}
  (a0 : PySem.W.nsIn K mainGlobals "is_name" = some (some (.ref f0)))
  (l0 : K.lookup f0 = some ⟨oc0, od0, .func (PySem.W.fnOf "is_name" "is_name" (defArgs ZJ) (defBody ZJ) (defScope ZJ) .none kV0 dc0 pm0 an0 cd0 ct0), sl0⟩)
  (e0 : PySem.W.codeIn K cd0 "is_name" = true)
  (k0 : PySem.W.keepIn K (.ref f0) = true)
  (a1 : PySem.W.nsIn K mainGlobals "pieces_of" = some (some (.ref f1)))
  (l1 : K.lookup f1 = some ⟨oc1, od1, .func (PySem.W.fnOf "pieces_of" "pieces_of" (defArgs Zj) (defBody Zj) (defScope Zj) .none kV1 dc1 pm1 an1 cd1 ct1), sl1⟩)
  (e1 : PySem.W.codeIn K cd1 "pieces_of" = true)
  (k1 : PySem.W.keepIn K (.ref f1) = true)
  (a2 : PySem.W.nsIn K mainGlobals "code_of" = some (some (.ref f2)))
  (l2 : K.lookup f2 = some ⟨oc2, od2, .func (PySem.W.fnOf "code_of" "code_of" (defArgs ZX) (defBody ZX) (defScope ZX) .none kV2 dc2 pm2 an2 cd2 ct2), sl2⟩)
  (e2 : PySem.W.codeIn K cd2 "code_of" = true)
  (k2 : PySem.W.keepIn K (.ref f2) = true)
  (a3 : PySem.W.nsIn K mainGlobals "piece_of" = some (some (.ref f3)))
  (l3 : K.lookup f3 = some ⟨oc3, od3, .func (PySem.W.fnOf "piece_of" "piece_of" (defArgs ZK) (defBody ZK) (defScope ZK) .none kV3 dc3 pm3 an3 cd3 ct3), sl3⟩)
  (e3 : PySem.W.codeIn K cd3 "piece_of" = true)
  (k3 : PySem.W.keepIn K (.ref f3) = true)
  (a4 : PySem.W.nsIn K mainGlobals "_law_digits" = some (some (.ref f4)))
  (l4 : K.lookup f4 = some ⟨oc4, od4, .func (PySem.W.fnOf "_law_digits" "_law_digits" (defArgs Zd) (defBody Zd) (defScope Zd) .none kV4 dc4 pm4 an4 cd4 ct4), sl4⟩)
  (e4 : PySem.W.codeIn K cd4 "_law_digits" = true)
  (k4 : PySem.W.keepIn K (.ref f4) = true)
  (a5 : PySem.W.nsIn K mainGlobals "_law_take" = some (some (.ref f5)))
  (l5 : K.lookup f5 = some ⟨oc5, od5, .func (PySem.W.fnOf "_law_take" "_law_take" (defArgs Zv) (defBody Zv) (defScope Zv) .none kV5 dc5 pm5 an5 cd5 ct5), sl5⟩)
  (e5 : PySem.W.codeIn K cd5 "_law_take" = true)
  (k5 : PySem.W.keepIn K (.ref f5) = true)
  (a6 : PySem.W.nsIn K mainGlobals "_law_signs" = some (some (.ref f6)))
  (l6 : K.lookup f6 = some ⟨oc6, od6, .func (PySem.W.fnOf "_law_signs" "_law_signs" (defArgs Zr) (defBody Zr) (defScope Zr) .none kV6 dc6 pm6 an6 cd6 ct6), sl6⟩)
  (e6 : PySem.W.codeIn K cd6 "_law_signs" = true)
  (k6 : PySem.W.keepIn K (.ref f6) = true)
  (a7 : PySem.W.nsIn K mainGlobals "_law_names" = some (some (.ref f7)))
  (l7 : K.lookup f7 = some ⟨oc7, od7, .func (PySem.W.fnOf "_law_names" "_law_names" (defArgs z9) (defBody z9) (defScope z9) .none kV7 dc7 pm7 an7 cd7 ct7), sl7⟩)
  (e7 : PySem.W.codeIn K cd7 "_law_names" = true)
  (k7 : PySem.W.keepIn K (.ref f7) = true)
  (a8 : PySem.W.nsIn K mainGlobals "_law_rank" = some (some (.ref f8)))
  (l8 : K.lookup f8 = some ⟨oc8, od8, .func (PySem.W.fnOf "_law_rank" "_law_rank" (defArgs Zo) (defBody Zo) (defScope Zo) .none kV8 dc8 pm8 an8 cd8 ct8), sl8⟩)
  (e8 : PySem.W.codeIn K cd8 "_law_rank" = true)
  (k8 : PySem.W.keepIn K (.ref f8) = true)
  (a9 : PySem.W.nsIn K mainGlobals "law" = some (some (.ref f9)))
  (l9 : K.lookup f9 = some ⟨oc9, od9, .func (PySem.W.fnOf "law" "law" (defArgs qH) (defBody qH) (defScope qH) .none kV9 dc9 pm9 an9 cd9 ct9), sl9⟩)
  (e9 : PySem.W.codeIn K cd9 "law" = true)
  (k9 : PySem.W.keepIn K (.ref f9) = true)
  (z_divmod : PySem.W.nsIn K mainGlobals "divmod" = some none)
  (z_len : PySem.W.nsIn K mainGlobals "len" = some none)
  (z_min : PySem.W.nsIn K mainGlobals "min" = some none)
  (z_range : PySem.W.nsIn K mainGlobals "range" = some none)
  (z_sorted : PySem.W.nsIn K mainGlobals "sorted" = some none)
  (z_tuple : PySem.W.nsIn K mainGlobals "tuple" = some none)
  (zcv : PySem.W.nsIn K mainGlobals "SIGNS" = some (some (.str "abcdefghijklmnopqrstuvwxyz0123456789" t_SIGNS)))
  (zcm : PySem.W.nsIn K mainGlobals "MOST_SIGNS" = some (some (.int 18 t_MOST_SIGNS)))
  (zcw : PySem.W.nsIn K mainGlobals "PIECE" = some (some (.int 6 t_PIECE)))
  (zcA : PySem.W.nsIn K mainGlobals "BASE" = some (some (.int 37 t_BASE))) :
  ∃ fd : FuncData, (∀ (s : Shared) (v : Value), BindsTo s fd ⟨[v], []⟩ [("_law_script", v)]) ∧ ∀ base : Heap, K.In base → base.Ns mainGlobals mg → FnOk l.prog w K mg base CX0 4 fa fd ["_law_script"] (spM K [] m_law) := by
 have e := hfa.symm.trans (PySem.W.mg_of X G a9)
 cases e
 have T : Txt K mg := { b_divmod := PySem.W.mg_none_of X G z_divmod, b_len := PySem.W.mg_none_of X G z_len, b_min := PySem.W.mg_none_of X G z_min, b_range := PySem.W.mg_none_of X G z_range, b_sorted := PySem.W.mg_none_of X G z_sorted, b_tuple := PySem.W.mg_none_of X G z_tuple, c_SIGNS := ⟨_, PySem.W.mg_of X G zcv⟩, c_MOST_SIGNS := ⟨_, PySem.W.mg_of X G zcm⟩, c_PIECE := ⟨_, PySem.W.mg_of X G zcw⟩, c_BASE := ⟨_, PySem.W.mg_of X G zcA⟩ }
 have F0 := fun_mk (st := ZJ) l0 e0 k0
 have b0 := F0.binds (ps := ["text"]) fun _ _ _ _ _ _ us hl => match us, hl with | [_], _ => rfl
 have F1 := fun_mk (st := Zj) l1 e1 k1
 have b1 := F1.binds (ps := ["name"]) fun _ _ _ _ _ _ us hl => match us, hl with | [_], _ => rfl
 have F2 := fun_mk (st := ZX) l2 e2 k2
 have b2 := F2.binds (ps := ["piece"]) fun _ _ _ _ _ _ us hl => match us, hl with | [_], _ => rfl
 have F3 := fun_mk (st := ZK) l3 e3 k3
 have b3 := F3.binds (ps := ["word"]) fun _ _ _ _ _ _ us hl => match us, hl with | [_], _ => rfl
 have F4 := fun_mk (st := Zd) l4 e4 k4
 have b4 := F4.binds (ps := ["_law_script", "_law_k"]) fun _ _ _ _ _ _ us hl => match us, hl with | [_, _], _ => rfl
 have F5 := fun_mk (st := Zv) l5 e5 k5
 have b5 := F5.binds (ps := ["_law_held", "_law_many"]) fun _ _ _ _ _ _ us hl => match us, hl with | [_, _], _ => rfl
 have F6 := fun_mk (st := Zr) l6 e6 k6
 have b6 := F6.binds (ps := []) fun _ _ _ _ _ _ us hl => match us, hl with | [], _ => rfl
 have F7 := fun_mk (st := z9) l7 e7 k7
 have b7 := F7.binds (ps := ["_law_held", "_law_many"]) fun _ _ _ _ _ _ us hl => match us, hl with | [_, _], _ => rfl
 have F8 := fun_mk (st := Zo) l8 e8 k8
 have b8 := F8.binds (ps := ["_law_name"]) fun _ _ _ _ _ _ us hl => match us, hl with | [_], _ => rfl
 have F9 := fun_mk (st := qH) l9 e9 k9
 have b9 := F9.binds (ps := ["_law_script"]) fun _ _ _ _ _ _ us hl => match us, hl with | [_], _ => rfl
 refine ⟨PySem.W.fnOf "law" "law" (defArgs qH) (defBody qH) (defScope qH) .none kV9 dc9 pm9 an9 cd9 ct9, fun s v => .of_eq rfl, fun base _ _ => ?_⟩
 have C0 := vp (P := l.prog) (w := w) (base := base) (T0 := []) ⟨F0, PySem.W.mg_of X G a0, b0⟩ T
 have C1 := JV (P := l.prog) (w := w) (base := base) (T0 := []) ⟨F1, PySem.W.mg_of X G a1, b1⟩ T
 have C2 := vG (P := l.prog) (w := w) (base := base) (T0 := []) ⟨F2, PySem.W.mg_of X G a2, b2⟩ T
 have C3 := Kf (P := l.prog) (w := w) (base := base) (T0 := []) ⟨F3, PySem.W.mg_of X G a3, b3⟩ T
 have C4 := jQ (P := l.prog) (w := w) (base := base) (T0 := []) ⟨F4, PySem.W.mg_of X G a4, b4⟩ T
 have C5 := JW (P := l.prog) (w := w) (base := base) (T0 := []) ⟨F5, PySem.W.mg_of X G a5, b5⟩ T
 have C6 := jW (P := l.prog) (w := w) (base := base) (T0 := []) ⟨F6, PySem.W.mg_of X G a6, b6⟩ T
 have C7 := jZ (P := l.prog) (w := w) (base := base) (T0 := []) ⟨F7, PySem.W.mg_of X G a7, b7⟩ T C5 C6
 have C8 := JH (P := l.prog) (w := w) (base := base) (T0 := []) ⟨F8, PySem.W.mg_of X G a8, b8⟩ T C6
 have C9 := zaX (P := l.prog) (w := w) (base := base) (T0 := []) ⟨F9, PySem.W.mg_of X G a9, b9⟩ T C0 C1 C2 C3 C4 C5 C6 C7 C8
 exact C9.G
end Cd
open PySem PySem.W PyProof.Rows
set_option maxHeartbeats 0 in
theorem PySem.Challenge.cw_chaindisk_k23_whole_names_by_their_words_holds : PySem.Challenge.rw_chaindisk_k23_whole_names_by_their_words.Holds := by
 w_on; o_law; k_head; (case hw => w_witness2)
 k_fill
 refine L2.walk_ofB (l := PySem.Challenge.rw_chaindisk_k23_whole_names_by_their_words) (n := 63) (k := 4) (x := "_law_script") (CX := fun _ => L2.CX0) (sp := fun w => Vm.spM _ [] Cd.m_law) rfl (by decide) (by first | rfl | kernel_rfl) ⟨rfl, by decide, by decide⟩ (fun w h Y => PySem.W.kIn_of Y) ?F (fun w H a ns hl hbits _ hS => let ⟨_, hm⟩ := Cd.law_holds ns hl hbits; Vm.law_start (fun _ h => nomatch h) hS hm) (fun _ _ _ _ _ h => h)
 case F =>
  intro w mg fa h KX G hmg
  refine' Cd.all_mk KX G hmg ?a0 ?l0 ?e0 ?k0 ?a1 ?l1 ?e1 ?k1 ?a2 ?l2 ?e2 ?k2 ?a3 ?l3 ?e3 ?k3 ?a4 ?l4 ?e4 ?k4 ?a5 ?l5 ?e5 ?k5 ?a6 ?l6 ?e6 ?k6 ?a7 ?l7 ?e7 ?k7 ?a8 ?l8 ?e8 ?k8 ?a9 ?l9 ?e9 ?k9 ?z_divmod ?z_len ?z_min ?z_range ?z_sorted ?z_tuple ?zcv ?zcm ?zcw ?zcA
  (case a0 => k_is); (case l0 => k_is); (case e0 => k_is); (case k0 => k_is); (case a1 => k_is); (case l1 => k_is); (case e1 => k_is); (case k1 => k_is); (case a2 => k_is); (case l2 => k_is); (case e2 => k_is); (case k2 => k_is); (case a3 => k_is); (case l3 => k_is); (case e3 => k_is); (case k3 => k_is); (case a4 => k_is); (case l4 => k_is); (case e4 => k_is); (case k4 => k_is); (case a5 => k_is); (case l5 => k_is); (case e5 => k_is); (case k5 => k_is); (case a6 => k_is); (case l6 => k_is); (case e6 => k_is); (case k6 => k_is); (case a7 => k_is); (case l7 => k_is); (case e7 => k_is); (case k7 => k_is); (case a8 => k_is); (case l8 => k_is); (case e8 => k_is); (case k8 => k_is); (case a9 => k_is); (case l9 => k_is); (case e9 => k_is); (case k9 => k_is); (case z_divmod => k_is); (case z_len => k_is); (case z_min => k_is); (case z_range => k_is); (case z_sorted => k_is); (case z_tuple => k_is); (case zcv => k_is); (case zcm => k_is); (case zcw => k_is); (case zcA => k_is)
