import PyProof.Rows.All
import Wide.All
import OpenK.AllK
import Wide.FinOn
import KE.KStateDown
import HandS.ForMost
import HandS.ForExc
import HandS.Defaults
import HandS.TupAny
import HandS.IsInst
import HandS.ExcOwn
import HandS.CallSlots
import HandS.SortInts
import HandS.More
import HandS.Style
import KE.GoesEnum
import HandS.Zip
import HandS.HeadHook1
import HandS.HeadHook2
import PyProof.ExcBaseAll.ValueError
import HandS.Iter
import HandS.Deep
import HandS.Strs
import HandS.SortKw
import KE.SortData
import KE.DataMinMax
import HandS.SetFor
import PyProof.Rows.SetFrom
import HandS.Head0
import HandS.Head1
import HandS.Head2
import PySem.Challenge.RW_lanternwatch_k33_likely_kinds
set_option Elab.async false
set_option linter.all false
set_option maxRecDepth 100000
set_option maxHeartbeats 4000000
section
namespace Dl
open PySem PySem.Spec PyProof.Rows L2

inductive D where
  | non | bl (b : Bool) | int (i : Int) | str (x : Str) | ty (n : String) | ref (a : Addr) | tup (ds : List D)
  | sc (ds : List D)
deriving Inhabited

inductive MO where
  | lst (ds : List D)
  | dik (kvs : List (Key × D))
  | ins (C : Addr) (fs : List (Str × D))
  | xfs (fs : List (Str × D))

abbrev Hd := Addr → Option MO
def up (h : Hd) (a : Addr) (o : MO) : Hd := fun b => if b = a then some o else h b
theorem up_same {h : Hd} {a : Addr} {o : MO} : up h a o a = some o := by simp [up]
theorem up_ne {h : Hd} {a b : Addr} {o : MO} (n : b ≠ a) : up h a o b = h b := by simp [up, n]

def ScL (K : PySem.W.Frag) (H : Hp) (a : Addr) (vs : List V) : Prop := (∃ o, H a = some (.frz o (.lst vs))) ∨ ∀ H', SqL K H' a vs
def okS (x : Str) : Prop := x.length ≤ sizeLine ∧ ∀ c ∈ x.cps.toList, c < 0x110000
mutual
def RD (K : PySem.W.Frag) (H : Hp) : D → V → Prop
  | .non, v => v = .non
  | .bl b, v => v = .bl b
  | .int i, v => v = .int i
  | .str x, v => v = .str x ∧ okS x
  | .ty n, v => v = .ty n
  | .ref a, v => v = .ref a
  | .tup ds, v => ∃ a vs, v = .ref a ∧ SqT K H a vs ∧ RDs K H ds vs ∧ ds.length ≤ sizeLine
  | .sc ds, v => ∃ a vs, v = .ref a ∧ ScL K H a vs ∧ RDs K H ds vs ∧ ds.length ≤ sizeLine
def RDs (K : PySem.W.Frag) (H : Hp) : List D → List V → Prop
  | [], vs => vs = []
  | d :: ds, vs => ∃ v r, vs = v :: r ∧ RD K H d v ∧ RDs K H ds r
end

def Tst (H H' : Hp) : Prop := (∀ b xs, H b = some (.tup xs) → H' b = some (.tup xs)) ∧ (∀ b o xs, H b = some (.frz o (.tup xs)) → H' b = some (.frz o (.tup xs))) ∧ ∀ b o xs, H b = some (.frz o (.lst xs)) → H' b = some (.frz o (.lst xs))
theorem Tst.refl (H : Hp) : Tst H H := ⟨fun _ _ e => e, fun _ _ _ e => e, fun _ _ _ e => e⟩
theorem Tst.trans {H H1 H2 : Hp} (a : Tst H H1) (b : Tst H1 H2) : Tst H H2 := ⟨fun x y e => b.1 x y (a.1 x y e), fun x y z e => b.2.1 x y z (a.2.1 x y z e), fun x y z e => b.2.2 x y z (a.2.2 x y z e)⟩
theorem Tst.sqT {K : PySem.W.Frag} {H H' : Hp} {a : Addr} {vs : List V} (t : Tst H H') (h : SqT K H a vs) : SqT K H' a vs := by
  rcases h with (h | ⟨o, h⟩) | h
  · exact .inl (.inl (t.1 _ _ h))
  · exact .inl (.inr ⟨o, t.2.1 _ _ _ h⟩)
  · exact .inr h
theorem Tst.scL {K : PySem.W.Frag} {H H' : Hp} {a : Addr} {vs : List V} (t : Tst H H') (h : ScL K H a vs) : ScL K H' a vs := by
  rcases h with ⟨o, h⟩ | h
  · exact .inl ⟨o, t.2.2 _ _ _ h⟩
  · exact .inr h
theorem ScL.seq {K : PySem.W.Frag} {H : Hp} {a : Addr} {vs : List V} (h : ScL K H a vs) : SqL K H a vs := by
  rcases h with ⟨o, h⟩ | h
  · exact .inl (.inr ⟨o, h⟩)
  · exact h H
theorem ScL.of {K : PySem.W.Frag} {H : Hp} {a : Addr} {vs : List V} (o : Only H) (h : SqL K H a vs) : ScL K H a vs := by
  rcases h with (h | h) | h
  · rcases o a with e | ⟨ob, xs, e⟩
    · rw [h] at e; cases e
    · rw [h] at e; cases e
  · exact .inl h
  · exact .inr fun _ => .inr h
mutual
theorem RD.mono {K : PySem.W.Frag} {H H' : Hp} (t : Tst H H') : ∀ (d : D) {v : V}, RD K H d v → RD K H' d v
  | .non, _, h => h
  | .bl _, _, h => h
  | .int _, _, h => h
  | .str _, _, h => h
  | .ty _, _, h => h
  | .ref _, _, h => h
  | .tup ds, v, h => by
    obtain ⟨a, vs, e, hs, hr, hl⟩ := h
    exact ⟨a, vs, e, t.sqT hs, RDs.mono t ds hr, hl⟩
  | .sc ds, v, h => by
    obtain ⟨a, vs, e, hs, hr, hl⟩ := h
    exact ⟨a, vs, e, t.scL hs, RDs.mono t ds hr, hl⟩
theorem RDs.mono {K : PySem.W.Frag} {H H' : Hp} (t : Tst H H') : ∀ (ds : List D) {vs : List V}, RDs K H ds vs → RDs K H' ds vs
  | [], _, h => h
  | d :: ds, vs, h => by
    obtain ⟨v, r, e, h1, h2⟩ := h
    exact ⟨v, r, e, RD.mono t d h1, RDs.mono t ds h2⟩
end
theorem RDs.length {K : PySem.W.Frag} {H : Hp} : ∀ {ds : List D} {vs : List V}, RDs K H ds vs → vs.length = ds.length
  | [], _, h => by have e : _ = [] := h; rw [e]; rfl
  | d :: ds, vs, h => by
    obtain ⟨v, r, e, _, h2⟩ := h
    rw [e, List.length_cons, List.length_cons, RDs.length h2]
theorem RDs.get {K : PySem.W.Frag} {H : Hp} : ∀ {ds : List D} {vs : List V} {i : Nat} {d : D}, RDs K H ds vs → ds[i]? = some d → ∃ v, vs[i]? = some v ∧ RD K H d v
  | [], _, _, _, _, e => by simp at e
  | d :: ds, vs, 0, _, h, e => by
    obtain ⟨v, r, e', h1, h2⟩ := h
    simp at e; subst e; subst e'
    exact ⟨v, rfl, h1⟩
  | d :: ds, vs, i + 1, x, h, e => by
    obtain ⟨v, r, e', h1, h2⟩ := h
    subst e'
    obtain ⟨u, h3, h4⟩ := RDs.get (i := i) (d := x) h2 (by simpa using e)
    exact ⟨u, by simpa using h3, h4⟩
theorem RDs.get' {K : PySem.W.Frag} {H : Hp} : ∀ {ds : List D} {vs : List V} {i : Nat} {v : V}, RDs K H ds vs → vs[i]? = some v → ∃ d, ds[i]? = some d ∧ RD K H d v
  | [], vs, i, v, h, e => by have z : vs = [] := h; subst z; simp at e
  | d :: ds, vs, 0, v, h, e => by
    obtain ⟨w, r, e', h1, h2⟩ := h
    subst e'; simp at e; subst e
    exact ⟨d, rfl, h1⟩
  | d :: ds, vs, i + 1, v, h, e => by
    obtain ⟨w, r, e', h1, h2⟩ := h
    subst e'
    obtain ⟨x, h3, h4⟩ := RDs.get' (i := i) (v := v) h2 (by simpa using e)
    exact ⟨x, by simpa using h3, h4⟩
theorem RDs.append {K : PySem.W.Frag} {H : Hp} : ∀ {ds es : List D} {vs us : List V}, RDs K H ds vs → RDs K H es us → RDs K H (ds ++ es) (vs ++ us)
  | [], _, _, _, h, g => by have z : _ = [] := h; subst z; exact g
  | d :: ds, _, _, _, h, g => by
    obtain ⟨w, r, e', h1, h2⟩ := h
    subst e'
    exact ⟨w, _, rfl, h1, RDs.append h2 g⟩
theorem RDs.one {K : PySem.W.Frag} {H : Hp} {d : D} {v : V} (h : RD K H d v) : RDs K H [d] [v] := ⟨v, [], rfl, h, rfl⟩
theorem RDs.take {K : PySem.W.Frag} {H : Hp} : ∀ (n : Nat) {ds : List D} {vs : List V}, RDs K H ds vs → RDs K H (ds.take n) (vs.take n)
  | 0, _, _, _ => by simp [RDs]
  | n + 1, [], _, h => by have z : _ = [] := h; subst z; simp [RDs]
  | n + 1, d :: ds, _, h => by
    obtain ⟨w, r, e', h1, h2⟩ := h
    subst e'
    exact ⟨w, _, rfl, h1, RDs.take n h2⟩
theorem RDs.drop {K : PySem.W.Frag} {H : Hp} : ∀ (n : Nat) {ds : List D} {vs : List V}, RDs K H ds vs → RDs K H (ds.drop n) (vs.drop n)
  | 0, _, _, h => h
  | n + 1, [], _, h => by have z : _ = [] := h; subst z; simp [RDs]
  | n + 1, d :: ds, _, h => by
    obtain ⟨w, r, e', h1, h2⟩ := h
    subst e'
    exact RDs.drop n h2
theorem RDs.set {K : PySem.W.Frag} {H : Hp} {d : D} {v : V} (hd : RD K H d v) : ∀ (n : Nat) {ds : List D} {vs : List V}, RDs K H ds vs → RDs K H (ds.set n d) (vs.set n v)
  | _, [], _, h => by have z : _ = [] := h; subst z; simp [RDs]
  | 0, _ :: ds, _, h => by
    obtain ⟨w, r, e', h1, h2⟩ := h
    subst e'
    exact ⟨v, _, rfl, hd, h2⟩
  | n + 1, _ :: ds, _, h => by
    obtain ⟨w, r, e', h1, h2⟩ := h
    subst e'
    exact ⟨w, _, rfl, h1, RDs.set hd n h2⟩

def RFs {κ : Type} (K : PySem.W.Frag) (H : Hp) : List (κ × D) → List (κ × V) → Prop
  | [], fv => fv = []
  | (f, d) :: fs, fv => ∃ v r, fv = (f, v) :: r ∧ RD K H d v ∧ RFs K H fs r
theorem RFs.mono {κ : Type} {K : PySem.W.Frag} {H H' : Hp} (t : Tst H H') : ∀ {fs : List (κ × D)} {fv : List (κ × V)}, RFs K H fs fv → RFs K H' fs fv
  | [], _, h => h
  | (f, d) :: fs, fv, h => by
    obtain ⟨v, r, e, h1, h2⟩ := h
    exact ⟨v, r, e, RD.mono t d h1, RFs.mono t h2⟩

def RO (K : PySem.W.Frag) (H : Hp) (a : Addr) : MO → Prop
  | .lst ds => ∃ vs, H a = some (.lst vs) ∧ RDs K H ds vs ∧ ds.length ≤ sizeLine
  | .dik kvs => ∃ kv, H a = some (.dK kv) ∧ RFs K H kvs kv
  | .ins C fs => ∃ dx fv, H a = some (.ins C dx fv) ∧ RFs K H fs fv
  | .xfs fs => ∃ fv, H a = some (.xd fv) ∧ RFs K H fs fv
def RH (K : PySem.W.Frag) (H : Hp) (h : Hd) : Prop := ∀ a o, h a = some o → RO K H a o
abbrev DEnv := List (Option D)
def RS (K : PySem.W.Frag) (H : Hp) (ρ : DEnv) (σ : L2.St) : Prop := ρ.length = σ.length ∧ ∀ (i : Nat) d, ρ[i]? = some (some d) → ∃ v, σ[i]? = some (some v) ∧ RD K H d v
structure Rel (K : PySem.W.Frag) (ρ : DEnv) (h : Hd) (σ : L2.St) (H : Hp) : Prop where
  s : RS K H ρ σ
  h : RH K H h
theorem RS.mono {K : PySem.W.Frag} {H H' : Hp} {ρ : DEnv} {σ : L2.St} (t : Tst H H') (r : RS K H ρ σ) : RS K H' ρ σ :=
  ⟨r.1, fun i d e => let ⟨v, h1, h2⟩ := r.2 i d e; ⟨v, h1, RD.mono t d h2⟩⟩
theorem RS.set {K : PySem.W.Frag} {H : Hp} {ρ : DEnv} {σ : L2.St} {d : D} {v : V} (r : RS K H ρ σ) (i : Nat) (q : RD K H d v) : RS K H (ρ.set i (some d)) (σ.set i (some v)) := by
  refine ⟨by simp [r.1], fun j x e => ?_⟩
  by_cases hj : i = j
  · subst hj
    by_cases hl : i < ρ.length
    · rw [List.getElem?_set_self hl] at e
      obtain rfl : d = x := by simpa using e
      exact ⟨v, by rw [List.getElem?_set_self (by rw [← r.1]; exact hl)], q⟩
    · rw [List.getElem?_eq_none (by simp; omega)] at e; cases e
  · rw [List.getElem?_set_ne hj] at e
    obtain ⟨w, h1, h2⟩ := r.2 j x e
    exact ⟨w, by rw [List.getElem?_set_ne hj]; exact h1, h2⟩
theorem RS.wipe {K : PySem.W.Frag} {H : Hp} {ρ : DEnv} {σ : L2.St} (r : RS K H ρ σ) (i : Nat) : RS K H (ρ.set i none) (σ.set i none) := by
  refine ⟨by simp [r.1], fun j x e => ?_⟩
  by_cases hj : i = j
  · subst hj
    by_cases hl : i < ρ.length
    · rw [List.getElem?_set_self hl] at e; cases e
    · rw [List.getElem?_eq_none (by simp; omega)] at e; cases e
  · rw [List.getElem?_set_ne hj] at e
    obtain ⟨w, h1, h2⟩ := r.2 j x e
    exact ⟨w, by rw [List.getElem?_set_ne hj]; exact h1, h2⟩

theorem RO.keep {K : PySem.W.Frag} {H H' : Hp} {a : Addr} {o : MO} (t : Tst H H') (k : ∀ u, H a = some u → H' a = some u) (r : RO K H a o) : RO K H' a o := by
  cases o with
  | lst ds => obtain ⟨vs, e, q, hl⟩ := r; exact ⟨vs, k _ e, RDs.mono t _ q, hl⟩
  | dik kvs => obtain ⟨kv, e, q⟩ := r; exact ⟨kv, k _ e, RFs.mono t q⟩
  | ins C fs => obtain ⟨dx, fv, e, q⟩ := r; exact ⟨dx, fv, k _ e, RFs.mono t q⟩
  | xfs fs => obtain ⟨fv, e, q⟩ := r; exact ⟨fv, k _ e, RFs.mono t q⟩
theorem RH.none_of {K : PySem.W.Frag} {H : Hp} {h : Hd} {a : Addr} (r : RH K H h) (n : H a = none) : h a = none := by
  cases e : h a with
  | none => rfl
  | some o =>
    have q := r a o e
    cases o with
    | lst ds => obtain ⟨vs, e, _⟩ := q; rw [n] at e; cases e
    | dik kvs => obtain ⟨kv, e, _⟩ := q; rw [n] at e; cases e
    | ins C fs => obtain ⟨dx, fv, e, _⟩ := q; rw [n] at e; cases e
    | xfs fs => obtain ⟨fv, e, _⟩ := q; rw [n] at e; cases e
theorem tst_new {H : Hp} {a : Addr} {u : HO} (n : H a = none) : Tst H (upd H a u) := by
  refine ⟨fun b xs e => ?_, fun b o xs e => ?_, fun b o xs e => ?_⟩
  · rw [upd_ne (ne_of_none e n)]; exact e
  · rw [upd_ne (ne_of_none e n)]; exact e
  · rw [upd_ne (ne_of_none e n)]; exact e
def Wr : HO → Prop
  | .tup _ => False
  | .frz _ _ => False
  | _ => True
theorem tst_upd {H : Hp} {a : Addr} {u u' : HO} (e : H a = some u') (w : Wr u') : Tst H (upd H a u) := by
  refine ⟨fun b xs q => ?_, fun b o xs q => ?_, fun b o xs q => ?_⟩
  all_goals
    by_cases z : b = a
    · subst z; rw [e] at q; cases q; exact w.elim
    · rw [upd_ne z]; exact q
theorem RH.tup {K : PySem.W.Frag} {H : Hp} {h : Hd} {a : Addr} {xs : List V} (r : RH K H h) (n : H a = none) : RH K (upd H a (.tup xs)) h := fun b o e =>
  (r b o e).keep (tst_new n) fun u q => by rw [upd_ne (ne_of_none q n)]; exact q
theorem RH.new {K : PySem.W.Frag} {H : Hp} {h : Hd} {a : Addr} {u : HO} {o : MO} (r : RH K H h) (n : H a = none) (q : RO K (upd H a u) a o) : RH K (upd H a u) (up h a o) := fun b o' e => by
  by_cases z : b = a
  · subst z
    rw [up_same] at e; cases e; exact q
  · rw [up_ne z] at e
    exact (r b o' e).keep (tst_new n) fun w q => by rw [upd_ne z]; exact q
theorem RH.upd {K : PySem.W.Frag} {H : Hp} {h : Hd} {a : Addr} {u : HO} {o : MO} (r : RH K H h) (t : Tst H (upd H a u)) (q : RO K (upd H a u) a o) : RH K (upd H a u) (up h a o) := fun b o' e => by
  by_cases z : b = a
  · subst z
    rw [up_same] at e; cases e; exact q
  · rw [up_ne z] at e
    exact (r b o' e).keep t fun w q => by rw [upd_ne z]; exact q

abbrev DK := D → Hd → Prop
abbrev DTE := DEnv → Hd → DK → Prop
abbrev DTT := DEnv → Hd → (Bool → Hd → Prop) → Prop
abbrev DTA := DEnv → Hd → (List D → Hd → Prop) → Prop
structure DEnds where
  nx : DEnv → Hd → Prop
  rt : DK
  bk : DEnv → Hd → Prop := fun _ _ => False
  ct : DEnv → Hd → Prop := fun _ _ => False
abbrev DTS := DEnds → DEnv → Hd → Prop
abbrev DXK := Value → List (Str × D) → Hd → Prop
abbrev DWX := Value → List (Str × D) → DEnv → Hd → Prop
abbrev DSp := List D → Hd → DK → DXK → Prop

def UpE (K : PySem.W.Frag) (H : Hp) (Qd : DK) (Q : VK) : Prop := ∀ d h', Qd d h' → ∀ v H', RD K H' d v → RH K H' h' → Tst H H' → Q v H'
def UpS (K : PySem.W.Frag) (H : Hp) (Qd : DEnv → Hd → Prop) (Q : L2.St → Hp → Prop) : Prop := ∀ ρ h, Qd ρ h → ∀ σ H', Rel K ρ h σ H' → Tst H H' → Q σ H'
theorem UpE.at {K : PySem.W.Frag} {H H1 : Hp} {Qd : DK} {Q : VK} (u : UpE K H Qd Q) (t : Tst H H1) : UpE K H1 Qd Q := fun d h' q v H' r1 r2 t2 => u d h' q v H' r1 r2 (t.trans t2)
theorem UpS.at {K : PySem.W.Frag} {H H1 : Hp} {Qd : DEnv → Hd → Prop} {Q : L2.St → Hp → Prop} (u : UpS K H Qd Q) (t : Tst H H1) : UpS K H1 Qd Q := fun ρ h q σ H' r t2 => u ρ h q σ H' r (t.trans t2)
def liftE (K : PySem.W.Frag) (t : DTE) : TE := fun σ H Q => ∃ ρ h Qd, Rel K ρ h σ H ∧ t ρ h Qd ∧ UpE K H Qd Q
def liftT (K : PySem.W.Frag) (t : DTT) : TT := fun σ H Q => ∃ ρ h Qd, Rel K ρ h σ H ∧ t ρ h Qd ∧ ∀ b h', Qd b h' → ∀ H', RH K H' h' → Tst H H' → Q b H'
def liftA (K : PySem.W.Frag) (t : DTA) : TA := fun σ H Q => ∃ ρ h Qd, Rel K ρ h σ H ∧ t ρ h Qd ∧ ∀ ds h', Qd ds h' → ∀ vs H', RDs K H' ds vs → RH K H' h' → Tst H H' → Q vs H'
structure UpD (K : PySem.W.Frag) (H : Hp) (Dd : DEnds) (D : Ends) : Prop where
  nx : UpS K H Dd.nx D.nx
  rt : UpE K H Dd.rt D.rt
  bk : UpS K H Dd.bk D.bk
  ct : UpS K H Dd.ct D.ct
theorem UpD.at {K : PySem.W.Frag} {H H1 : Hp} {Dd : DEnds} {D : Ends} (u : UpD K H Dd D) (t : Tst H H1) : UpD K H1 Dd D := ⟨u.nx.at t, u.rt.at t, u.bk.at t, u.ct.at t⟩
def liftS (K : PySem.W.Frag) (t : DTS) : TS := fun D σ H => ∃ ρ h Dd, Rel K ρ h σ H ∧ t Dd ρ h ∧ UpD K H Dd D
def RX (K : PySem.W.Frag) (H : Hp) (fs : List (Str × D)) (od : Option Addr) : Prop := match od with
  | none => fs = []
  | some d => ∃ fv, H d = some (.xd fv) ∧ RFs K H fs fv
def liftW (K : PySem.W.Frag) (W : DWX) : WX := fun cls od σ H => ∃ fs ρ h, Rel K ρ h σ H ∧ RX K H fs od ∧ W cls fs ρ h
def liftSp (K : PySem.W.Frag) (sp : DSp) : Sp := fun vs H Q E => ∃ ds h Qd Ed, RDs K H ds vs ∧ RH K H h ∧ sp ds h Qd Ed ∧ UpE K H Qd Q ∧
  ∀ cls fs h', Ed cls fs h' → ∀ od H', RX K H' fs od → RH K H' h' → Tst H H' → E cls od H'
theorem Rel.at {K : PySem.W.Frag} {ρ : DEnv} {h h' : Hd} {σ : L2.St} {H H' : Hp} (r : Rel K ρ h σ H) (t : Tst H H') (q : RH K H' h') : Rel K ρ h' σ H' := ⟨r.s.mono t, q⟩

theorem impE {X : Cx} {e : Expr} {t t' : TE} (p : PE X e t) (h : ∀ σ H Q, t' σ H Q → t σ H Q) : PE X e t' := ⟨fun pins s σ H Q I q => p.run pins s σ H Q I (h σ H Q q)⟩
theorem impT {X : Cx} {e : Expr} {t t' : TT} (p : PT X e t) (h : ∀ σ H Q, t' σ H Q → t σ H Q) : PT X e t' := ⟨fun pins s σ H Q I q => p.run pins s σ H Q I (h σ H Q q)⟩
theorem impW {X : Cx} {e : Expr} {t t' : TT} (p : PW X e t) (h : ∀ σ H Q, t' σ H Q → t σ H Q) : PW X e t' := ⟨fun w pins s σ H Q I q => p.run w pins s σ H Q I (h σ H Q q)⟩
theorem impA {X : Cx} {es : List Expr} {t t' : TA} (p : PA X es t) (h : ∀ σ H Q, t' σ H Q → t σ H Q) : PA X es t' := ⟨fun pos pins s σ H Q I q => p.run pos pins s σ H Q I (h σ H Q q)⟩
theorem impS {X : Cx} {st : Stmt} {t t' : TS} (p : PS X st t) (h : ∀ D σ H, t' D σ H → t D σ H) : PS X st t' := ⟨fun pins s σ H D I q => p.run pins s σ H D I (h D σ H q)⟩
theorem impSs {X : Cx} {st : List Stmt} {t t' : TS} (p : PSs X st t) (h : ∀ D σ H, t' D σ H → t D σ H) : PSs X st t' := ⟨fun pins s σ H D I q => p.run pins s σ H D I (h D σ H q)⟩
end Dl
end
section
namespace Dl
open PySem PySem.Spec PyProof.Rows L2

def okB (x : Str) : Bool := decide (x.length ≤ 1000) && x.cps.toList.all fun c => decide (c < 0x110000)
theorem okB_ok {x : Str} (h : okB x = true) : okS x := by
  unfold okB at h
  rw [Bool.and_eq_true] at h
  refine ⟨?_, fun c hc => ?_⟩
  · have := of_decide_eq_true h.1
    rw [sizeLine_eq]; omega
  · exact of_decide_eq_true (List.all_eq_true.mp h.2 c hc)
theorem okS.app {a b : Str} (ha : okS a) (hb : okS b) (h : a.length + b.length ≤ sizeLine) : okS (a ++ b) := by
  refine ⟨?_, fun c hc => ?_⟩
  · show (a.cps ++ b.cps).size ≤ _
    rw [Array.size_append]; exact h
  · have e : (a ++ b).cps.toList = a.cps.toList ++ b.cps.toList := by
      show (a.cps ++ b.cps).toList = _
      rw [Array.toList_append]
    rw [e, List.mem_append] at hc
    exact hc.elim (ha.2 c) (hb.2 c)
def dget : DEnv → Nat → Option D
  | [], _ => none
  | x :: _, 0 => x
  | _ :: r, n + 1 => dget r n
theorem dget_some : ∀ {ρ : DEnv} {i : Nat} {d : D}, dget ρ i = some d → ρ[i]? = some (some d)
  | [], _, _, h => by cases h
  | x :: _, 0, d, h => by have e : x = some d := h; simp [e]
  | _ :: r, n + 1, d, h => by simpa using dget_some (ρ := r) (i := n) h
def dVar (i : Nat) : DTE := fun ρ h Q => match dget ρ i with
  | some d => Q d h
  | none => False
def dC (d : D) : DTE := fun _ h Q => Q d h
section
variable {X : Cx} {pos : Pos}
theorem e_var {i : Nat} {x : Str} (hN : X.N[i]? = some x := by rfl) (hv : Vis X.env.scope x := by first | exact Or.inl rfl | exact Or.inr (Or.inl rfl) | exact Or.inr (Or.inr rfl)) (hd : (x == ("__debug__" : Str)) = false := by decide) (hcd : (x == ("__classdict__" : Str)) = false := by decide) :
    PE X (.Name x pos) (liftE X.K (dVar i)) := impE (pe_var (i := i) hN hv hd hcd) fun σ H Q ⟨ρ, h, Qd, rel, q, u⟩ => by
  unfold dVar at q
  cases e : dget ρ i with
  | none => rw [e] at q; exact q.elim
  | some d =>
    rw [e] at q
    obtain ⟨v, h1, h2⟩ := rel.s.2 i d (dget_some e)
    exact ⟨v, h1, u d h q v H h2 rel.h (Tst.refl H)⟩
theorem e_c {e : Expr} {v : V} {d : D} (p : PE X e (tC v)) (r : ∀ H, RD X.K H d v) : PE X e (liftE X.K (dC d)) := impE p fun σ H Q ⟨ρ, h, Qd, rel, q, u⟩ => u d h q v H (r H) rel.h (Tst.refl H)
theorem e_int {i : Int} {j} : PE X (.Constant (.int i) j pos) (liftE X.K (dC (.int i))) := e_c pe_int fun _ => rfl
theorem e_bl {b j} : PE X (.Constant (.bool b) j pos) (liftE X.K (dC (.bl b))) := e_c pe_bl fun _ => rfl
theorem e_non {j} : PE X (.Constant .none j pos) (liftE X.K (dC .non)) := e_c pe_non fun _ => rfl
theorem e_str {x : Str} {j} (hl : okB x = true := by decide +kernel) : PE X (.Constant (.str x) j pos) (liftE X.K (dC (.str x))) := e_c pe_str fun _ => ⟨rfl, okB_ok hl⟩
theorem e_glob {x : Str} {v : V} {d : D} {u : Value} (hg : Gl X x) (hm : X.mg x = some u) (r : RelV v u) (rd : ∀ H, RD X.K H d v) (hd : (x == ("__debug__" : Str)) = false := by decide) : PE X (.Name x pos) (liftE X.K (dC d)) := e_c (pe_glob hg hm r hd) rd
theorem e_ty {x : Str} {n : String} (hg : Gl X x) (hm : X.mg x = none) (hv : bootBuiltins x = some (.type n)) (hn : x ≠ "__name__" := by decide) (hd : (x == ("__debug__" : Str)) = false := by decide) : PE X (.Name x pos) (liftE X.K (dC (.ty n))) := e_c (pe_bltn (v := .ty n) hg hm hv rfl hn hd) fun _ => rfl
end

abbrev DR2 := D → D → Hd → DK → Prop
def dOp (r : DR2) (ta tb : DTE) : DTE := fun ρ h Q => ta ρ h fun x h1 => tb ρ h1 fun y h2 => r x y h2 Q
def Imp2 (K : PySem.W.Frag) (rd : DR2) (r : R2) : Prop := ∀ xd yd h Qd x y H Q, RD K H xd x → RD K H yd y → RH K H h → rd xd yd h Qd → UpE K H Qd Q → r x y H Q
section
variable {X : Cx} {a b : Expr} {ta tb : DTE} {pos : Pos}
theorem op2 {r : R2} {rd : DR2} {e : Expr} (p : PE X e (tOp r (liftE X.K ta) (liftE X.K tb))) (im : Imp2 X.K rd r) : PE X e (liftE X.K (dOp rd ta tb)) :=
  impE p fun σ H Q ⟨ρ, h, Qd, rel, q, u⟩ => ⟨ρ, h, _, rel, q, fun x h1 q1 v1 H1 r1 g1 t1 => ⟨ρ, h1, _, rel.at t1 g1, q1, fun y h2 q2 v2 H2 r2 g2 t2 => im x y h2 Qd v1 v2 H2 Q (r1.mono t2) r2 g2 q2 (u.at (t1.trans t2))⟩⟩
theorem e_op {op : Operator} {r : R2} {rd : DR2} (ho : OpR X (binaryOp op) r) (im : Imp2 X.K rd r) (ha : PE X a (liftE X.K ta)) (hb : PE X b (liftE X.K tb)) : PE X (.BinOp a op b pos) (liftE X.K (dOp rd ta tb)) := op2 (pe_op ho ha hb) im
theorem e_cmp {op : CmpOp} {r : R2} {rd : DR2} (ho : OpR X (compareOp op) r) (im : Imp2 X.K rd r) (ha : PE X a (liftE X.K ta)) (hb : PE X b (liftE X.K tb)) (hm : behindInMarks op b = false) : PE X (.Compare a [op] [b] pos) (liftE X.K (dOp rd ta tb)) := op2 (pe_cmpR ho ha hb hm) im
end

def addD : DR2
  | .int i, .int j, h, Q => Q (.int (i + j)) h
  | .str a, .str b, h, Q => a.length + b.length ≤ sizeLine ∧ Q (.str (a ++ b)) h
  | .tup a, .tup b, h, Q => a.length + b.length ≤ sizeLine ∧ Q (.tup (a ++ b)) h
  | .ref a, .ref b, h, Q => ∃ xs ys, h a = some (.lst xs) ∧ h b = some (.lst ys) ∧ xs.length + ys.length ≤ sizeLine ∧ ∀ p, h p = none → Q (.ref p) (up h p (.lst (xs ++ ys)))
  | _, _, _, _ => False
theorem lst_of {K : PySem.W.Frag} {H : Hp} {h : Hd} {a : Addr} {ds : List D} (r : RH K H h) (e : h a = some (.lst ds)) : ∃ vs, H a = some (.lst vs) ∧ RDs K H ds vs ∧ ds.length ≤ sizeLine := r a _ e
theorem RDs.nil_iff {K : PySem.W.Frag} {H : Hp} {ds : List D} {vs : List V} (h : RDs K H ds vs) : vs = [] ↔ ds = [] := by
  have := h.length
  constructor
  · intro e; rw [e] at this; exact List.length_eq_zero_iff.mp this.symm
  · intro e; rw [e] at this; exact List.length_eq_zero_iff.mp this
theorem up_lst {K : PySem.W.Frag} {H : Hp} {h : Hd} {Qd : DK} {Q : VK} {ds : List D} {vs : List V} (u : UpE K H Qd Q) (r : RH K H h) (rs : RDs K H ds vs) (hl : ds.length ≤ sizeLine) (q : ∀ p, h p = none → Qd (.ref p) (up h p (.lst ds))) (p : Addr) (n : H p = none) : Q (.ref p) (upd H p (.lst vs)) :=
  u (.ref p) _ (q p (r.none_of n)) (.ref p) _ rfl (r.new n ⟨vs, upd_same, rs.mono (tst_new n), hl⟩) (tst_new n)
theorem up_tup {K : PySem.W.Frag} {H : Hp} {h : Hd} {Qd : DK} {Q : VK} {ds : List D} {vs : List V} (u : UpE K H Qd Q) (r : RH K H h) (rs : RDs K H ds vs) (hl : ds.length ≤ sizeLine) (q : Qd (.tup ds) h) (p : Addr) (n : H p = none) : Q (.ref p) (upd H p (.tup vs)) :=
  u (.tup ds) h q (.ref p) _ ⟨p, vs, rfl, SqT.of upd_same, rs.mono (tst_new n), hl⟩ (r.tup n) (tst_new n)
def rAddV (K : PySem.W.Frag) : R2 := fun x y H Q => rI0 (fun i j => .int (i + j)) x y H Q ∨ (∃ i j, x = .str i ∧ y = .str j ∧ i.length + j.length ≤ sizeLine ∧ Q (.str (i ++ j)) H) ∨ rCatA K x y H Q ∨ rCat x y H Q
theorem op_addD {X : Cx} : OpR X (binaryOp .Add) (rAddV X.K) := OpR.or op_add (OpR.or op_add_str (OpR.or op_catA op_cat))
theorem im_add {K : PySem.W.Frag} : Imp2 K addD (rAddV K) := fun xd yd h Qd x y H Q r1 r2 rh q u => by
  cases xd <;> cases yd <;> first | exact (q : False).elim | skip
  case int.int i j =>
    obtain rfl : x = .int i := r1
    obtain rfl : y = .int j := r2
    exact .inl ⟨i, j, rfl, rfl, u _ _ q _ _ rfl rh (Tst.refl H)⟩
  case str.str a b =>
    obtain ⟨rfl, l1⟩ : x = .str a ∧ _ := r1
    obtain ⟨rfl, l2⟩ : y = .str b ∧ _ := r2
    exact .inr (.inl ⟨a, b, rfl, rfl, q.1, u _ _ q.2 _ _ ⟨rfl, l1.app l2 q.1⟩ rh (Tst.refl H)⟩)
  case ref.ref a b =>
    obtain rfl : x = .ref a := r1
    obtain rfl : y = .ref b := r2
    obtain ⟨xs, ys, e1, e2, hl, q⟩ := q
    obtain ⟨vs, f1, g1, l1⟩ := lst_of rh e1
    obtain ⟨ws, f2, g2, l2⟩ := lst_of rh e2
    exact .inr (.inr (.inr ⟨a, b, vs, ws, rfl, rfl, f1, f2, by rw [g1.length, g2.length]; exact hl, up_lst u rh (g1.append g2) (by rw [List.length_append]; exact hl) q⟩))
  case tup.tup xs ys =>
    obtain ⟨a, vs, rfl, s1, g1, l1⟩ := id r1
    obtain ⟨b, ws, rfl, s2, g2, l2⟩ := id r2
    obtain ⟨hl, q⟩ := q
    refine .inr (.inr (.inl ⟨a, b, vs, ws, rfl, rfl, s1, s2, by rw [g1.length, g2.length]; exact hl, fun e => ?_, fun _ e => ?_, fun _ _ => up_tup u rh (g1.append g2) (by rw [List.length_append]; exact hl) q⟩))
    · have z : xs = [] := g1.nil_iff.mp e
      subst z
      exact u _ _ q _ _ r2 rh (Tst.refl H)
    · have z : ys = [] := g2.nil_iff.mp e
      subst z
      rw [List.append_nil] at q
      exact u _ _ q _ _ r1 rh (Tst.refl H)

def intD (C : Int → Int → Prop) (g : Int → Int → D) : DR2
  | .int i, .int j, h, Q => C i j ∧ Q (g i j) h
  | _, _, _, _ => False
def intD0 (g : Int → Int → D) : DR2
  | .int i, .int j, h, Q => Q (g i j) h
  | _, _, _, _ => False
theorem im_int {K : PySem.W.Frag} {C : Int → Int → Prop} {g : Int → Int → D} {gv : Int → Int → V} (e : ∀ i j H, RD K H (g i j) (gv i j)) : Imp2 K (intD C g) (rI C gv) := fun xd yd h Qd x y H Q r1 r2 rh q u => by
  cases xd <;> cases yd <;> first | exact (q : False).elim | skip
  obtain ⟨c, q⟩ := q
  exact ⟨_, _, r1, r2, c, u _ _ q _ _ (e _ _ _) rh (Tst.refl H)⟩
theorem im_int0 {K : PySem.W.Frag} {g : Int → Int → D} {gv : Int → Int → V} (e : ∀ i j H, RD K H (g i j) (gv i j)) : Imp2 K (intD0 g) (rI0 gv) := fun xd yd h Qd x y H Q r1 r2 rh q u => by
  cases xd <;> cases yd <;> first | exact (q : False).elim | skip
  exact ⟨_, _, r1, r2, u _ _ q _ _ (e _ _ _) rh (Tst.refl H)⟩
def subD : DR2 := intD0 fun i j => .int (i - j)
def fdivD : DR2 := intD CDiv fun i j => .int (i / j)
def modD : DR2 := intD (fun _ j => 0 < j) fun i j => .int (i % j)
def powD : DR2 := intD CPow fun i j => .int (i ^ j.toNat)
@[irreducible] def shlD : DR2 := intD CPow fun i j => .int (i * 2 ^ j.toNat)
def shrD : DR2 := intD (fun _ j => 0 ≤ j) fun i j => .int (i / 2 ^ j.toNat)
def andD : DR2 := intD0 fun i j => .int (Builtin.bitAnd i j)
def ltD : DR2 := intD0 fun i j => .bl (decide (i < j))
def leD : DR2 := intD0 fun i j => .bl (decide (i ≤ j))
def gtD : DR2 := intD0 fun i j => .bl (decide (j < i))
def geD : DR2 := intD0 fun i j => .bl (decide (j ≤ i))
def strRep (z : Str) (k : Nat) : Str := ⟨(List.replicate k z.cps.toList).flatten.toArray⟩
def mulD : DR2
  | .int i, .int j, h, Q => CMul i j ∧ Q (.int (i * j)) h
  | .ref a, .int k, h, Q => ∃ xs, h a = some (.lst xs) ∧ (-(2 ^ 63) ≤ k ∧ k < 2 ^ 63) ∧ xs.length * k.toNat ≤ sizeLine ∧ ∀ p, h p = none → Q (.ref p) (up h p (.lst (List.replicate k.toNat xs).flatten))
  | .str z, .int k, h, Q => (1 ≤ k ∧ k ≤ 1000 ∧ z.length ≤ 1000) ∧ Q (.str (strRep z k.toNat)) h
  | _, _, _, _ => False
def rMulS : R2 := fun x y H Q => ∃ z k, x = .str z ∧ y = .int k ∧ (1 ≤ k ∧ k ≤ 1000 ∧ z.length ≤ 1000) ∧ Q (.str (strRep z k.toNat)) H
theorem foldl_app (l : List (Array Nat)) : ∀ acc : Array Nat, l.foldl (fun a b => a ++ b) acc = acc ++ (l.map (·.toList)).flatten.toArray := by
  induction l with
  | nil => intro acc; simp
  | cons x r ih =>
    intro acc
    rw [List.foldl_cons, ih, List.map_cons, List.flatten_cons, Array.append_assoc]
    congr 1
    apply Array.toList_inj.mp
    simp
theorem mul_rep {z : Str} {k : Int} (h1 : 1 ≤ k) : Txt.mul z k = strRep z k.toNat := by
  unfold Txt.mul
  rw [if_neg (by omega)]
  by_cases e : (k == 1 || z.length == 0) = true
  · rw [if_pos e]
    rw [Bool.or_eq_true] at e
    rcases e with e | e
    · have e' : k = 1 := by simpa using e
      subst e'
      simp [strRep]
    · have e' : z.cps.size = 0 := by simpa [Str.length] using e
      have z0 : z.cps = #[] := by simpa using e'
      have zz : z = ⟨#[]⟩ := by cases z; simp_all
      subst zz
      simp [strRep]
  · rw [if_neg e, foldl_app]
    simp [strRep, List.map_replicate]
theorem op_mul_str {X : Cx} : OpR X (binaryOp .Mult) rMulS := fun pins s σ H x y v u Q I rx ry q => by
  obtain ⟨z, k, rfl, rfl, ⟨h1, h2, h3⟩, q⟩ := q
  obtain ⟨t, rfl⟩ := rx
  obtain ⟨t', rfl⟩ := ry
  have ok : MulOk z k := by
    refine ⟨by simp; omega, fun _ _ => ?_, fun _ _ => ?_⟩
    · have e : (2 ^ 63 - 1 : Int) / k * k ≤ 2 ^ 63 - 1 := Int.ediv_mul_le _ (by omega)
      have e2 : (2 ^ 63 - 1 : Int) < ((2 ^ 63 - 1) / k + 1) * k := Int.lt_ediv_add_one_mul_self _ (by omega)
      intro hc
      have hq : (2 ^ 63 - 1 : Int) / k + 1 ≤ 1000 := by have : (z.length : Int) ≤ 1000 := by omega
                                                        omega
      have e3 : ((2 ^ 63 - 1 : Int) / k + 1) * k ≤ 1000 * 1000 := Int.le_trans (Int.mul_le_mul_of_nonneg_right hq (by omega)) (by omega)
      omega
    · have : z.length * k.toNat ≤ 1000 * 1000 := Nat.mul_le_mul h3 (by omega)
      simp [Builtin.Str.tooLong, sizeLine_eq]; omega
  exact SB.mul ok fun t2 k2 => ⟨.str (strRep z k.toNat), H, I.tok k2, ⟨t2, by rw [mul_rep h1]⟩, q⟩
def rMulV : R2 := fun x y H Q => rI CMul (fun i j => .int (i * j)) x y H Q ∨ rRep x y H Q ∨ rMulS x y H Q
theorem op_mulD {X : Cx} : OpR X (binaryOp .Mult) rMulV := OpR.or op_mul (OpR.or op_rep op_mul_str)
theorem okS.rep {z : Str} {k : Nat} (o : okS z) (h1 : k ≤ 1000) (h2 : z.length ≤ 1000) : okS (strRep z k) := by
  refine ⟨?_, fun c hc => ?_⟩
  · show (strRep z k).cps.size ≤ _
    have : (strRep z k).cps.size = k * z.length := by simp [strRep, Str.length]
    rw [this, sizeLine_eq]
    have : k * z.length ≤ 1000 * 1000 := Nat.mul_le_mul h1 h2
    omega
  · have hc' : c ∈ (List.replicate k z.cps.toList).flatten := by simpa [strRep] using hc
    obtain ⟨l, hl, hcl⟩ := List.mem_flatten.mp hc'
    obtain ⟨_, rfl⟩ := List.mem_replicate.mp hl
    exact o.2 c hcl
theorem RDs.rep {K : PySem.W.Frag} {H : Hp} {ds : List D} {vs : List V} (r : RDs K H ds vs) : ∀ k : Nat, RDs K H (List.replicate k ds).flatten (List.replicate k vs).flatten
  | 0 => by simp [RDs]
  | k + 1 => by
    rw [List.replicate_succ, List.replicate_succ, List.flatten_cons, List.flatten_cons]
    exact r.append (RDs.rep r k)
theorem im_mul {K : PySem.W.Frag} : Imp2 K mulD rMulV := fun xd yd h Qd x y H Q r1 r2 rh q u => by
  cases xd <;> cases yd <;> first | exact (q : False).elim | skip
  case int.int i j => exact .inl ⟨_, _, r1, r2, q.1, u _ _ q.2 _ _ rfl rh (Tst.refl H)⟩
  case ref.int a k =>
    obtain ⟨xs, e, ⟨k1, k2⟩, hl, q⟩ := q
    obtain ⟨vs, f, g, l⟩ := lst_of rh e
    exact .inr (.inl ⟨a, k, vs, r1, r2, f, k1, k2, by rw [g.length]; exact hl, up_lst u rh (g.rep _) (by rw [List.length_flatten, List.map_replicate, List.sum_replicate_nat]; rw [Nat.mul_comm]; exact hl) q⟩)
  case str.int z k =>
    obtain ⟨rfl, o⟩ := r1
    obtain ⟨b, q⟩ := q
    exact .inr (.inr ⟨z, k, rfl, r2, b, u _ _ q _ _ ⟨rfl, o.rep (by omega) b.2.2⟩ rh (Tst.refl H)⟩)
section
variable {X : Cx} {a b : Expr} {ta tb : DTE} {pos : Pos} (ha : PE X a (liftE X.K ta)) (hb : PE X b (liftE X.K tb))
include ha hb
theorem e_add : PE X (.BinOp a .Add b pos) (liftE X.K (dOp addD ta tb)) := e_op op_addD im_add ha hb
theorem e_sub : PE X (.BinOp a .Sub b pos) (liftE X.K (dOp subD ta tb)) := e_op op_sub (im_int0 fun _ _ _ => rfl) ha hb
theorem e_mul : PE X (.BinOp a .Mult b pos) (liftE X.K (dOp mulD ta tb)) := e_op op_mulD im_mul ha hb
theorem e_fdiv : PE X (.BinOp a .FloorDiv b pos) (liftE X.K (dOp fdivD ta tb)) := e_op op_fdiv (im_int fun _ _ _ => rfl) ha hb
theorem e_mod : PE X (.BinOp a .Mod b pos) (liftE X.K (dOp modD ta tb)) := e_op op_mod (im_int fun _ _ _ => rfl) ha hb
theorem e_pow : PE X (.BinOp a .Pow b pos) (liftE X.K (dOp powD ta tb)) := e_op op_pow (im_int fun _ _ _ => rfl) ha hb
theorem e_shl : PE X (.BinOp a .LShift b pos) (liftE X.K (dOp shlD ta tb)) := e_op op_shl (by unfold shlD; exact im_int fun _ _ _ => rfl) ha hb
theorem e_shr : PE X (.BinOp a .RShift b pos) (liftE X.K (dOp shrD ta tb)) := e_op op_shr (im_int fun _ _ _ => rfl) ha hb
theorem e_band : PE X (.BinOp a .BitAnd b pos) (liftE X.K (dOp andD ta tb)) := e_op op_and (im_int0 fun _ _ _ => rfl) ha hb
theorem e_lt : PE X (.Compare a [.Lt] [b] pos) (liftE X.K (dOp ltD ta tb)) := e_cmp op_lt (im_int0 fun _ _ _ => rfl) ha hb (nomark _)
theorem e_le : PE X (.Compare a [.LtE] [b] pos) (liftE X.K (dOp leD ta tb)) := e_cmp op_le (im_int0 fun _ _ _ => rfl) ha hb (nomark _)
theorem e_gt : PE X (.Compare a [.Gt] [b] pos) (liftE X.K (dOp gtD ta tb)) := e_cmp op_gt (im_int0 fun _ _ _ => rfl) ha hb (nomark _)
theorem e_ge : PE X (.Compare a [.GtE] [b] pos) (liftE X.K (dOp geD ta tb)) := e_cmp op_ge (im_int0 fun _ _ _ => rfl) ha hb (nomark _)
end
end Dl
end
section
namespace Dl
open PySem PySem.Spec PyProof.Rows L2

def mapO {α β : Type} (f : α → Option β) : List α → Option (List β)
  | [] => some []
  | x :: xs => match f x, mapO f xs with
    | some y, some ys => some (y :: ys)
    | _, _ => none
def toP (h : Hd) : Nat → D → Option PyData
  | 0, d => match d with
    | .non => some .none
    | .bl b => some (.bool b)
    | .int i => some (.int i)
    | .str x => some (.str x)
    | _ => none
  | n + 1, d => match d with
    | .non => some .none
    | .bl b => some (.bool b)
    | .int i => some (.int i)
    | .str x => some (.str x)
    | .ty _ => none
    | .tup ds => (mapO (toP h n) ds).map .tuple
    | .sc ds => (mapO (toP h n) ds).map .list
    | .ref a => match h a with
      | some (.lst ds) => (mapO (toP h n) ds).map .list
      | _ => none
def TP (K : PySem.W.Frag) (H : Hp) (n : Nat) (v : V) (p : PyData) : Prop := Dp K H v p ∧ p.canLay0 = true ∧ p.depth ≤ n
theorem strOk_of {x : Str} (h : okS x) : PyData.strOk x = true := by
  unfold PyData.strOk
  rw [← Array.all_toList]
  exact List.all_eq_true.mpr fun c hc => decide_eq_true (h.2 c hc)
theorem mapO_TP {K : PySem.W.Frag} {H : Hp} {n : Nat} {f : D → Option PyData} (hf : ∀ d v p, RD K H d v → f d = some p → TP K H n v p) : ∀ {ds : List D} {vs : List V} {ps : List PyData}, RDs K H ds vs → mapO f ds = some ps →
    DpAll K H vs ps ∧ PyData.canLayAll0 ps = true ∧ PyData.depthAll ps ≤ n
  | [], vs, ps, r, e => by
    have z : vs = [] := r
    subst z
    obtain rfl : [] = ps := by simpa [mapO] using e
    exact ⟨.nil, by simp [PyData.canLayAll0], by simp [PyData.depthAll]⟩
  | d :: ds, vs, ps, r, e => by
    obtain ⟨v, us, rfl, r1, r2⟩ := r
    unfold mapO at e
    cases e1 : f d with
    | none => rw [e1] at e; cases e
    | some p =>
      cases e2 : mapO f ds with
      | none => rw [e1, e2] at e; cases e
      | some qs =>
        rw [e1, e2] at e
        obtain rfl : p :: qs = ps := by simpa using e
        obtain ⟨h1, h2, h3⟩ := hf d v p r1 e1
        obtain ⟨g1, g2, g3⟩ := mapO_TP hf r2 e2
        refine ⟨.cons h1 g1, ?_, ?_⟩
        · simp [PyData.canLayAll0, h2, g2]
        · simp only [PyData.depthAll]; omega
theorem TP.up {K : PySem.W.Frag} {H : Hp} {n : Nat} {v : V} {p : PyData} (t : TP K H n v p) : TP K H (n + 1) v p := ⟨t.1, t.2.1, Nat.le_succ_of_le t.2.2⟩
theorem toP_TP {K : PySem.W.Frag} {H : Hp} {h : Hd} (rh : RH K H h) : ∀ (n : Nat) (d : D) (v : V) (p : PyData), RD K H d v → toP h n d = some p → TP K H n v p := by
  have base : ∀ (n : Nat) (d : D) (v : V) (p : PyData), RD K H d v → (match d with | .non => some .none | .bl b => some (.bool b) | .int i => some (.int i) | .str x => some (.str x) | _ => none : Option PyData) = some p → TP K H n v p := by
    intro n d v p r e
    cases d <;> simp only [Option.some.injEq, reduceCtorEq] at e <;> subst e
    · obtain rfl : v = .non := r; exact ⟨.non, rfl, Nat.zero_le _⟩
    · obtain rfl : v = .bl _ := r; exact ⟨.bl _, rfl, Nat.zero_le _⟩
    · obtain rfl : v = .int _ := r; exact ⟨.int _, rfl, Nat.zero_le _⟩
    · obtain ⟨rfl, o⟩ := r; exact ⟨.str _, by simpa [PyData.canLay0] using strOk_of o, Nat.zero_le _⟩
  intro n
  induction n with
  | zero => intro d v p r e; exact base 0 d v p r e
  | succ n ih =>
    intro d v p r e
    cases d with
    | non => exact base _ .non v p r e
    | bl b => exact base _ (.bl b) v p r e
    | int i => exact base _ (.int i) v p r e
    | str x => exact base _ (.str x) v p r e
    | ty m => cases e
    | tup ds =>
      obtain ⟨a, vs, rfl, s, rs, _⟩ := r
      have e' : (mapO (toP h n) ds).map PyData.tuple = some p := e
      cases q : mapO (toP h n) ds with
      | none => rw [q] at e'; cases e'
      | some ps =>
        rw [q] at e'
        obtain rfl : PyData.tuple ps = p := by simpa using e'
        obtain ⟨g1, g2, g3⟩ := mapO_TP (fun d v p r e => ih d v p r e) rs q
        exact ⟨.tup s g1, by simpa [PyData.canLay0] using g2, by simp only [PyData.depth]; omega⟩
    | sc ds =>
      obtain ⟨a, vs, rfl, s, rs, _⟩ := r
      have e' : (mapO (toP h n) ds).map PyData.list = some p := e
      cases q : mapO (toP h n) ds with
      | none => rw [q] at e'; cases e'
      | some ps =>
        rw [q] at e'
        obtain rfl : PyData.list ps = p := by simpa using e'
        obtain ⟨g1, g2, g3⟩ := mapO_TP (fun d v p r e => ih d v p r e) rs q
        exact ⟨.lst s.seq g1, by simpa [PyData.canLay0] using g2, by simp only [PyData.depth]; omega⟩
    | ref a =>
      obtain rfl : v = .ref a := r
      have e' : (match h a with | some (.lst ds) => (mapO (toP h n) ds).map PyData.list | _ => none) = some p := e
      cases q : h a with
      | none => rw [q] at e'; cases e'
      | some o =>
        cases o with
        | lst ds =>
          rw [q] at e'
          obtain ⟨vs, f, rs, _⟩ := lst_of rh q
          have e'' : (mapO (toP h n) ds).map PyData.list = some p := e'
          cases q2 : mapO (toP h n) ds with
          | none => rw [q2] at e''; cases e''
          | some ps =>
            rw [q2] at e''
            obtain rfl : PyData.list ps = p := by simpa using e''
            obtain ⟨g1, g2, g3⟩ := mapO_TP (fun d v p r e => ih d v p r e) rs q2
            exact ⟨.lst (SqL.of f) g1, by simpa [PyData.canLay0] using g2, by simp only [PyData.depth]; omega⟩
        | dik _ => rw [q] at e'; cases e'
        | ins _ _ => rw [q] at e'; cases e'
        | xfs _ => rw [q] at e'; cases e'
theorem TP.shaped {K : PySem.W.Frag} {H : Hp} {n : Nat} {v : V} {p : PyData} (t : TP K H n v p) (hn : n ≤ 64) : SeqAt.shaped p = true := by
  unfold SeqAt.shaped
  rw [t.2.1, Bool.true_and]
  exact decide_eq_true (Nat.le_trans t.2.2 hn)
@[irreducible] def eqD : DR2 := fun x y h Q => match toP h 16 x, toP h 16 y with
  | some p, some q => Q (.bl (PyData.eqv p q)) h
  | _, _ => False
@[irreducible] def neD : DR2 := fun x y h Q => match toP h 16 x, toP h 16 y with
  | some p, some q => Q (.bl (!PyData.eqv p q)) h
  | _, _ => False
theorem im_eq {K : PySem.W.Frag} : Imp2 K eqD (rEqD K) := fun xd yd h Qd x y H Q r1 r2 rh q u => by
  unfold eqD at q
  cases e1 : toP h 16 xd with
  | none => rw [e1] at q; exact q.elim
  | some p =>
    cases e2 : toP h 16 yd with
    | none => rw [e1, e2] at q; exact q.elim
    | some p2 =>
      rw [e1, e2] at q
      have t1 := toP_TP rh 16 _ _ _ r1 e1
      have t2 := toP_TP rh 16 _ _ _ r2 e2
      exact ⟨p, p2, t1.1, t2.1, t1.shaped (by decide), t2.shaped (by decide), u _ _ q _ _ rfl rh (Tst.refl H)⟩
theorem im_ne {K : PySem.W.Frag} : Imp2 K neD (rNeD K) := fun xd yd h Qd x y H Q r1 r2 rh q u => by
  unfold neD at q
  cases e1 : toP h 16 xd with
  | none => rw [e1] at q; exact q.elim
  | some p =>
    cases e2 : toP h 16 yd with
    | none => rw [e1, e2] at q; exact q.elim
    | some p2 =>
      rw [e1, e2] at q
      have t1 := toP_TP rh 16 _ _ _ r1 e1
      have t2 := toP_TP rh 16 _ _ _ r2 e2
      exact ⟨p, p2, t1.1, t2.1, t1.shaped (by decide), t2.shaped (by decide), u _ _ q _ _ rfl rh (Tst.refl H)⟩

def flatD : D → Bool
  | .non => true
  | .bl _ => true
  | .int _ => true
  | .str _ => true
  | _ => false
def feq : D → D → Bool
  | .non, .non => true
  | .bl a, .bl b => a == b
  | .bl a, .int b => (if a then 1 else 0) == b
  | .int a, .bl b => a == (if b then 1 else 0)
  | .int a, .int b => a == b
  | .str a, .str b => a == b
  | _, _ => false
theorem flatD_V {K : PySem.W.Frag} {H : Hp} {d : D} {v : V} (r : RD K H d v) (f : flatD d = true) : flatV v = true := by
  cases d <;> first | cases f | skip
  · obtain rfl : v = .non := r; rfl
  · obtain rfl : v = .bl _ := r; rfl
  · obtain rfl : v = .int _ := r; rfl
  · obtain ⟨rfl, _⟩ := r; rfl
theorem feq_V {K : PySem.W.Frag} {H : Hp} {d e : D} {v u : V} (r : RD K H d v) (r2 : RD K H e u) (f : flatD d = true) (g : flatD e = true) : eqV v u = feq d e := by
  cases d <;> (try cases f) <;> cases e <;> (try cases g)
  all_goals
    simp only [RD] at r r2
    first
      | (obtain ⟨rfl, _⟩ := r; obtain ⟨rfl, _⟩ := r2; rfl)
      | (obtain ⟨rfl, _⟩ := r; subst r2; rfl)
      | (subst r; obtain ⟨rfl, _⟩ := r2; rfl)
      | (subst r; subst r2; rfl)
theorem flats_V {K : PySem.W.Frag} {H : Hp} : ∀ {ds : List D} {vs : List V}, RDs K H ds vs → ds.all flatD = true → vs.all flatV = true
  | [], _, r, _ => by have z : _ = [] := r; subst z; rfl
  | d :: ds, _, r, f => by
    obtain ⟨v, us, rfl, r1, r2⟩ := r
    rw [List.all_cons, Bool.and_eq_true] at f
    rw [List.all_cons, flatD_V r1 f.1, flats_V r2 f.2]; rfl
theorem feqs_V {K : PySem.W.Frag} {H : Hp} {x : D} {xv : V} (rx : RD K H x xv) (fx : flatD x = true) : ∀ {ds : List D} {vs : List V}, RDs K H ds vs → ds.all flatD = true → inV xv vs = ds.any fun y => feq y x
  | [], _, r, _ => by have z : _ = [] := r; subst z; rfl
  | d :: ds, _, r, f => by
    obtain ⟨v, us, rfl, r1, r2⟩ := r
    rw [List.all_cons, Bool.and_eq_true] at f
    have ih := feqs_V rx fx r2 f.2
    unfold inV at ih
    unfold inV
    rw [List.any_cons, List.any_cons, feq_V r1 rx f.1 fx, ih]
def itemsD (h : Hd) : D → Option (List D)
  | .tup ds => some ds
  | .sc ds => some ds
  | .ref a => match h a with
    | some (.lst ds) => some ds
    | _ => none
  | _ => none
theorem items_V {K : PySem.W.Frag} {H : Hp} {h : Hd} {d : D} {v : V} {ds : List D} (rh : RH K H h) (r : RD K H d v) (e : itemsD h d = some ds) : ∃ p vs, v = .ref p ∧ (SqL K H p vs ∨ SqT K H p vs) ∧ RDs K H ds vs ∧ ds.length ≤ sizeLine := by
  cases d <;> first | cases e | skip
  case ref a =>
    obtain rfl : v = .ref a := r
    unfold itemsD at e
    cases q : h a with
    | none => simp only [q] at e; cases e
    | some o =>
      cases o <;> simp only [q] at e <;> first | cases e | skip
      obtain ⟨vs, f, g, l⟩ := lst_of rh q
      exact ⟨a, vs, rfl, .inl (SqL.of f), g, l⟩
  case tup =>
    obtain ⟨a, vs, rfl, s, g, l⟩ := r
    exact ⟨a, vs, rfl, .inr s, g, l⟩
  case sc =>
    obtain ⟨a, vs, rfl, s, g, l⟩ := r
    exact ⟨a, vs, rfl, .inl s.seq, g, l⟩
@[irreducible] def inD (neg : Bool) : DR2 := fun x y h Q => match itemsD h y with
  | some ds => flatD x = true ∧ ds.all flatD = true ∧ Q (.bl (if neg then !(ds.any fun z => feq z x) else ds.any fun z => feq z x)) h
  | none => False
theorem im_in {K : PySem.W.Frag} {neg : Bool} : Imp2 K (inD neg) (rIn K neg) := fun xd yd h Qd x y H Q r1 r2 rh q u => by
  unfold inD at q
  cases e : itemsD h yd with
  | none => rw [e] at q; exact q.elim
  | some ds =>
    rw [e] at q
    obtain ⟨f1, f2, q⟩ := q
    obtain ⟨p, vs, rfl, s, g, l⟩ := items_V rh r2 e
    refine ⟨p, vs, rfl, s, flatD_V r1 f1, flats_V g f2, ?_⟩
    rw [feqs_V r1 f1 g f2]
    exact u _ _ q _ _ rfl rh (Tst.refl H)
@[irreducible] def inSg (neg : Bool) : DR2
  | .str x, .str z, h, Q => ∃ c, x = ⟨#[c]⟩ ∧ Q (.bl (if neg then !decide (c ∈ z.cps.toList) else decide (c ∈ z.cps.toList))) h
  | _, _, _, _ => False
theorem im_inSg {K : PySem.W.Frag} : Imp2 K (inSg false) (fun x y H Q => ∃ (c : Nat) (z : Str), x = .str ⟨#[c]⟩ ∧ y = .str z ∧ Q (.bl (decide (c ∈ z.cps.toList))) H) := fun xd yd h Qd x y H Q r1 r2 rh q u => by
  unfold inSg at q
  cases xd <;> cases yd <;> first | exact (q : False).elim | skip
  obtain ⟨c, rfl, q⟩ := q
  exact ⟨c, _, r1.1, r2.1, u _ _ q _ _ rfl rh (Tst.refl H)⟩
theorem im_notInSg {K : PySem.W.Frag} : Imp2 K (inSg true) (fun x y H Q => ∃ (c : Nat) (z : Str), x = .str ⟨#[c]⟩ ∧ y = .str z ∧ Q (.bl (!decide (c ∈ z.cps.toList))) H) := fun xd yd h Qd x y H Q r1 r2 rh q u => by
  unfold inSg at q
  cases xd <;> cases yd <;> first | exact (q : False).elim | skip
  obtain ⟨c, rfl, q⟩ := q
  exact ⟨c, _, r1.1, r2.1, u _ _ q _ _ rfl rh (Tst.refl H)⟩
def isNonD : D → Bool
  | .non => true
  | _ => false
theorem isNon_V {K : PySem.W.Frag} {H : Hp} {d : D} {v : V} (r : RD K H d v) : decide (v = .non) = isNonD d := by
  cases d
  all_goals simp only [RD] at r
  case str x => obtain ⟨rfl, _⟩ := r; rfl
  case tup ds => obtain ⟨a, vs, rfl, _⟩ := r; rfl
  case sc ds => obtain ⟨a, vs, rfl, _⟩ := r; rfl
  all_goals subst r; rfl
section
variable {X : Cx} {a b : Expr} {ta tb : DTE} {pos : Pos} {k : Nat}
theorem e_eq (hr : Room k X.A) (ha : PE X a (liftE X.K ta)) (hb : PE X b (liftE X.K tb)) : PE X (.Compare a [.Eq] [b] pos) (liftE X.K (dOp eqD ta tb)) := e_cmp (op_eqD hr.units) im_eq ha hb (nomark _)
theorem e_ne (hr : Room k X.A) (ha : PE X a (liftE X.K ta)) (hb : PE X b (liftE X.K tb)) : PE X (.Compare a [.NotEq] [b] pos) (liftE X.K (dOp neD ta tb)) := e_cmp (op_neD hr.units) im_ne ha hb (nomark _)
theorem e_in (ha : PE X a (liftE X.K ta)) (hb : PE X b (liftE X.K tb)) (hm : behindInMarks .In b = false := by rfl) : PE X (.Compare a [.In] [b] pos) (liftE X.K (dOp (inD false) ta tb)) := e_cmp op_in_seq im_in ha hb hm
theorem e_notIn (ha : PE X a (liftE X.K ta)) (hb : PE X b (liftE X.K tb)) (hm : behindInMarks .NotIn b = false := by rfl) : PE X (.Compare a [.NotIn] [b] pos) (liftE X.K (dOp (inD true) ta tb)) := e_cmp op_notIn_seq im_in ha hb hm
theorem e_inSg (ha : PE X a (liftE X.K ta)) (hb : PE X b (liftE X.K tb)) (hm : behindInMarks .In b = false := by rfl) : PE X (.Compare a [.In] [b] pos) (liftE X.K (dOp (inSg false) ta tb)) := e_cmp op_in_sign im_inSg ha hb hm
theorem e_notInSg (ha : PE X a (liftE X.K ta)) (hb : PE X b (liftE X.K tb)) (hm : behindInMarks .NotIn b = false := by rfl) : PE X (.Compare a [.NotIn] [b] pos) (liftE X.K (dOp (inSg true) ta tb)) := e_cmp op_notIn_sign im_notInSg ha hb hm
def dIsN (ta : DTE) : DTE := fun ρ h Q => ta ρ h fun x h1 => Q (.bl (isNonD x)) h1
def dNotN (ta : DTE) : DTE := fun ρ h Q => ta ρ h fun x h1 => Q (.bl (!isNonD x)) h1
theorem e_isN {j pos'} (ha : PE X a (liftE X.K ta)) : PE X (.Compare a [.Is] [.Constant .none j pos'] pos) (liftE X.K (dIsN ta)) := impE (pe_cmp (pc_isN ha)) fun σ H Q ⟨ρ, h, Qd, rel, q, u⟩ =>
  ⟨ρ, h, _, rel, q, fun d h1 q1 v H1 r1 g1 t1 => by show Q (.bl (decide (v = .non))) H1; rw [isNon_V r1]; exact u _ _ q1 _ _ rfl g1 t1⟩
theorem e_notN {j pos'} (ha : PE X a (liftE X.K ta)) : PE X (.Compare a [.IsNot] [.Constant .none j pos'] pos) (liftE X.K (dNotN ta)) := impE (pe_cmp (pc_notN ha)) fun σ H Q ⟨ρ, h, Qd, rel, q, u⟩ =>
  ⟨ρ, h, _, rel, q, fun d h1 q1 v H1 r1 g1 t1 => by show Q (.bl (!decide (v = .non))) H1; rw [isNon_V r1]; exact u _ _ q1 _ _ rfl g1 t1⟩
end

def blQ (d : D) (Q : Bool → Prop) : Prop := match d with
  | .bl b => Q b
  | _ => False
theorem blQ_V {K : PySem.W.Frag} {H : Hp} {d : D} {v : V} {Q : Bool → Prop} (r : RD K H d v) (q : blQ d Q) : ∃ c, v = .bl c ∧ Q c := by
  cases d <;> first | exact (q : False).elim | exact ⟨_, r, q⟩
def dB (t : DTE) : DTT := fun ρ h Q => t ρ h fun d h1 => blQ d fun b => Q b h1
def dAndT (t u : DTT) : DTT := fun ρ h Q => t ρ h fun c h1 => if c = true then u ρ h1 Q else Q false h1
def dOrT (t u : DTT) : DTT := fun ρ h Q => t ρ h fun c h1 => if c = true then Q true h1 else u ρ h1 Q
def dNotT (t : DTT) : DTT := fun ρ h Q => t ρ h fun c h1 => Q (!c) h1
def dAnd (t u : DTE) : DTE := fun ρ h Q => t ρ h fun d h1 => blQ d fun c => if c = true then u ρ h1 Q else Q (.bl false) h1
def dOr (t u : DTE) : DTE := fun ρ h Q => t ρ h fun d h1 => blQ d fun c => if c = true then Q (.bl true) h1 else u ρ h1 Q
def dNot (t : DTE) : DTE := fun ρ h Q => t ρ h fun d h1 => blQ d fun c => Q (.bl (!c)) h1
def dIfE (t : DTT) (a b : DTE) : DTE := fun ρ h Q => t ρ h fun c h1 => if c = true then a ρ h1 Q else b ρ h1 Q
section
variable {X : Cx} {a b c : Expr} {ta tb : DTE} {tA tB : DTT} {rest : List Expr} {pos : Pos}
theorem t_val (ha : PE X a (liftE X.K ta)) (he : ∀ whole, isTrue a X.env whole = (do let v ← whole; standAt a.pos; holding [v] (truthy v)) := by intro _; rfl) : PT X a (liftT X.K (dB ta)) := impT (pt_val ha he) fun σ H Q ⟨ρ, h, Qd, rel, q, u⟩ =>
  ⟨ρ, h, _, rel, q, fun d h1 q1 v H1 r1 g1 t1 => let ⟨c, e, q2⟩ := blQ_V r1 q1; ⟨c, e, u c h1 q2 H1 g1 t1⟩⟩
theorem t_op {op : CmpOp} {r : R2} {rd : DR2} (ho : OpR X (compareOp op) r) (im : Imp2 X.K rd r) (ha : PE X a (liftE X.K ta)) (hb : PE X b (liftE X.K tb)) (hm : behindInMarks op b = false) : PT X (.Compare a [op] [b] pos) (liftT X.K (dB (dOp rd ta tb))) := impT (pt_cmpR ho ha hb hm) fun σ H Q ⟨ρ, h, Qd, rel, q, u⟩ =>
  ⟨ρ, h, _, rel, q, fun x h1 q1 v1 H1 r1 g1 t1 => ⟨ρ, h1, _, rel.at t1 g1, q1, fun y h2 q2 v2 H2 r2 g2 t2 => im x y h2 _ v1 v2 H2 _ (r1.mono t2) r2 g2 q2 fun d h3 q3 v3 H3 r3 g3 t3 => let ⟨c, e, q4⟩ := blQ_V r3 q3; ⟨c, e, u c h3 q4 H3 g3 (t1.trans (t2.trans t3))⟩⟩⟩
theorem t_lt (ha : PE X a (liftE X.K ta)) (hb : PE X b (liftE X.K tb)) : PT X (.Compare a [.Lt] [b] pos) (liftT X.K (dB (dOp ltD ta tb))) := t_op op_lt (im_int0 fun _ _ _ => rfl) ha hb (nomark _)
theorem t_le (ha : PE X a (liftE X.K ta)) (hb : PE X b (liftE X.K tb)) : PT X (.Compare a [.LtE] [b] pos) (liftT X.K (dB (dOp leD ta tb))) := t_op op_le (im_int0 fun _ _ _ => rfl) ha hb (nomark _)
theorem t_gt (ha : PE X a (liftE X.K ta)) (hb : PE X b (liftE X.K tb)) : PT X (.Compare a [.Gt] [b] pos) (liftT X.K (dB (dOp gtD ta tb))) := t_op op_gt (im_int0 fun _ _ _ => rfl) ha hb (nomark _)
theorem t_ge (ha : PE X a (liftE X.K ta)) (hb : PE X b (liftE X.K tb)) : PT X (.Compare a [.GtE] [b] pos) (liftT X.K (dB (dOp geD ta tb))) := t_op op_ge (im_int0 fun _ _ _ => rfl) ha hb (nomark _)
theorem t_eq {k : Nat} (hr : Room k X.A) (ha : PE X a (liftE X.K ta)) (hb : PE X b (liftE X.K tb)) : PT X (.Compare a [.Eq] [b] pos) (liftT X.K (dB (dOp eqD ta tb))) := t_op (op_eqD hr.units) im_eq ha hb (nomark _)
theorem t_ne {k : Nat} (hr : Room k X.A) (ha : PE X a (liftE X.K ta)) (hb : PE X b (liftE X.K tb)) : PT X (.Compare a [.NotEq] [b] pos) (liftT X.K (dB (dOp neD ta tb))) := t_op (op_neD hr.units) im_ne ha hb (nomark _)
theorem t_in (ha : PE X a (liftE X.K ta)) (hb : PE X b (liftE X.K tb)) (hm : behindInMarks .In b = false := by rfl) : PT X (.Compare a [.In] [b] pos) (liftT X.K (dB (dOp (inD false) ta tb))) := t_op op_in_seq im_in ha hb hm
theorem t_notIn (ha : PE X a (liftE X.K ta)) (hb : PE X b (liftE X.K tb)) (hm : behindInMarks .NotIn b = false := by rfl) : PT X (.Compare a [.NotIn] [b] pos) (liftT X.K (dB (dOp (inD true) ta tb))) := t_op op_notIn_seq im_in ha hb hm
theorem t_inSg (ha : PE X a (liftE X.K ta)) (hb : PE X b (liftE X.K tb)) (hm : behindInMarks .In b = false := by rfl) : PT X (.Compare a [.In] [b] pos) (liftT X.K (dB (dOp (inSg false) ta tb))) := t_op op_in_sign im_inSg ha hb hm
theorem t_notInSg (ha : PE X a (liftE X.K ta)) (hb : PE X b (liftE X.K tb)) (hm : behindInMarks .NotIn b = false := by rfl) : PT X (.Compare a [.NotIn] [b] pos) (liftT X.K (dB (dOp (inSg true) ta tb))) := t_op op_notIn_sign im_notInSg ha hb hm
theorem t_isN {j pos'} (ha : PE X a (liftE X.K ta)) : PT X (.Compare a [.Is] [.Constant .none j pos'] pos) (liftT X.K (dB (dIsN ta))) := impT (pt_cmp (pc_isN ha)) fun σ H Q ⟨ρ, h, Qd, rel, q, u⟩ =>
  ⟨ρ, h, _, rel, q, fun d h1 q1 v H1 r1 g1 t1 => ⟨_, rfl, by rw [isNon_V r1]; exact u _ _ q1 _ g1 t1⟩⟩
theorem t_notN {j pos'} (ha : PE X a (liftE X.K ta)) : PT X (.Compare a [.IsNot] [.Constant .none j pos'] pos) (liftT X.K (dB (dNotN ta))) := impT (pt_cmp (pc_notN ha)) fun σ H Q ⟨ρ, h, Qd, rel, q, u⟩ =>
  ⟨ρ, h, _, rel, q, fun d h1 q1 v H1 r1 g1 t1 => ⟨_, rfl, by rw [isNon_V r1]; exact u _ _ q1 _ g1 t1⟩⟩
theorem t_not (ha : PT X a (liftT X.K tA)) : PT X (.UnaryOp .Not a pos) (liftT X.K (dNotT tA)) := impT (pt_not ha) fun σ H Q ⟨ρ, h, Qd, rel, q, u⟩ =>
  ⟨ρ, h, _, rel, q, fun c h1 q1 H1 g1 t1 => u _ _ q1 H1 g1 t1⟩
theorem w_and1 (ha : PT X a (liftT X.K tA)) : PW X (.BoolOp .And [a] pos) (liftT X.K tA) := pw_and1 ha
theorem w_or1 (ha : PT X a (liftT X.K tA)) : PW X (.BoolOp .Or [a] pos) (liftT X.K tA) := pw_or1 ha
theorem w_and (ha : PT X a (liftT X.K tA)) (hb : PW X (.BoolOp .And (b :: rest) pos) (liftT X.K tB)) : PW X (.BoolOp .And (a :: b :: rest) pos) (liftT X.K (dAndT tA tB)) := impW (pw_and ha hb) fun σ H Q ⟨ρ, h, Qd, rel, q, u⟩ =>
  ⟨ρ, h, _, rel, q, fun c h1 q1 H1 g1 t1 => by
    cases c
    · exact u _ _ q1 H1 g1 t1
    · exact ⟨ρ, h1, Qd, rel.at t1 g1, q1, fun b h2 q2 H2 g2 t2 => u b h2 q2 H2 g2 (t1.trans t2)⟩⟩
theorem w_or (ha : PT X a (liftT X.K tA)) (hb : PW X (.BoolOp .Or (b :: rest) pos) (liftT X.K tB)) : PW X (.BoolOp .Or (a :: b :: rest) pos) (liftT X.K (dOrT tA tB)) := impW (pw_or ha hb) fun σ H Q ⟨ρ, h, Qd, rel, q, u⟩ =>
  ⟨ρ, h, _, rel, q, fun c h1 q1 H1 g1 t1 => by
    cases c
    · exact ⟨ρ, h1, Qd, rel.at t1 g1, q1, fun b h2 q2 H2 g2 t2 => u b h2 q2 H2 g2 (t1.trans t2)⟩
    · exact u _ _ q1 H1 g1 t1⟩
theorem w_pt (h : PW X a (liftT X.K tA)) : PT X a (liftT X.K tA) := PW.pt h
theorem e_one {op} (h : PE X a (liftE X.K ta)) : PE X (.BoolOp op [a] pos) (liftE X.K ta) := pe_one h
theorem e_and (ha : PE X a (liftE X.K ta)) (hb : PE X (.BoolOp .And (b :: rest) pos) (liftE X.K tb)) : PE X (.BoolOp .And (a :: b :: rest) pos) (liftE X.K (dAnd ta tb)) := impE (pe_and ha hb) fun σ H Q ⟨ρ, h, Qd, rel, q, u⟩ =>
  ⟨ρ, h, _, rel, q, fun d h1 q1 v H1 r1 g1 t1 => by
    obtain ⟨c, e, q2⟩ := blQ_V r1 q1
    refine ⟨c, e, ?_⟩
    cases c
    · exact u _ _ q2 _ _ rfl g1 t1
    · exact ⟨ρ, h1, Qd, rel.at t1 g1, q2, u.at t1⟩⟩
theorem e_or (ha : PE X a (liftE X.K ta)) (hb : PE X (.BoolOp .Or (b :: rest) pos) (liftE X.K tb)) : PE X (.BoolOp .Or (a :: b :: rest) pos) (liftE X.K (dOr ta tb)) := impE (pe_or ha hb) fun σ H Q ⟨ρ, h, Qd, rel, q, u⟩ =>
  ⟨ρ, h, _, rel, q, fun d h1 q1 v H1 r1 g1 t1 => by
    obtain ⟨c, e, q2⟩ := blQ_V r1 q1
    refine ⟨c, e, ?_⟩
    cases c
    · exact ⟨ρ, h1, Qd, rel.at t1 g1, q2, u.at t1⟩
    · exact u _ _ q2 _ _ rfl g1 t1⟩
theorem e_not (ha : PE X a (liftE X.K ta)) : PE X (.UnaryOp .Not a pos) (liftE X.K (dNot ta)) := impE (pe_not ha) fun σ H Q ⟨ρ, h, Qd, rel, q, u⟩ =>
  ⟨ρ, h, _, rel, q, fun d h1 q1 v H1 r1 g1 t1 => let ⟨c, e, q2⟩ := blQ_V r1 q1; ⟨c, e, u _ _ q2 _ _ rfl g1 t1⟩⟩
theorem e_if (hc : PT X c (liftT X.K tA)) (ha : PE X a (liftE X.K ta)) (hb : PE X b (liftE X.K tb)) : PE X (.IfExp c a b pos) (liftE X.K (dIfE tA ta tb)) := impE (pe_ifExp hc ha hb) fun σ H Q ⟨ρ, h, Qd, rel, q, u⟩ =>
  ⟨ρ, h, _, rel, q, fun c h1 q1 H1 g1 t1 => by
    cases c
    · exact ⟨ρ, h1, Qd, rel.at t1 g1, q1, u.at t1⟩
    · exact ⟨ρ, h1, Qd, rel.at t1 g1, q1, u.at t1⟩⟩
end
def dChain (r r' : DR2) (ta tb tc : DTE) : DTE := fun ρ h Q => ta ρ h fun x h1 => tb ρ h1 fun y h2 => r x y h2 fun z h3 => blQ z fun k => if k = true then tc ρ h3 fun w h4 => r' y w h4 Q else Q (.bl false) h3
section
variable {X : Cx} {a b c : Expr} {ta tb tc : DTE} {pos : Pos}
theorem e_chain {op op' : CmpOp} {r r' : R2} {rd rd' : DR2} (ho : OpR X (compareOp op) r) (ho' : OpR X (compareOp op') r') (im : Imp2 X.K rd r) (im' : Imp2 X.K rd' r') (ha : PE X a (liftE X.K ta)) (hb : PE X b (liftE X.K tb)) (hc : PE X c (liftE X.K tc)) (hm : lastMarks [op, op'] [b, c] = false := by with_unfolding_all rfl) :
    PE X (.Compare a [op, op'] [b, c] pos) (liftE X.K (dChain rd rd' ta tb tc)) := impE (pe_chain ho ho' ha hb hc hm) fun σ H Q ⟨ρ, h, Qd, rel, q, u⟩ =>
  ⟨ρ, h, _, rel, q, fun x h1 q1 v1 H1 r1 g1 t1 => ⟨ρ, h1, _, rel.at t1 g1, q1, fun y h2 q2 v2 H2 r2 g2 t2 => im x y h2 _ v1 v2 H2 _ (r1.mono t2) r2 g2 q2 fun z h3 q3 v3 H3 r3 g3 t3 => by
    obtain ⟨k, e, q4⟩ := blQ_V r3 q3
    refine ⟨k, e, ?_⟩
    cases k
    · exact u _ _ q4 _ _ rfl g3 (t1.trans (t2.trans t3))
    · exact ⟨ρ, h3, _, (rel.at t1 g1).at (t2.trans t3) g3, q4, fun w h4 q5 v4 H4 r4 g4 t4 => im' y w h4 Qd v2 v4 H4 Q (r2.mono (t3.trans t4)) r4 g4 q5 (u.at (t1.trans (t2.trans (t3.trans t4))))⟩⟩⟩
theorem t_chain {op op' : CmpOp} {r r' : R2} {rd rd' : DR2} (ho : OpR X (compareOp op) r) (ho' : OpR X (compareOp op') r') (im : Imp2 X.K rd r) (im' : Imp2 X.K rd' r') (ha : PE X a (liftE X.K ta)) (hb : PE X b (liftE X.K tb)) (hc : PE X c (liftE X.K tc)) (hm : lastMarks [op, op'] [b, c] = false := by with_unfolding_all rfl) :
    PT X (.Compare a [op, op'] [b, c] pos) (liftT X.K (dB (dChain rd rd' ta tb tc))) := impT (pt_chain ho ho' ha hb hc hm) fun σ H Q ⟨ρ, h, Qd, rel, q, u⟩ =>
  ⟨ρ, h, _, rel, q, fun x h1 q1 v1 H1 r1 g1 t1 => ⟨ρ, h1, _, rel.at t1 g1, q1, fun y h2 q2 v2 H2 r2 g2 t2 => im x y h2 _ v1 v2 H2 _ (r1.mono t2) r2 g2 q2 fun z h3 q3 v3 H3 r3 g3 t3 => by
    obtain ⟨k, e, q4⟩ := blQ_V r3 q3
    refine ⟨k, e, ?_⟩
    cases k
    · exact ⟨_, rfl, u _ _ q4 _ g3 (t1.trans (t2.trans t3))⟩
    · exact ⟨ρ, h3, _, (rel.at t1 g1).at (t2.trans t3) g3, q4, fun w h4 q5 v4 H4 r4 g4 t4 => im' y w h4 _ v2 v4 H4 _ (r2.mono (t3.trans t4)) r4 g4 q5 fun d h5 q6 v5 H5 r5 g5 t5 => let ⟨c, e, q7⟩ := blQ_V r5 q6; ⟨c, e, u c h5 q7 H5 g5 (t1.trans (t2.trans (t3.trans (t4.trans t5))))⟩⟩⟩⟩
theorem t_leLe (ha : PE X a (liftE X.K ta)) (hb : PE X b (liftE X.K tb)) (hc : PE X c (liftE X.K tc)) (hm : lastMarks [.LtE, .LtE] [b, c] = false := by with_unfolding_all rfl) : PT X (.Compare a [.LtE, .LtE] [b, c] pos) (liftT X.K (dB (dChain leD leD ta tb tc))) := t_chain op_le op_le (im_int0 fun _ _ _ => rfl) (im_int0 fun _ _ _ => rfl) ha hb hc hm
theorem t_leLt (ha : PE X a (liftE X.K ta)) (hb : PE X b (liftE X.K tb)) (hc : PE X c (liftE X.K tc)) (hm : lastMarks [.LtE, .Lt] [b, c] = false := by with_unfolding_all rfl) : PT X (.Compare a [.LtE, .Lt] [b, c] pos) (liftT X.K (dB (dChain leD ltD ta tb tc))) := t_chain op_le op_lt (im_int0 fun _ _ _ => rfl) (im_int0 fun _ _ _ => rfl) ha hb hc hm
theorem e_leLe (ha : PE X a (liftE X.K ta)) (hb : PE X b (liftE X.K tb)) (hc : PE X c (liftE X.K tc)) (hm : lastMarks [.LtE, .LtE] [b, c] = false := by with_unfolding_all rfl) : PE X (.Compare a [.LtE, .LtE] [b, c] pos) (liftE X.K (dChain leD leD ta tb tc)) := e_chain op_le op_le (im_int0 fun _ _ _ => rfl) (im_int0 fun _ _ _ => rfl) ha hb hc hm
theorem e_leLt (ha : PE X a (liftE X.K ta)) (hb : PE X b (liftE X.K tb)) (hc : PE X c (liftE X.K tc)) (hm : lastMarks [.LtE, .Lt] [b, c] = false := by with_unfolding_all rfl) : PE X (.Compare a [.LtE, .Lt] [b, c] pos) (liftE X.K (dChain leD ltD ta tb tc)) := e_chain op_le op_lt (im_int0 fun _ _ _ => rfl) (im_int0 fun _ _ _ => rfl) ha hb hc hm
theorem e_neg {i : Int} {j : Nat} {p : Pos} : PE X (.UnaryOp .USub (.Constant (.int i) j p) pos) (liftE X.K (dC (.int (-i)))) := impE (pe_un un_neg pe_int) fun σ H Q ⟨ρ, h, Qd, rel, q, u⟩ => ⟨i, rfl, u _ _ q _ _ rfl rel.h (Tst.refl H)⟩
end

def dNil : DTA := fun _ h Q => Q [] h
def dCons (t : DTE) (r : DTA) : DTA := fun ρ h Q => t ρ h fun d h1 => r ρ h1 fun ds h2 => Q (d :: ds) h2
def dTup (t : DTA) : DTE := fun ρ h Q => t ρ h fun ds h1 => ds.length ≤ sizeLine ∧ Q (.tup ds) h1
def dLst (t : DTA) : DTE := fun ρ h Q => t ρ h fun ds h1 => ds.length ≤ sizeLine ∧ ∀ p, h1 p = none → Q (.ref p) (up h1 p (.lst ds))
section
variable {X : Cx} {e : Expr} {es : List Expr} {t : DTE} {r : DTA} {pos : Pos}
theorem a_nil : PA X [] (liftA X.K dNil) := impA pa_nil fun σ H Q ⟨ρ, h, Qd, rel, q, u⟩ => u [] h q [] H rfl rel.h (Tst.refl H)
theorem a_cons (he : PE X e (liftE X.K t)) (hr : PA X es (liftA X.K r)) (hs : starEach (e :: es) X.env = (false, eval e X.env) :: starEach es X.env := by rfl) : PA X (e :: es) (liftA X.K (dCons t r)) := impA (pa_cons he hr hs) fun σ H Q ⟨ρ, h, Qd, rel, q, u⟩ =>
  ⟨ρ, h, _, rel, q, fun d h1 q1 v H1 r1 g1 t1 => ⟨ρ, h1, _, rel.at t1 g1, q1, fun ds h2 q2 vs H2 r2 g2 t2 => u _ _ q2 _ _ ⟨v, vs, rfl, r1.mono t2, r2⟩ g2 (t1.trans t2)⟩⟩
theorem e_tup {k} (h : PA X es (liftA X.K r)) : PE X (.Tuple es k pos) (liftE X.K (dTup r)) := impE (pe_tup h) fun σ H Q ⟨ρ, h, Qd, rel, q, u⟩ =>
  ⟨ρ, h, _, rel, q, fun ds h1 q1 vs H1 r1 g1 t1 => ⟨by rw [r1.length]; exact q1.1, fun p n => up_tup (u.at t1) g1 r1 q1.1 q1.2 p n⟩⟩
theorem e_lst (h : PA X es (liftA X.K r)) : PE X (.List es pos) (liftE X.K (dLst r)) := impE (pe_lst h) fun σ H Q ⟨ρ, h, Qd, rel, q, u⟩ =>
  ⟨ρ, h, _, rel, q, fun ds h1 q1 vs H1 r1 g1 t1 => ⟨by rw [r1.length]; exact q1.1, fun p n => up_lst (u.at t1) g1 r1 q1.1 q1.2 p n⟩⟩
end

@[irreducible] def ixD : DR2 := fun x y h Q => match y with
  | .int i => (match x with
    | .str z => ∃ c, atI z.cps.toList i = some c ∧ Q (.str ⟨#[c]⟩) h
    | _ => match itemsD h x with
      | some ds => ∃ d, atI ds i = some d ∧ Q d h
      | none => False)
  | _ => False
theorem atI_V {K : PySem.W.Frag} {H : Hp} {ds : List D} {vs : List V} {i : Int} {d : D} (r : RDs K H ds vs) (e : atI ds i = some d) : ∃ v, atI vs i = some v ∧ RD K H d v := by
  unfold atI at e ⊢
  rw [r.length]
  cases q : ixN ds.length i with
  | none => rw [q] at e; cases e
  | some j =>
    rw [q] at e
    exact r.get e
theorem okS.sign {z : Str} {c : Nat} {i : Int} (o : okS z) (e : atI z.cps.toList i = some c) : okS ⟨#[c]⟩ := by
  refine ⟨by show 1 ≤ sizeLine; rw [sizeLine_eq]; decide, fun x hx => ?_⟩
  obtain rfl : x = c := by simpa using hx
  obtain ⟨j, _, h, _⟩ := atI_get e
  exact o.2 _ (List.mem_of_getElem? h)
theorem im_ix {K : PySem.W.Frag} : Imp2 K ixD (rIx K) := fun xd yd h Qd x y H Q r1 r2 rh q u => by
  unfold ixD at q
  cases yd <;> first | exact (q : False).elim | skip
  case int i =>
  obtain rfl : y = .int i := r2
  by_cases hx : ∃ z, xd = .str z
  · obtain ⟨z, rfl⟩ := hx
    obtain ⟨rfl, o⟩ := r1
    obtain ⟨c, e, q⟩ := q
    exact .inr (.inr ⟨z, i, c, rfl, rfl, o.1, e, u _ _ q _ _ ⟨rfl, o.sign e⟩ rh (Tst.refl H)⟩)
  · have q' : match itemsD h xd with | some ds => ∃ d, atI ds i = some d ∧ Qd d h | none => False := by
      cases xd <;> first | exact absurd ⟨_, rfl⟩ hx | exact q
    cases e : itemsD h xd with
    | none => rw [e] at q'; exact q'.elim
    | some ds =>
      rw [e] at q'
      obtain ⟨d, e2, q⟩ := q'
      obtain ⟨p, vs, rfl, s, g, l⟩ := items_V rh r1 e
      obtain ⟨v, e3, rv⟩ := atI_V g e2
      have qq := u _ _ q _ _ rv rh (Tst.refl H)
      rcases s with s | s
      · exact .inl ⟨p, vs, i, v, rfl, rfl, s, e3, qq⟩
      · exact .inr (.inl ⟨p, vs, i, v, rfl, rfl, s, e3, qq⟩)
def cutD (xs : List D) (lo hi : Option Int) : List D := (xs.drop (HT.sIx xs.length 0 lo)).take (HT.sIx xs.length xs.length hi - HT.sIx xs.length 0 lo)
theorem cutD_length (xs : List D) (lo hi : Option Int) : (cutD xs lo hi).length ≤ xs.length := by
  unfold cutD; rw [List.length_take, List.length_drop]; omega
theorem cut_V {K : PySem.W.Frag} {H : Hp} {ds : List D} {vs : List V} (r : RDs K H ds vs) (lo hi : Option Int) : RDs K H (cutD ds lo hi) (cutV vs lo hi) := by
  unfold cutD cutV
  rw [r.length]
  exact (r.drop _).take _
abbrev DTO := DEnv → Hd → (Option Int → Hd → Prop) → Prop
def liftO (K : PySem.W.Frag) (t : DTO) : TO := fun σ H Q => ∃ ρ h Qd, Rel K ρ h σ H ∧ t ρ h Qd ∧ ∀ o h', Qd o h' → ∀ H', RH K H' h' → Tst H H' → Q o H'
def dNoP : DTO := fun _ h Q => Q none h
def intQ (d : D) (Q : Int → Prop) : Prop := match d with
  | .int i => Q i
  | _ => False
def dP (t : DTE) : DTO := fun ρ h Q => t ρ h fun d h1 => intQ d fun i => Q (some i) h1
@[irreducible] def slD (x : D) (lo hi : Option Int) (h : Hd) (Q : DK) : Prop := match x with
  | .str z => Q (.str (cutS z lo hi)) h
  | .tup ds => Q (.tup (cutD ds lo hi)) h
  | x => match itemsD h x with
    | some ds => ∀ p, h p = none → Q (.ref p) (up h p (.lst (cutD ds lo hi)))
    | none => False
def dSl (te : DTE) (tl th : DTO) : DTE := fun ρ h Q => te ρ h fun x h1 => tl ρ h1 fun l h2 => th ρ h2 fun u h3 => slD x l u h3 Q
theorem okS.cut {z : Str} (o : okS z) (lo hi : Option Int) : okS (cutS z lo hi) := by
  refine ⟨Nat.le_trans (cutS_length z lo hi) o.1, fun c hc => ?_⟩
  unfold cutS at hc
  have hc' : c ∈ (z.cps.toList.drop (HT.sIx z.length 0 lo)).take (HT.sIx z.length z.length hi - HT.sIx z.length 0 lo) := by simpa using hc
  exact o.2 c (List.mem_of_mem_drop (List.mem_of_mem_take hc'))
section
variable {X : Cx} {a b e : Expr} {ta tb te : DTE} {lo hi : Option Expr} {tl th : DTO} {pos p2 : Pos}
theorem e_ix (ha : PE X a (liftE X.K ta)) (hb : PE X b (liftE X.K tb)) (hs : PlainIx b := by intro _ _; rfl) : PE X (.Subscript a b pos) (liftE X.K (dOp ixD ta tb)) := op2 (pe_ix ix_seq ha hb hs) im_ix
theorem o_none : PO X none (liftO X.K dNoP) := ⟨fun pins s σ H Q I ⟨ρ, h, Qd, rel, q, u⟩ => po_none.run pins s σ H Q I (u none h q H rel.h (Tst.refl H))⟩
theorem o_some (h : PE X e (liftE X.K te)) : PO X (some e) (liftO X.K (dP te)) := ⟨fun pins s σ H Q I ⟨ρ, h', Qd, rel, q, u⟩ => (po_some h).run pins s σ H Q I ⟨ρ, h', _, rel, q, fun d h1 q1 v H1 r1 g1 t1 => by
  cases d <;> first | exact (q1 : False).elim | exact ⟨_, r1, u _ _ q1 H1 g1 t1⟩⟩⟩
def rSlV (K : PySem.W.Frag) : V → Option Int → Option Int → Hp → VK → Prop := fun x lo hi H Q => rSlL K x lo hi H Q ∨ rSlA K x lo hi H Q ∨ rSlS x lo hi H Q
theorem sl_V : SlR X (rSlV X.K) := SlR.or sl_list (SlR.or sl_tupA sl_str)
theorem im_slL {K : PySem.W.Frag} {xd : D} {x : V} {lo hi : Option Int} {h : Hd} {H : Hp} {Qd : DK} {Q : VK} {ds : List D} (r : RD K H xd x) (rh : RH K H h) (e : itemsD h xd = some ds) (nt : ∀ es, xd ≠ .tup es) (q : ∀ p, h p = none → Qd (.ref p) (up h p (.lst (cutD ds lo hi)))) (u : UpE K H Qd Q) : rSlV K x lo hi H Q := by
  cases xd <;> first | cases e | skip
  case ref a =>
    obtain rfl : x = .ref a := r
    unfold itemsD at e
    cases z : h a with
    | none => simp only [z] at e; cases e
    | some o =>
      cases o <;> simp only [z] at e <;> first | cases e | skip
      obtain ⟨vs, f, g, l⟩ := lst_of rh z
      exact .inl ⟨a, vs, rfl, SqL.of f, up_lst u rh (cut_V g lo hi) (Nat.le_trans (cutD_length _ _ _) l) q⟩
  case sc.refl =>
    obtain ⟨a, vs, rfl, s, g, l⟩ := r
    exact .inl ⟨a, vs, rfl, s.seq, up_lst u rh (cut_V g lo hi) (Nat.le_trans (cutD_length _ _ _) l) q⟩
  case tup.refl => exact absurd rfl (nt _)
theorem im_sl {K : PySem.W.Frag} {xd : D} {x : V} {lo hi : Option Int} {h : Hd} {H : Hp} {Qd : DK} {Q : VK} (r : RD K H xd x) (rh : RH K H h) (q : slD xd lo hi h Qd) (u : UpE K H Qd Q) : rSlV K x lo hi H Q := by
  unfold slD at q
  cases xd
  case str z =>
    obtain ⟨rfl, o⟩ := r
    exact .inr (.inr ⟨z, rfl, o.1, u _ _ q _ _ ⟨rfl, o.cut lo hi⟩ rh (Tst.refl H)⟩)
  case tup ds =>
    obtain ⟨a, vs, rfl, s, g, l⟩ := id r
    refine .inr (.inl ⟨a, vs, rfl, s, fun w => ?_, fun _ => up_tup u rh (cut_V g lo hi) (Nat.le_trans (cutD_length _ _ _) l) q⟩)
    have e : cutD ds lo hi = ds := by
      rw [g.length] at w
      unfold cutD
      rw [w.1, w.2]; simp
    have q' : Qd (.tup (cutD ds lo hi)) h := q
    rw [e] at q'
    exact u _ _ q' _ _ r rh (Tst.refl H)
  case ref a =>
    have q' : (match itemsD h (.ref a) with | some ds => ∀ p, h p = none → Qd (.ref p) (up h p (.lst (cutD ds lo hi))) | none => False) := q
    cases e : itemsD h (.ref a) with
    | none => rw [e] at q'; exact q'.elim
    | some ds => rw [e] at q'; exact im_slL r rh e (fun _ z => by cases z) q' u
  case sc ds => exact im_slL r rh rfl (fun _ z => by cases z) q u
  all_goals exact (q : False).elim
theorem e_sl (he : PE X e (liftE X.K te)) (hl : PO X lo (liftO X.K tl)) (hu : PO X hi (liftO X.K th)) : PE X (.Subscript e (.Slice lo hi none p2) pos) (liftE X.K (dSl te tl th)) := impE (pe_slice sl_V he hl hu) fun σ H Q ⟨ρ, h, Qd, rel, q, u⟩ =>
  ⟨ρ, h, _, rel, q, fun x h1 q1 v1 H1 r1 g1 t1 => ⟨ρ, h1, _, rel.at t1 g1, q1, fun l h2 q2 H2 g2 t2 => ⟨ρ, h2, _, (rel.at t1 g1).at t2 g2, q2, fun w h3 q3 H3 g3 t3 => im_sl (r1.mono (t2.trans t3)) g3 q3 (u.at (t1.trans (t2.trans t3)))⟩⟩⟩
end
end Dl
end
section
namespace Dl
open PySem PySem.Spec PyProof.Rows L2

def dNext : DTS := fun D ρ h => D.nx ρ h
def dSeq (t u : DTS) : DTS := fun D ρ h => t { D with nx := u D } ρ h
def dBrk : DTS := fun D ρ h => D.bk ρ h
def dCont : DTS := fun D ρ h => D.ct ρ h
def dDrop (t : DTE) : DTS := fun D ρ h => t ρ h fun _ h1 => D.nx ρ h1
def dRet (t : DTE) : DTS := fun D ρ h => t ρ h D.rt
def dRetN : DTS := fun D _ h => D.rt .non h
def dIfS (c : DTT) (t u : DTS) : DTS := fun D ρ h => c ρ h fun b h1 => if b = true then t D ρ h1 else u D ρ h1
def dNever : DTS := fun _ _ _ => False
section
variable {X : Cx} {st : Stmt} {rest a b : List Stmt} {t u : DTS} {e c : Expr} {te : DTE} {tc : DTT} {pos : Pos}
theorem ss_nil : PSs X [] (liftS X.K dNext) := impSs pss_nil fun D σ H ⟨ρ, h, Dd, rel, q, w⟩ => w.nx ρ h q σ H rel (Tst.refl H)
theorem ss_cons (h1 : PS X st (liftS X.K t)) (h2 : PSs X rest (liftS X.K u)) : PSs X (st :: rest) (liftS X.K (dSeq t u)) := impSs (pss_cons h1 h2) fun D σ H ⟨ρ, h, Dd, rel, q, w⟩ =>
  ⟨ρ, h, { Dd with nx := u Dd }, rel, q, ⟨fun ρ' h' q' σ' H' rel' t' => ⟨ρ', h', Dd, rel', q', w.at t'⟩, w.rt, w.bk, w.ct⟩⟩
theorem ss_one (h1 : PS X st (liftS X.K t)) : PSs X [st] (liftS X.K t) := pss_one h1
theorem s_pass : PS X (.Pass pos) (liftS X.K dNext) := impS ps_pass fun D σ H ⟨ρ, h, Dd, rel, q, w⟩ => w.nx ρ h q σ H rel (Tst.refl H)
theorem s_break : PS X (.Break pos) (liftS X.K dBrk) := impS ps_break fun D σ H ⟨ρ, h, Dd, rel, q, w⟩ => w.bk ρ h q σ H rel (Tst.refl H)
theorem s_continue : PS X (.Continue pos) (liftS X.K dCont) := impS ps_continue fun D σ H ⟨ρ, h, Dd, rel, q, w⟩ => w.ct ρ h q σ H rel (Tst.refl H)
theorem s_expr (he : PE X e (liftE X.K te)) (hs : swapsWith e none pos.line X.env = pure false := by rfl) : PS X (.Expr e pos) (liftS X.K (dDrop te)) := impS (ps_expr he hs) fun D σ H ⟨ρ, h, Dd, rel, q, w⟩ =>
  ⟨ρ, h, _, rel, q, fun d h1 q1 v H1 r1 g1 t1 => w.nx ρ h1 q1 σ H1 (rel.at t1 g1) t1⟩
theorem s_ret (he : PE X e (liftE X.K te)) : PS X (.Return (some e) pos) (liftS X.K (dRet te)) := impS (ps_ret he) fun D σ H ⟨ρ, h, Dd, rel, q, w⟩ => ⟨ρ, h, Dd.rt, rel, q, w.rt⟩
theorem s_retN : PS X (.Return none pos) (liftS X.K dRetN) := impS ps_retN fun D σ H ⟨ρ, h, Dd, rel, q, w⟩ => w.rt _ _ q .non H rfl rel.h (Tst.refl H)
theorem s_if (hc : PT X c (liftT X.K tc)) (ha : PSs X a (liftS X.K t)) (hb : PSs X b (liftS X.K u)) : PS X (.If c a b pos) (liftS X.K (dIfS tc t u)) := impS (ps_if hc ha hb) fun D σ H ⟨ρ, h, Dd, rel, q, w⟩ =>
  ⟨ρ, h, _, rel, q, fun c h1 q1 H1 g1 t1 => by
    cases c
    · exact ⟨ρ, h1, Dd, rel.at t1 g1, q1, w.at t1⟩
    · exact ⟨ρ, h1, Dd, rel.at t1 g1, q1, w.at t1⟩⟩
theorem s_never : PS X st (liftS X.K dNever) := impS ps_never fun D σ H ⟨_, _, _, _, q, _⟩ => q
theorem ss_never : PSs X rest (liftS X.K dNever) := impSs pss_never fun D σ H ⟨_, _, _, _, q, _⟩ => q
end

abbrev DTG := D → DEnv → Hd → (DEnv → Hd → Prop) → Prop
abbrev DTGs := List D → DEnv → Hd → (DEnv → Hd → Prop) → Prop
def liftG (K : PySem.W.Frag) (t : DTG) : TG := fun v σ H Q => ∃ d ρ h Qd, RD K H d v ∧ Rel K ρ h σ H ∧ t d ρ h Qd ∧ UpS K H Qd Q
def liftGs (K : PySem.W.Frag) (t : DTGs) : TGs := fun vs σ H Q => ∃ ds ρ h Qd, RDs K H ds vs ∧ Rel K ρ h σ H ∧ t ds ρ h Qd ∧ UpS K H Qd Q
def dgName (i : Nat) : DTG := fun d ρ h Q => Q (ρ.set i (some d)) h
def dgNil : DTGs := fun ds ρ h Q => match ds with
  | [] => Q ρ h
  | _ => False
def dgCons (t : DTG) (u : DTGs) : DTGs := fun ds ρ h Q => match ds with
  | d :: r => t d ρ h fun ρ' h' => u r ρ' h' Q
  | [] => False
def dgTup (t : DTGs) : DTG := fun d ρ h Q => match d with
  | .tup ds => t ds ρ h Q
  | _ => False
def dAsg (te : DTE) (g : DTG) : DTS := fun D ρ h => te ρ h fun d h1 => g d ρ h1 D.nx
theorem impG {X : Cx} {e : Expr} {t t' : TG} (p : PG X e t) (h : ∀ v σ H Q, t' v σ H Q → t v σ H Q) : PG X e t' := ⟨fun pins s σ H v u Q I r q => p.run pins s σ H v u Q I r (h v σ H Q q)⟩
theorem impGs {X : Cx} {e : List Expr} {t t' : TGs} (p : PGs X e t) (h : ∀ v σ H Q, t' v σ H Q → t v σ H Q) : PGs X e t' := ⟨fun pins s σ H v u Q I r q => p.run pins s σ H v u Q I r (h v σ H Q q)⟩
section
variable {X : Cx} {pos : Pos} {e : Expr} {es : List Expr} {t : DTG} {u : DTGs} {te : DTE}
theorem g_name {i : Nat} {x : Str} (hN : X.N.Nodup) (hi : X.N[i]? = some x := by rfl) (hx : Loc X.env.scope x := by first | exact Or.inl rfl | exact Or.inr rfl) (hf : X.fn x = true ∨ X.env.scope.names.lookup x = some .local := by first | exact .inl rfl | exact .inr rfl | assumption) : PG X (.Name x pos) (liftG X.K (dgName i)) :=
  impG (pg_name hN hi hx hf) fun v σ H Q ⟨d, ρ, h, Qd, r, rel, q, w⟩ => w _ _ q _ _ ⟨rel.s.set i r, rel.h⟩ (Tst.refl H)
theorem gs_nil : PGs X [] (liftGs X.K dgNil) := impGs pgs_nil fun v σ H Q ⟨ds, ρ, h, Qd, r, rel, q, w⟩ => by
  cases ds with
  | nil => exact ⟨r, w _ _ q _ _ rel (Tst.refl H)⟩
  | cons _ _ => exact (q : False).elim
theorem gs_cons (h1 : PG X e (liftG X.K t)) (h2 : PGs X es (liftGs X.K u)) (hs : (assignEach (e :: es) X.env).map (·.2) = assign e X.env :: (assignEach es X.env).map (·.2) := by rfl) : PGs X (e :: es) (liftGs X.K (dgCons t u)) := impGs (pgs_cons h1 h2 hs) fun v σ H Q ⟨ds, ρ, h, Qd, r, rel, q, w⟩ => by
  cases ds with
  | nil => exact (q : False).elim
  | cons d ds =>
    obtain ⟨v1, vs, rfl, r1, r2⟩ := r
    exact ⟨v1, vs, rfl, d, ρ, h, _, r1, rel, q, fun ρ' h' q' σ' H' rel' t' => ⟨ds, ρ', h', Qd, r2.mono t', rel', q', fun ρ2 h2 q2 σ2 H2 rel2 t2 => w ρ2 h2 q2 σ2 H2 rel2 (t'.trans t2)⟩⟩
theorem g_tup {k n : Nat} (hc : X.calm = true) (h : PGs X es (liftGs X.K u)) (hn : (assignEach es X.env).length = n := by rfl) (hst : (assignEach es X.env).findIdx? (·.1) = none := by rfl) : PG X (.Tuple es k pos) (liftG X.K (dgTup fun ds ρ h Q => ds.length = n ∧ u ds ρ h Q)) :=
  impG (pg_tup hc h hn hst) fun v σ H Q ⟨d, ρ, h, Qd, r, rel, q, w⟩ => by
    cases d <;> first | exact (q : False).elim | skip
    case tup ds =>
    obtain ⟨a, vs, rfl, s, g, l⟩ := r
    exact ⟨a, vs, rfl, s, by rw [g.length]; exact q.1, ds, ρ, h, Qd, g, rel, q.2, w⟩
theorem s_asg {tg : Expr} (he : PE X e (liftE X.K te)) (hg : PG X tg (liftG X.K t)) (hs : swapsWithSole [tg] e pos.line X.env = pure false := by rfl) (hw : swappedStores [tg] e X.env = pure none := by rfl) (h1 : (assignEach [tg] X.env).map (·.2) = [assign tg X.env] := by rfl) : PS X (.Assign [tg] e pos) (liftS X.K (dAsg te t)) :=
  impS (ps_asg he hg hs hw h1) fun D σ H ⟨ρ, h, Dd, rel, q, w⟩ => ⟨ρ, h, _, rel, q, fun d h1 q1 v H1 r1 g1 t1 => ⟨d, ρ, h1, Dd.nx, r1, rel.at t1 g1, q1, w.nx.at t1⟩⟩
theorem s_set {i : Nat} {x : Str} {pos' : Pos} (hN : X.N.Nodup) (he : PE X e (liftE X.K te)) (hi : X.N[i]? = some x := by rfl) (hx : Loc X.env.scope x := by first | exact Or.inl rfl | exact Or.inr rfl) (hs : swapsWith e (some (.Name x pos')) pos.line X.env = pure false := by rfl) (hf : X.fn x = true ∨ X.env.scope.names.lookup x = some .local := by first | exact .inl rfl | exact .inr rfl | assumption) :
    PS X (.Assign [.Name x pos'] e pos) (liftS X.K (dAsg te (dgName i))) := impS (ps_set hN hi hx he hs hf) fun D σ H ⟨ρ, h, Dd, rel, q, w⟩ => ⟨ρ, h, _, rel, q, fun d h1 q1 v H1 r1 g1 t1 => w.nx _ _ q1 _ _ ⟨(rel.s.mono t1).set i r1, g1⟩ t1⟩
def setD (o i v : D) (h : Hd) (Q : Hd → Prop) : Prop := match o, i with
  | .ref p, .int k => ∃ ds j, h p = some (.lst ds) ∧ ixN ds.length k = some j ∧ Q (up h p (.lst (ds.set j v)))
  | _, _ => False
def dgSub (to ti : DTE) : DTG := fun v ρ h Q => to ρ h fun o h1 => ti ρ h1 fun i h2 => setD o i v h2 fun h3 => Q ρ h3
theorem g_sub {o i : Expr} {to ti : DTE} (ho : PE X o (liftE X.K to)) (hi : PE X i (liftE X.K ti)) (ha : ∀ v, assign (.Subscript o i pos) X.env v = (do let ov ← holding [v] (eval o X.env); let iv ← holding [v, ov] (eval i X.env); standAt pos; holding [v, ov, iv] (setItem ov iv v); release [v, ov, iv] []) := by intro _; rfl) :
    PG X (.Subscript o i pos) (liftG X.K (dgSub to ti)) := impG (pg_sub ho hi set_list ha) fun v σ H Q ⟨d, ρ, h, Qd, r, rel, q, w⟩ =>
  ⟨ρ, h, _, rel, q, fun x h1 q1 v1 H1 r1 g1 t1 => ⟨ρ, h1, _, rel.at t1 g1, q1, fun y h2 q2 v2 H2 r2 g2 t2 => by
    cases x <;> cases y <;> first | exact (q2 : False).elim | skip
    case ref.int p k =>
    obtain rfl : v1 = .ref p := r1
    obtain rfl : v2 = .int k := r2
    obtain ⟨ds, j, e, ej, q3⟩ := q2
    obtain ⟨vs, f, g, l⟩ := lst_of g2 e
    have t3 : Tst H2 (upd H2 p (.lst (vs.set j v))) := tst_upd f trivial
    refine ⟨p, vs, k, j, rfl, rfl, f, by rw [g.length]; exact ej, w _ _ q3 _ _ ⟨rel.s.mono (t1.trans (t2.trans t3)), ?_⟩ (t1.trans (t2.trans t3))⟩
    exact g2.upd t3 ⟨_, upd_same, (g.mono t3).set (r.mono (t1.trans (t2.trans t3))) j, by rw [List.length_set]; exact l⟩⟩⟩
end

theorem RFs.look {K : PySem.W.Frag} {H : Hp} {f : Str} : ∀ {fs : List (Str × D)} {fv : List (Str × V)} {d : D}, RFs K H fs fv → fs.lookup f = some d → ∃ v, fv.lookup f = some v ∧ RD K H d v
  | [], _, _, _, e => by cases e
  | (g, x) :: fs, fv, d, r, e => by
    obtain ⟨v, rest, rfl, r1, r2⟩ := r
    unfold List.lookup at e ⊢
    cases z : f == g with
    | true => rw [z] at e; simp only [Option.some.injEq] at e; subst e; exact ⟨v, rfl, r1⟩
    | false => rw [z] at e; exact RFs.look r2 e
theorem RFs.look0 {K : PySem.W.Frag} {H : Hp} {f : Str} : ∀ {fs : List (Str × D)} {fv : List (Str × V)}, RFs K H fs fv → fs.lookup f = none → fv.lookup f = none
  | [], _, r, _ => by have z : _ = [] := r; subst z; rfl
  | (g, x) :: fs, fv, r, e => by
    obtain ⟨v, rest, rfl, r1, r2⟩ := r
    unfold List.lookup at e ⊢
    cases z : f == g with
    | true => rw [z] at e; cases e
    | false => rw [z] at e; exact RFs.look0 r2 e
def putD (f : Str) (d : D) : List (Str × D) → List (Str × D)
  | [] => [(f, d)]
  | (g, x) :: r => if g = f then (g, d) :: r else (g, x) :: putD f d r
theorem RFs.put {K : PySem.W.Frag} {H : Hp} {f : Str} {d : D} {v : V} (rd : RD K H d v) : ∀ {fs : List (Str × D)} {fv : List (Str × V)}, RFs K H fs fv → RFs K H (putD f d fs) (putF f v fv)
  | [], _, r => by have z : _ = [] := r; subst z; exact ⟨v, [], rfl, rd, rfl⟩
  | (g, x) :: fs, fv, r => by
    obtain ⟨u, rest, rfl, r1, r2⟩ := r
    unfold putD putF
    by_cases z : g = f
    · rw [if_pos z, if_pos z]; exact ⟨v, rest, rfl, rd, r2⟩
    · rw [if_neg z, if_neg z]; exact ⟨u, _, rfl, r1, RFs.put rd r2⟩
theorem RFs.length {κ : Type} {K : PySem.W.Frag} {H : Hp} : ∀ {fs : List (κ × D)} {fv : List (κ × V)}, RFs K H fs fv → fv.length = fs.length
  | [], _, r => by have z : _ = [] := r; subst z; rfl
  | (g, x) :: fs, fv, r => by
    obtain ⟨u, rest, rfl, r1, r2⟩ := r
    rw [List.length_cons, List.length_cons, RFs.length r2]
def dFld (C : Addr) (ta : DTE) (f : Str) : DTE := fun ρ h Q => ta ρ h fun x h1 => match x with
  | .ref a => ∃ fs d, h1 a = some (.ins C fs) ∧ fs.lookup f = some d ∧ Q d h1
  | _ => False
def dFldS (C : Addr) (ta tv : DTE) (f : Str) : DTS := fun D ρ h => tv ρ h fun y h1 => ta ρ h1 fun x h2 => match x with
  | .ref a => ∃ fs, h2 a = some (.ins C fs) ∧ fs.length < 1000 ∧ D.nx ρ (up h2 a (.ins C (putD f y fs)))
  | _ => False
section
variable {X : Cx} {o e value : Expr} {f : Str} {pos pos' : Pos} {ta tv : DTE} {C : Addr}
theorem e_fld (c : Cls X.K C) (n : NoAttr X.K C f) (he : PE X e (liftE X.K ta)) (hb : attributeBase e f X.env (eval e X.env) = eval e X.env := by rfl) : PE X (.Attribute e f pos) (liftE X.K (dFld C ta f)) := impE (pe_fld he hb) fun σ H Q ⟨ρ, h, Qd, rel, q, u⟩ =>
  ⟨ρ, h, _, rel, q, fun x h1 q1 v H1 r1 g1 t1 => by
    cases x <;> first | exact (q1 : False).elim | skip
    case ref a =>
    obtain ⟨fs, d, e1, e2, q2⟩ := q1
    obtain ⟨dx, fv, g, r⟩ := g1 a _ e1
    obtain ⟨w, e3, rw'⟩ := r.look e2
    exact ⟨a, C, dx, fv, w, r1, g, c, n, e3, u _ _ q2 _ _ rw' g1 t1⟩⟩
theorem s_fld (c : Cls X.K C) (n : NoAttr X.K C f) (ha : PE X o (liftE X.K ta)) (hv : PE X value (liftE X.K tv)) (hs : swapsWith value (some (.Attribute o f pos')) pos.line X.env = pure false := by rfl) : PS X (.Assign [.Attribute o f pos'] value pos) (liftS X.K (dFldS C ta tv f)) := impS (ps_fld ha hv hs) fun D σ H ⟨ρ, h, Dd, rel, q, w⟩ =>
  ⟨ρ, h, _, rel, q, fun y h1 q1 v1 H1 r1 g1 t1 => ⟨ρ, h1, _, rel.at t1 g1, q1, fun x h2 q2 v2 H2 r2 g2 t2 => by
    cases x <;> first | exact (q2 : False).elim | skip
    case ref a =>
    obtain ⟨fs, e1, hl, q3⟩ := q2
    obtain ⟨dx, fv, g, r⟩ := g2 a _ e1
    have t3 : Tst H2 (upd H2 a (.ins C dx (putF f v1 fv))) := tst_upd g trivial
    refine ⟨a, C, dx, fv, r2, g, c, n, by rw [r.length]; exact hl, w.nx _ _ q3 _ _ ⟨rel.s.mono (t1.trans (t2.trans t3)), ?_⟩ (t1.trans (t2.trans t3))⟩
    exact g2.upd t3 ⟨dx, _, upd_same, (r.mono t3).put (r1.mono (t2.trans t3))⟩⟩⟩
end

def dCall (sp : DSp) (W : DWX) (t : DTA) : DTE := fun ρ h Q => t ρ h fun ds h1 => sp ds h1 Q fun cls fs h2 => W cls fs ρ h2
def dMeth (C : Addr) (m : Str) (sp : DSp) (W : DWX) (to : DTE) (t : DTA) : DTE := fun ρ h Q => to ρ h fun x h1 => match x with
  | .ref a => ∃ fs, h1 a = some (.ins C fs) ∧ fs.lookup m = none ∧ t ρ h1 fun ds h2 => sp (.ref a :: ds) h2 Q fun cls fs h3 => W cls fs ρ h3
  | _ => False
def dMake (C : Addr) (sp : DSp) (W : DWX) (t : DTA) : DTE := fun ρ h Q => t ρ h fun ds h1 => ∀ x, h1 x = none → sp (.ref x :: ds) (up h1 x (.ins C [])) (fun v h2 => v = .non ∧ Q (.ref x) h2) fun cls fs h3 => W cls fs ρ h3
abbrev W0 : DWX := fun _ _ _ _ => False
abbrev CXd (X : Cx) : CXT := L2.CX X.prog X.w
abbrev DFn (P : Program) (w : World) (K : PySem.W.Frag) (mg : Str → Option Value) (base : Heap) (k : Nat) (f : Addr) (fd : FuncData) (ps : List Str) (sp : DSp) : Prop := FnOk P w K mg base (L2.CX P w) k f fd ps (liftSp K sp)
theorem liftSp_of {K : PySem.W.Frag} {sp : DSp} {ds : List D} {vs : List V} {h : Hd} {H H0 : Hp} {Qd : DK} {Q : VK} {Ed : DXK} {E : XK} (r : RDs K H ds vs) (g : RH K H h) (q : sp ds h Qd Ed) (u : UpE K H Qd Q)
    (x : ∀ cls fs h', Ed cls fs h' → ∀ od H', RX K H' fs od → RH K H' h' → Tst H H' → E cls od H') : liftSp K sp vs H Q E := ⟨ds, h, Qd, Ed, r, g, q, u, x⟩
section
variable {X : Cx} {k : Nat} {f : Addr} {fd : FuncData} {ps : List Str} {sp : DSp} {x : Str} {p pos apos : Pos} {e o : Expr} {es : List Expr} {t : DTA} {to : DTE} {W : DWX} {C : Addr} {m : Str}
theorem e_call (F : DFn X.prog X.w X.K X.mg X.base k f fd ps sp) (hb : Binds X.K fd ps []) (hk : PySem.W.keepIn X.K (.ref f) = true) (hm : X.mg x = some (.ref f)) (hr : Room k X.A) (tk : Takes X (liftW X.K W)) (ha : PA X (e :: es) (liftA X.K t)) (hg : Gl X x := by rfl) (hdb : (x == ("__debug__" : Str)) = false := by decide)
    (he : starEach (e :: es) X.env = (false, eval e X.env) :: starEach es X.env := by rfl) (hpl : (backTo pos (starEach es X.env)).any (·.1) = false := by rfl) : PE X (.Call (.Name x p) (e :: es) [] pos) (liftE X.K (dCall sp W t)) :=
  impE (pe_callS F hr hg hm hk hb (fun σ => passAt tk σ) ha hdb he hpl) fun σ H Q ⟨ρ, h, Qd, rel, q, u⟩ => ⟨ρ, h, _, rel, q, fun ds h1 q1 vs H1 r1 g1 t1 => ⟨ds, h1, Qd, _, r1, g1, q1, u.at t1, fun cls fs h' w od H' rx g' t' => ⟨fs, ρ, h', (rel.at t1 g1).at t' g', rx, w⟩⟩⟩
abbrev MethTree (X : Cx) (o : Expr) (m : Str) (apos pos : Pos) (es : List Expr) (pl : Sem Bool) : Prop := eval (.Call (.Attribute o m apos) es [] pos) X.env = (eval o X.env >>= fun ov => standAt apos.atName >>= fun _ => holding [ov] (getMethod ov m pl) >>= fun r => callWith pos r.1 r.2 (backTo pos (starEach es X.env)) (backToKw pos (keywordEach [] X.env)))
def tMethE (C : Addr) (m : Str) (sp : Sp) (E : L2.St → XK) (ta : TE) (t : TA) : TE := fun σ H Q => ta σ H fun v H1 => ∃ a dx fs, v = .ref a ∧ H1 a = some (.ins C dx fs) ∧ List.lookup m fs = none ∧ t σ H1 fun vs H2 => sp (.ref a :: vs) H2 Q (E σ)
theorem v_meth {spV : Sp} {E : L2.St → XK} {ta : TE} {tV : TA} {pl : Sem Bool} (F : FnOk X.prog X.w X.K X.mg X.base (CXd X) k f fd ps spV) (hb : Binds X.K fd ps []) (c : Cls X.K C) (hm : Meth X.K C m f) (hr : Room k X.A) (hx : ∀ σ, PassesAt (CXd X) X σ (E σ)) (ho : PE X o ta) (ha : PA X (e :: es) tV)
    (hst : starEach (e :: es) X.env = (false, eval e X.env) :: starEach es X.env := by rfl) (hpl : (backTo pos (starEach es X.env)).any (·.1) = false := by rfl) (ht : MethTree X o m apos pos (e :: es) pl := by rfl) : PE X (.Call (.Attribute o m apos) (e :: es) [] pos) (tMethE C m spV E ta tV) := ⟨fun pins s σ H Q I h => by
  refine PySem.W.methodCall_KW (pl := pl) (thn (ho.run pins s σ H _ I h) fun uv s1 hh => ?_) ht
  obtain ⟨v, H1, I1, rv, a, dx, fs, rfl, ea, l, q⟩ := hh
  obtain rfl : uv = Value.ref a := rv
  refine getmeth_ok I1 ea c hm l (PySem.W.callWith_K (first := [.ref a]) (h₀ := X.base) I.ok.mod.kin hm.kp (thn (ha.run pos pins s1 σ H1 _ I1 q) fun us s2 hh => ?_) hst hpl)
  obtain ⟨vs, H2, I2, r, q2⟩ := hh
  exact ⟨I2.kIn, run_fnS (us := .ref a :: us) (vs := .ref a :: vs) F hr hb (hx σ) I2 (.cons rfl r) q2⟩⟩
theorem v_meth0 {spV : Sp} {E : L2.St → XK} {ta : TE} {pl : Sem Bool} (F : FnOk X.prog X.w X.K X.mg X.base (CXd X) k f fd ps spV) (hb : Binds X.K fd ps []) (c : Cls X.K C) (hm : Meth X.K C m f) (hr : Room k X.A) (hx : ∀ σ, PassesAt (CXd X) X σ (E σ)) (ho : PE X o ta)
    (ht : MethTree X o m apos pos [] pl := by rfl) : PE X (.Call (.Attribute o m apos) [] [] pos) (tMethE C m spV E ta tNil) := ⟨fun pins s σ H Q I h => by
  refine PySem.W.methodCall_KW (pl := pl) (thn (ho.run pins s σ H _ I h) fun uv s1 hh => ?_) ht
  obtain ⟨v, H1, I1, rv, a, dx, fs, rfl, ea, l, q⟩ := hh
  obtain rfl : uv = Value.ref a := rv
  refine getmeth_ok I1 ea c hm l (PySem.W.callWith_K0 (first := [.ref a]) I1.kIn hm.kp ?_)
  exact run_fnS (us := [.ref a]) (vs := [.ref a]) F hr hb (hx σ) I1 (.cons rfl .nil) q⟩
theorem d_meth {E' : Expr} {tV : TA} (h : PE X E' (tMethE C m (liftSp X.K sp) (WE (liftW X.K W)) (liftE X.K to) (liftA X.K t))) : PE X E' (liftE X.K (dMeth C m sp W to t)) := impE h fun σ H Q ⟨ρ, h, Qd, rel, q, u⟩ =>
  ⟨ρ, h, _, rel, q, fun x h1 q1 v H1 r1 g1 t1 => by
    cases x <;> first | exact (q1 : False).elim | skip
    case ref a =>
    obtain ⟨fs, e1, e2, q2⟩ := q1
    obtain ⟨dx, fv, g, r⟩ := g1 a _ e1
    exact ⟨a, dx, fv, r1, g, r.look0 e2, ρ, h1, _, rel.at t1 g1, q2, fun ds h2 q3 vs H2 r2 g2 t2 => ⟨.ref a :: ds, h2, Qd, _, ⟨_, _, rfl, rfl, r2⟩, g2, q3, u.at (t1.trans t2), fun cls fs h' w od H' rx g' t' => ⟨fs, ρ, h', ((rel.at t1 g1).at t2 g2).at t' g', rx, w⟩⟩⟩⟩
theorem e_meth {pl : Sem Bool} (F : DFn X.prog X.w X.K X.mg X.base k f fd ps sp) (hb : Binds X.K fd ps []) (c : Cls X.K C) (hm : Meth X.K C m f) (hr : Room k X.A) (tk : Takes X (liftW X.K W)) (ho : PE X o (liftE X.K to)) (ha : PA X (e :: es) (liftA X.K t))
    (hst : starEach (e :: es) X.env = (false, eval e X.env) :: starEach es X.env := by rfl) (hpl : (backTo pos (starEach es X.env)).any (·.1) = false := by rfl) (ht : MethTree X o m apos pos (e :: es) pl := by rfl) : PE X (.Call (.Attribute o m apos) (e :: es) [] pos) (liftE X.K (dMeth C m sp W to t)) := d_meth (tV := tNil) (v_meth F hb c hm hr (fun σ => passAt tk σ) ho ha hst hpl ht)
def dMeth0 (C : Addr) (m : Str) (sp : DSp) (W : DWX) (to : DTE) : DTE := dMeth C m sp W to dNil
theorem e_meth0 {pl : Sem Bool} (F : DFn X.prog X.w X.K X.mg X.base k f fd ps sp) (hb : Binds X.K fd ps []) (c : Cls X.K C) (hm : Meth X.K C m f) (hr : Room k X.A) (tk : Takes X (liftW X.K W)) (ho : PE X o (liftE X.K to)) (ht : MethTree X o m apos pos [] pl := by rfl) :
    PE X (.Call (.Attribute o m apos) [] [] pos) (liftE X.K (dMeth0 C m sp W to)) := by
  have h0 := v_meth0 F hb c hm hr (fun σ => passAt tk σ) ho ht
  refine d_meth (tV := tNil) (impE h0 fun σ H Q q => ?_)
  obtain ⟨ρ, h, Qd, rel, q, u⟩ := q
  refine ⟨ρ, h, Qd, rel, q, fun d h1 q1 v H1 r1 g1 t1 => ?_⟩
  obtain ⟨a, dx, fs, e1, e2, e3, ρ', h', Qd', rel', q', u'⟩ := u d h1 q1 v H1 r1 g1 t1
  exact ⟨a, dx, fs, e1, e2, e3, u' [] h' q' [] H1 rfl rel'.h (Tst.refl H1)⟩

def tMakeE (C : Addr) (sp : Sp) (E : L2.St → XK) (t : TA) : TE := fun σ H Q => t σ H fun vs H1 => ∀ x dx, H1 x = none → H1 dx = none → dx ≠ x → sp (.ref x :: vs) (upd (upd H1 dx (.own x)) x (.ins C dx [])) (fun v H2 => v = .non ∧ Q (.ref x) H2) (E σ)
theorem v_make {spV : Sp} {E : XK} {pins : List (Addr × Obj)} {σ : L2.St} {H : Hp} {s : Shared} {Q : VK} {us : List Value} {vs : List V} (M : Mk X.K C f) (F : FnOk X.prog X.w X.K X.mg X.base (CXd X) k f fd ps spV) (hr : Room (k + 1) X.A) (hb : Binds X.K fd ps []) (hx : PassesAt (CXd X) X σ E) (I : Inv X pins σ H s) (r : Vals vs us)
    (h : ∀ x dx, H x = none → H dx = none → dx ≠ x → spV (.ref x :: vs) (upd (upd H dx (.own x)) x (.ins C dx [])) (fun v H2 => v = .non ∧ Q (.ref x) H2) E) : wpAny (model X.prog X.w) X.A (call (.ref C) us) (EP X pins σ Q) X.xe s := by
  have z : s.heap.objs.size ≠ s.heap.objs.size + 1 := by omega
  have hq := h (s.heap.objs.size + 1) s.heap.objs.size (I.hok.fresh (Nat.le_add_right _ 1)) (I.hok.fresh (Nat.le_refl _)) z
  have I2 := Inv.made (C := C) I
  have r2 : Vals (V.ref (s.heap.objs.size + 1) :: vs) (Value.ref (s.heap.objs.size + 1) :: us) := .cons rfl r
  have hl : (Value.ref (s.heap.objs.size + 1) :: us).length = ps.length := by rw [← r2.length]; exact F.len _ _ _ _ hq
  have b := hb _ (Value.ref (s.heap.objs.size + 1) :: us) I2.kIn (by rw [List.append_nil]; exact hl)
  rw [List.append_nil] at b
  have run := F.run _ X.stack _ _ ⟨_, []⟩ _ _ _ E (hr.make C us []) (I2.env0.make C us []) b r2 hq
  refine wpAny_call (make_map (f := f) I.kIn M.makes M.init (beq_iff_eq.mp M.fn) (codeAny_mono run fun res s' hq' => ?_))
  cases res with
  | error e => exact hx pins _ _ e s' I2 hq'
  | ok fl =>
    cases fl <;> first | exact False.elim hq' | skip
    case ret u =>
    obtain ⟨v, H', I3, rv, rfl, q3⟩ := I2.after hq'
    exact ⟨rv, ⟨V.ref (s.heap.objs.size + 1), H', I3, rfl, q3⟩⟩
theorem d_make {E' : Expr} (h : PE X E' (tMakeE C (liftSp X.K sp) (WE (liftW X.K W)) (liftA X.K t))) : PE X E' (liftE X.K (dMake C sp W t)) := impE h fun σ H Q ⟨ρ, h, Qd, rel, q, u⟩ =>
  ⟨ρ, h, _, rel, q, fun ds h1 q1 vs H1 r1 g1 t1 x dx n1 n2 ne => by
    have t2 : Tst H1 (upd (upd H1 dx (.own x)) x (.ins C dx [])) := (tst_new n2).trans (tst_new (by rw [upd_ne (Ne.symm ne)]; exact n1))
    have g2 : RH X.K (upd H1 dx (.own x)) h1 := fun b o e => (g1 b o e).keep (tst_new n2) fun w e2 => by rw [upd_ne (ne_of_none e2 n2)]; exact e2
    have g3 : RH X.K (upd (upd H1 dx (.own x)) x (.ins C dx [])) (up h1 x (.ins C [])) := g2.new (by rw [upd_ne (Ne.symm ne)]; exact n1) ⟨dx, [], upd_same, rfl⟩
    refine ⟨.ref x :: ds, _, _, _, ⟨_, _, rfl, rfl, r1.mono t2⟩, g3, q1 x (g1.none_of n1), fun d h' q2 v H' r' g' t' => ?_, fun cls fs h' w od H' rx g' t' => ⟨fs, ρ, h', ((rel.at t1 g1).s.mono (t2.trans t')) |> fun s => ⟨s, g'⟩, rx, w⟩⟩
    obtain ⟨rfl, q3⟩ := q2
    exact ⟨r', u _ _ q3 _ _ rfl g' (t1.trans (t2.trans t'))⟩⟩
theorem e_make (M : Mk X.K C f) (F : DFn X.prog X.w X.K X.mg X.base k f fd ps sp) (hb : Binds X.K fd ps []) (hm : X.mg x = some (.ref C)) (hr : Room (k + 1) X.A) (tk : Takes X (liftW X.K W)) (ha : PA X (e :: es) (liftA X.K t)) (hg : Gl X x := by rfl) (hdb : (x == ("__debug__" : Str)) = false := by decide)
    (he : starEach (e :: es) X.env = (false, eval e X.env) :: starEach es X.env := by rfl) (hpl : (backTo pos (starEach es X.env)).any (·.1) = false := by rfl) : PE X (.Call (.Name x p) (e :: es) [] pos) (liftE X.K (dMake C sp W t)) := d_make ⟨fun pins s σ H Q I h => by
  refine wpAny_Call_Name_kw (ld_glob I hg hm (PySem.W.callWith_K (h₀ := X.base) I.ok.mod.kin M.kp (thn (ha.run pos pins s σ H _ I h) fun us s1 hh => ?_) he hpl) hdb)
  obtain ⟨vs, H1, I1, r, q⟩ := hh
  exact ⟨I1.kIn, v_make M F hr hb (passAt tk σ) I1 r q⟩⟩
theorem e_make0 (M : Mk X.K C f) (F : DFn X.prog X.w X.K X.mg X.base k f fd ps sp) (hb : Binds X.K fd ps []) (hm : X.mg x = some (.ref C)) (hr : Room (k + 1) X.A) (tk : Takes X (liftW X.K W)) (hg : Gl X x := by rfl) (hdb : (x == ("__debug__" : Str)) = false := by decide) : PE X (.Call (.Name x p) [] [] pos) (liftE X.K (dMake C sp W dNil)) := d_make ⟨fun pins s σ H Q I h => by
  obtain ⟨ρ, h', Qd, rel, q, u⟩ := h
  exact wpAny_Call_Name_kw (ld_glob I hg hm (PySem.W.callWith_K0 I.kIn M.kp (v_make (us := []) M F hr hb (passAt tk σ) I .nil (u [] h' q [] H rfl rel.h (Tst.refl H)))) hdb)⟩
theorem takes_none {X : Cx} : Takes X (liftW X.K W0) := fun u s' ⟨_, _, _, _, _, _, _, _, _, _, _, _, _, _, _, _, w⟩ => by
  obtain ⟨_, _, _, _, _, z⟩ := w
  exact z.elim
end

def dstart (N : List Str) (ds : List D) : DEnv := ds.map some ++ List.replicate (N.length - ds.length) none
theorem rel_start {K : PySem.W.Frag} {H : Hp} {N : List Str} {ds : List D} {vs : List V} (r : RDs K H ds vs) : RS K H (dstart N ds) (L2.start N vs) := by
  have hl := r.length
  refine ⟨by simp [dstart, L2.start, hl], fun i d e => ?_⟩
  unfold dstart at e
  unfold L2.start
  by_cases hi : i < ds.length
  · rw [List.getElem?_append_left (by simpa using hi), List.getElem?_map] at e
    cases z : ds[i]? with
    | none => rw [z] at e; cases e
    | some x =>
      rw [z] at e
      obtain rfl : x = d := by simpa using e
      obtain ⟨v, e2, rv⟩ := r.get z
      exact ⟨v, by rw [List.getElem?_append_left (by rw [List.length_map, hl]; exact hi), List.getElem?_map, e2]; rfl, rv⟩
  · rw [List.getElem?_append_right (by simp; omega)] at e
    have := List.getElem?_replicate (a := (none : Option D)) (n := N.length - ds.length) (i := i - (ds.map some).length)
    rw [this] at e
    split at e <;> cases e
section
variable {P : Program} {w : World} {K : PySem.W.Frag} {mg : Str → Option Value} {base : Heap} {x qual : Str} {params : Arguments} {body : List Stmt} {scope : Scope} {f : Addr} {fd : FuncData} {N ps : List Str} {k : Nat} {sp : DSp}
abbrev BCx (P : Program) (w : World) (K : PySem.W.Frag) (mg : Str → Option Value) (base : Heap) (N : List Str) (qual : Str) (scope : Scope) (f : Addr) (cdv : Value) (A : Around) (outer : List Env) (s : Shared) (H : Hp) (E : XK) : Cx := cxOf (L2.CX P w) P w K mg base N qual scope f cdv A outer s H E
theorem fn_ok (F : FunD K x qual params body scope [] [] f fd) (S : FnScope N ps scope) (len : ∀ ds h Q E, sp ds h Q E → ds.length = ps.length) (t : DXK → DTS)
    (hbody : ∀ (cdv : Value) (A : Around) (outer : List Env) (s : Shared) (H : Hp) (E : XK) (Ed : DXK), Room k (A.deeper (envOfC qual scope s.heap.objs.size f cdv)) → Takes (BCx P w K mg base N qual scope f cdv A outer s H E) (liftW K fun cls fs _ h => Ed cls fs h) → PSs (BCx P w K mg base N qual scope f cdv A outer s H E) body (liftS K (t Ed)))
    (hpure : ∀ ds h Q E, sp ds h Q E → t E { nx := fun _ h' => Q .non h', rt := Q } (dstart N ds) h) : DFn P w K mg base (k + 1) f fd ps sp := by
  refine F.ok S (fun vs H Q E hsp => ?_) fun cdv A outer s H vs Q E hr hsp => ?_
  · obtain ⟨ds, h, Qd, Ed, r, _, q, _⟩ := hsp
    rw [r.length]; exact len _ _ _ _ q
  · obtain ⟨ds, h, Qd, Ed, r, g, q, u, ux⟩ := hsp
    have tk : Takes (BCx P w K mg base N qual scope f cdv A outer s H E) (liftW K fun cls fs _ h => Ed cls fs h) := by
      intro uu s' xe
      obtain ⟨a, B, sI, pins, σ, H', cls, d, e1, I, e2, e3, e4, e5, e6, e7, fs, ρ, h', rel, rx, ed⟩ := xe
      have tt : Tst H H' := ⟨I.base.tups, fun b o xs e => I.base.frzs b o _ e, fun b o xs e => I.base.frzs b o _ e⟩
      exact takes_of rfl rfl rfl rfl uu s' ⟨a, B, sI, pins, σ, H', cls, d, e1, I, e2, e3, e4, e5, e6, e7, ux cls fs h' ed d H' rx rel.h tt⟩
    refine ⟨liftS K (t Ed), hbody cdv A outer s H E Ed hr tk, dstart N ds, h, _, ⟨rel_start r, g⟩, hpure ds h Qd Ed q, ⟨fun ρ h' q' σ' H' rel' t' => u _ _ q' _ _ rfl rel'.h t', u, fun _ _ z => False.elim z, fun _ _ z => False.elim z⟩⟩
end
end Dl
end
section
namespace Dl
open PySem PySem.Spec PyProof.Rows L2

structure DSrc where
  items : List D
  ok : Hd → Prop
abbrev DTI := DEnv → Hd → (DSrc → Hd → Prop) → Prop
structure Matches (K : PySem.W.Frag) (H1 : Hp) (J : It) (src : DSrc) : Prop where
  few : src.items.length ≤ sizeLine
  go : ∀ i d H h, RH K H h → Tst H1 H → src.ok h → src.items[i]? = some d → J.go i H ∧ ∀ x H', J.yld i H x H' → RD K H' d x ∧ RH K H' h ∧ Tst H H'
  stop : ∀ H h, RH K H h → Tst H1 H → src.ok h → J.stop src.items.length H
def liftI (K : PySem.W.Frag) (t : DTI) : TI := fun σ H R => ∃ ρ h Qd, Rel K ρ h σ H ∧ t ρ h Qd ∧ ∀ src h1, Qd src h1 → ∀ J H1, RH K H1 h1 → Tst H H1 → Matches K H1 J src → R J H1
theorem impI {X : Cx} {tg e : Expr} {t t' : TI} (p : PI X tg e t) (h : ∀ σ H R, t' σ H R → t σ H R) : PI X tg e t' := ⟨fun pins s σ H R I q => p.run pins s σ H R I (h σ H R q)⟩
def dLoop (ok : Hd → Prop) (g : DTG) (tb : DTS) : List D → DEnds → DEnv → Hd → Prop
  | [], Dd, ρ, h => ok h ∧ Dd.nx ρ h
  | x :: xs, Dd, ρ, h => ok h ∧ g x ρ h fun ρ' h' => tb { Dd with nx := dLoop ok g tb xs Dd, ct := dLoop ok g tb xs Dd, bk := Dd.nx } ρ' h'
def dFor (it : DTI) (g : DTG) (tb : DTS) : DTS := fun Dd ρ h => it ρ h fun src h1 => dLoop src.ok g tb src.items Dd ρ h1
theorem drop_cons {α : Type} {l : List α} {i : Nat} {x : α} {xs : List α} (h : l.drop i = x :: xs) : l[i]? = some x ∧ l.drop (i + 1) = xs ∧ i < l.length := by
  have hi : i < l.length := by
    rcases Nat.lt_or_ge i l.length with z | z
    · exact z
    · rw [List.drop_eq_nil_of_le z] at h; cases h
  rw [List.drop_eq_getElem_cons hi] at h
  injection h with h1 h2
  exact ⟨by rw [List.getElem?_eq_getElem hi, h1], h2, hi⟩
section
variable {X : Cx} {tg iter : Expr} {body : List Stmt} {it : DTI} {g : DTG} {tb : DTS} {pos : Pos}
theorem s_for (hp : PassesOwn (model X.prog X.w) X.A X.env X.xe) (hc : X.calm = true) (hi : PI X tg iter (liftI X.K it)) (hg : PG X tg (liftG X.K g)) (hb : PSs X body (liftS X.K tb)) (hs : ∀ x, foldedSetIterable iter X.env x = pure x := by intro _; rfl) : PS X (.For tg iter body [] pos) (liftS X.K (dFor it g tb)) :=
  impS (ps_for hp hc hi hg hb hs) fun D σ H ⟨ρ, h, Dd, rel, q, w⟩ => ⟨ρ, h, _, rel, q, fun src h1 q1 J H1 g1 t1 M => by
    refine ⟨fun i m σ' H' => m = src.items.length - i ∧ i ≤ src.items.length ∧ ∃ ρ' h', Rel X.K ρ' h' σ' H' ∧ Tst H1 H' ∧ dLoop src.ok g tb (src.items.drop i) Dd ρ' h', ⟨_, rfl, Nat.zero_le _, ρ, h1, rel.at t1 g1, Tst.refl H1, by rw [List.drop_zero]; exact q1⟩, fun i m σ' H' hw => ?_⟩
    obtain ⟨_, hle, ρ', h', rel', t', l⟩ := hw
    cases z : src.items.drop i with
    | nil =>
      rw [z] at l
      have e : i = src.items.length := by have := List.drop_eq_nil_iff.mp z; omega
      subst e
      exact .inl ⟨M.stop H' h' rel'.h t' l.1, w.nx _ _ l.2 _ _ rel' (t1.trans t')⟩
    | cons x xs =>
      rw [z] at l
      obtain ⟨hx, hd, hlt⟩ := drop_cons z
      obtain ⟨go, yl⟩ := M.go i x H' h' rel'.h t' l.1 hx
      refine .inr ⟨go, fun σ2 H2 => ∃ ρ2 h2, Rel X.K ρ2 h2 σ2 H2 ∧ Tst H1 H2 ∧ dLoop src.ok g tb xs Dd ρ2 h2, fun σ2 H2 hn => ?_, fun v H2 hy => ?_⟩
      · obtain ⟨ρ2, h2, r2, t2, l2⟩ := hn
        exact ⟨src.items.length - (i + 1), by omega, rfl, by omega, ρ2, h2, r2, t2, by rw [hd]; exact l2⟩
      · obtain ⟨rd, rh, t2⟩ := yl v H2 hy
        refine ⟨x, ρ', h', _, rd, rel'.at t2 rh, l.2, fun ρ2 h2 q2 σ2 H3 rel2 t3 => ⟨ρ2, h2, _, rel2, q2, ?_, ?_, ?_, ?_⟩⟩
        · exact fun ρ3 h3 q3 σ3 H4 rel3 t4 => ⟨ρ3, h3, rel3, t'.trans (t2.trans (t3.trans t4)), q3⟩
        · exact w.rt.at (t1.trans (t'.trans (t2.trans t3)))
        · exact w.nx.at (t1.trans (t'.trans (t2.trans t3)))
        · exact fun ρ3 h3 q3 σ3 H4 rel3 t4 => ⟨ρ3, h3, rel3, t'.trans (t2.trans (t3.trans t4)), q3⟩⟩
end

def dWh (c : DTT) (tb : DTS) : Nat → DEnds → DEnv → Hd → Prop
  | 0, _, _, _ => False
  | n + 1, Dd, ρ, h => c ρ h fun b h1 => if b = true then tb { Dd with nx := dWh c tb n Dd, ct := dWh c tb n Dd, bk := Dd.nx } ρ h1 else Dd.nx ρ h1
@[irreducible] def dWhile (c : DTT) (tb : DTS) : DTS := fun Dd ρ h => ∃ n, dWh c tb n Dd ρ h
section
variable {X : Cx} {c : Expr} {body : List Stmt} {tc : DTT} {tb : DTS} {pos : Pos}
theorem s_while (hp : PassesOwn (model X.prog X.w) X.A X.env X.xe) (hc : PT X c (liftT X.K tc)) (hb : PSs X body (liftS X.K tb)) : PS X (.While c body [] pos) (liftS X.K (dWhile tc tb)) :=
  impS (ps_while hp hc hb) fun D σ H ⟨ρ, h, Dd, rel, qq, w⟩ => by
    unfold dWhile at qq
    obtain ⟨n, q⟩ := qq
    refine ⟨fun m σ' H' => ∃ ρ' h', Rel X.K ρ' h' σ' H' ∧ Tst H H' ∧ dWh tc tb m Dd ρ' h', ⟨n, ρ, h, rel, Tst.refl H, q⟩, fun m σ' H' hw => ?_⟩
    obtain ⟨ρ', h', rel', t', l⟩ := hw
    cases m with
    | zero => exact l.elim
    | succ m =>
      refine ⟨ρ', h', _, rel', l, fun b h1 q1 H1 g1 t1 => ?_⟩
      cases b
      · exact w.nx _ _ q1 _ _ (rel'.at t1 g1) (t'.trans t1)
      · refine ⟨fun σ2 H2 => ∃ ρ2 h2, Rel X.K ρ2 h2 σ2 H2 ∧ Tst H H2 ∧ dWh tc tb m Dd ρ2 h2, fun σ2 H2 hn => ⟨m, Nat.lt_succ_self m, hn⟩, ρ', h1, _, rel'.at t1 g1, q1, ?_, ?_, ?_, ?_⟩
        · exact fun ρ3 h3 q3 σ3 H4 rel3 t4 => ⟨ρ3, h3, rel3, t'.trans (t1.trans t4), q3⟩
        · exact w.rt.at (t'.trans t1)
        · exact w.nx.at (t'.trans t1)
        · exact fun ρ3 h3 q3 σ3 H4 rel3 t4 => ⟨ρ3, h3, rel3, t'.trans (t1.trans t4), q3⟩
end

inductive Tgt where
  | one (i : Nat)
  | tup (is : List Nat)
def Tgt.slots : Tgt → List Nat
  | .one i => [i]
  | .tup is => is
def setAll (ρ : DEnv) : List Nat → List D → DEnv
  | i :: is, d :: ds => setAll (ρ.set i (some d)) is ds
  | _, _ => ρ
def bindQ (t : Tgt) (d : D) (ρ : DEnv) (Q : DEnv → Prop) : Prop := match t with
  | .one i => Q (ρ.set i (some d))
  | .tup is => match d with
    | .tup ds => ds.length = is.length ∧ Q (setAll ρ is ds)
    | _ => False
def wipeD (ρ : DEnv) : List Nat → DEnv
  | [] => ρ
  | v :: vs => (wipeD ρ vs).set v none
def setAllV (σ : L2.St) : List Nat → List V → L2.St
  | i :: is, d :: ds => setAllV (σ.set i (some d)) is ds
  | _, _ => σ
def tgG (K : PySem.W.Frag) (t : Tgt) : TG := match t with
  | .one i => gName i
  | .tup is => gTup K is.length fun vs σ H Q => vs.length = is.length ∧ Q (setAllV σ is vs) H
theorem wipe_get {σ : L2.St} {j : Nat} : ∀ {vs : List Nat}, (wipe σ vs)[j]? = if j ∈ vs then (if j < σ.length then some none else none) else σ[j]?
  | [] => by simp [wipe]
  | v :: vs => by
    show ((wipe σ vs).set v none)[j]? = _
    have ih := wipe_get (σ := σ) (j := j) (vs := vs)
    by_cases e : v = j
    · subst e
      by_cases hl : v < σ.length
      · rw [List.getElem?_set_self (by rw [wipe_length]; exact hl)]; simp [hl]
      · rw [List.getElem?_eq_none (by rw [List.length_set, wipe_length]; omega)]; simp [hl]
    · rw [List.getElem?_set_ne e, ih]
      have e' : ¬ j = v := fun z => e z.symm
      simp [e']
theorem setAllV_get {j : Nat} : ∀ {is : List Nat} {vs : List V} {σ : L2.St}, j ∉ is → (setAllV σ is vs)[j]? = σ[j]?
  | [], _, _, _ => by simp [setAllV]
  | i :: is, [], _, _ => by simp [setAllV]
  | i :: is, d :: ds, σ, h => by
    have h1 : j ≠ i := fun e => h (by simp [e])
    have h2 : j ∉ is := fun e => h (by simp [e])
    show (setAllV (σ.set i (some d)) is ds)[j]? = _
    rw [setAllV_get h2, List.getElem?_set_ne (Ne.symm h1)]
theorem setAllV_length : ∀ {is : List Nat} {vs : List V} {σ : L2.St}, (setAllV σ is vs).length = σ.length
  | [], _, _ => by simp [setAllV]
  | i :: is, [], _ => by simp [setAllV]
  | i :: is, d :: ds, σ => by
    show (setAllV (σ.set i (some d)) is ds).length = _
    rw [setAllV_length, List.length_set]
theorem wipe_setAll (σ : L2.St) (is : List Nat) (vs : List V) : wipe (setAllV (wipe σ is) is vs) is = wipe σ is := by
  refine List.ext_getElem? fun j => ?_
  rw [wipe_get, wipe_get]
  by_cases e : j ∈ is
  · rw [if_pos e, if_pos e, setAllV_length, wipe_length]
  · rw [if_neg e, if_neg e, setAllV_get e, wipe_get, if_neg e]
theorem RS.setAll {K : PySem.W.Frag} {H : Hp} : ∀ {is : List Nat} {ds : List D} {vs : List V} {ρ : DEnv} {σ : L2.St}, RS K H ρ σ → RDs K H ds vs → RS K H (setAll ρ is ds) (setAllV σ is vs)
  | [], _, _, _, _, r, _ => r
  | i :: is, [], _, _, _, r, q => by have z : _ = [] := q; subst z; exact r
  | i :: is, d :: ds, _, ρ, σ, r, q => by
    obtain ⟨v, us, rfl, r1, r2⟩ := q
    show RS K H (Dl.setAll (ρ.set i (some d)) is ds) (setAllV (σ.set i (some v)) is us)
    exact RS.setAll (r.set i r1) r2
theorem RS.wipeAll {K : PySem.W.Frag} {H : Hp} {ρ : DEnv} {σ : L2.St} (r : RS K H ρ σ) : ∀ is : List Nat, RS K H (wipeD ρ is) (L2.wipe σ is)
  | [] => r
  | i :: is => (RS.wipeAll r is).wipe i
def dLcL (p : Addr) (ok : Hd → Prop) (tg : Tgt) (tt : DTT) (te : DTE) (ρ : DEnv) (Q : DK) : List D → List D → Hd → Prop
  | [], _, h => ok h ∧ Q (.ref p) h
  | x :: xs, acc, h => ok h ∧ bindQ tg x ρ fun ρ2 => tt ρ2 h fun b h3 => if b = true then te ρ2 h3 fun y h4 => h4 p = some (.lst acc) ∧ dLcL p ok tg tt te ρ Q xs (acc ++ [y]) (up h4 p (.lst (acc ++ [y]))) else dLcL p ok tg tt te ρ Q xs acc h3
def dLc (it : DTI) (tg : Tgt) (tt : DTT) (te : DTE) : DTE := fun ρ h Q => it ρ h fun src h1 => ∀ p, h1 p = none → dLcL p src.ok tg tt te (wipeD ρ tg.slots) Q src.items [] (up h1 p (.lst []))
def dYes : DTT := fun _ h Q => Q true h
theorem bind_V {K : PySem.W.Frag} {tg : Tgt} {d : D} {v : V} {ρ : DEnv} {σ : L2.St} {H : Hp} {Qd : DEnv → Prop} {Q : L2.St → Hp → Prop} (r : RD K H d v) (s : RS K H ρ (wipe σ tg.slots)) (q : bindQ tg d ρ Qd) (u : ∀ ρ2 σ2, Qd ρ2 → RS K H ρ2 σ2 → wipe σ2 tg.slots = wipe σ tg.slots → Q σ2 H) : tgG K tg v (wipe σ tg.slots) H Q := by
  cases tg with
  | one i =>
    refine u _ ((wipe σ [i]).set i (some v)) q (s.set i r) ?_
    have z := wipe_setAll σ [i] [v]
    exact z
  | tup is =>
    cases d <;> first | exact (q : False).elim | skip
    case tup ds =>
    obtain ⟨a, vs, rfl, sq, g, l⟩ := r
    refine ⟨a, vs, rfl, sq, by rw [g.length]; exact q.1, by rw [g.length]; exact q.1, ?_⟩
    exact u _ _ q.2 (s.setAll g) (wipe_setAll σ is vs)
section
variable {X : Cx} {elt tg iter : Expr} {ifs : List Expr} {scope : Scope} {own : List (Str × Nat)} {pos : Pos} {it : DTI} {T : Tgt} {tt : DTT} {te : DTE}
theorem pts_yes : PTs X [] (liftT X.K dYes) := ⟨fun pins s σ H Q I q => pts_nil.run pins s σ H Q I (let ⟨_, h, _, rel, q1, u⟩ := q; u true h q1 H rel.h (Tst.refl H))⟩
theorem pts_if {c : Expr} (h : PT X c (liftT X.K tt)) : PTs X [c] (liftT X.K tt) := pts_one h
theorem lc_V {σ : L2.St} {H : Hp} {Q : VK} (hs : own.map (·.2) = T.slots) (h : liftE X.K (dLc it T tt te) σ H Q) : tLc (liftI X.K it) (tgG X.K T) (liftT X.K tt) (liftE X.K te) (own.map (·.2)) σ H Q := by
  obtain ⟨ρ, h, Qd, rel, q, u⟩ := h
  rw [hs]
  refine ⟨ρ, h, _, rel, q, fun src h1 q1 J H1 g1 t1 M p hp => ?_⟩
  refine ⟨fun i m H' => m = src.items.length - i ∧ i ≤ src.items.length ∧ ∃ h' acc, RH X.K H' h' ∧ Tst H1 H' ∧ acc.length ≤ i ∧ dLcL p src.ok T tt te (wipeD ρ T.slots) Qd (src.items.drop i) acc h', ⟨_, rfl, Nat.zero_le _, _, [], g1.new (o := .lst []) hp ⟨[], upd_same, rfl, Nat.zero_le _⟩, tst_new hp, Nat.zero_le _, by rw [List.drop_zero]; exact q1 p (g1.none_of hp)⟩, fun i m H' hw => ?_⟩
  obtain ⟨_, hle, h', acc, g', t', ha, l⟩ := hw
  have rs : RS X.K H' (wipeD ρ T.slots) (wipe σ T.slots) := (rel.s.mono (t1.trans t')).wipeAll _
  cases z : src.items.drop i with
  | nil =>
    rw [z] at l
    have e : i = src.items.length := by have := List.drop_eq_nil_iff.mp z; omega
    subst e
    exact .inl ⟨M.stop H' h' g' t' l.1, u _ _ l.2 _ _ rfl g' (t1.trans t')⟩
  | cons x xs =>
    rw [z] at l
    obtain ⟨hx, hd, hlt⟩ := drop_cons z
    obtain ⟨go, yl⟩ := M.go i x H' h' g' t' l.1 hx
    refine .inr ⟨go, fun H2 => ∃ h2 acc2, RH X.K H2 h2 ∧ Tst H1 H2 ∧ acc2.length ≤ i + 1 ∧ dLcL p src.ok T tt te (wipeD ρ T.slots) Qd xs acc2 h2, fun H2 hn => ?_, fun v H2 hy => ?_⟩
    · obtain ⟨h2, acc2, r2, t2, a2, l2⟩ := hn
      exact ⟨src.items.length - (i + 1), by omega, rfl, by omega, h2, acc2, r2, t2, a2, by rw [hd]; exact l2⟩
    · obtain ⟨rd, rh, t2⟩ := yl v H2 hy
      refine bind_V rd (rs.mono t2) l.2 fun ρ2 σ2 q2 s2 e2 => ⟨e2, ρ2, h', _, ⟨s2, rh⟩, q2, fun b h3 q3 H3 g3 t3 => ?_⟩
      cases b
      · exact ⟨h3, acc, g3, t'.trans (t2.trans t3), by omega, q3⟩
      · refine ⟨ρ2, h3, _, ⟨s2.mono t3, g3⟩, q3, fun y h4 q4 w H4 r4 g4 t4 => ?_⟩
        obtain ⟨hp4, l4⟩ := q4
        obtain ⟨vs, f, g, lz⟩ := lst_of g4 hp4
        have few := M.few
        have t5 : Tst H4 (upd H4 p (.lst (vs ++ [w]))) := tst_upd f trivial
        have la : (acc ++ [y]).length ≤ sizeLine := by rw [List.length_append, List.length_singleton]; omega
        refine ⟨vs, f, by rw [g.length]; omega, _, acc ++ [y], g4.upd (o := .lst (acc ++ [y])) t5 ⟨_, upd_same, (g.mono t5).append (RDs.one (r4.mono t5)), la⟩, t'.trans (t2.trans (t3.trans (t4.trans t5))), by rw [List.length_append, List.length_singleton]; omega, l4⟩
theorem gs_names : ∀ {is : List Nat} {es : List Expr}, PGs X es (fun vs σ H Q => vs.length = is.length ∧ Q (setAllV σ is vs) H) → True := fun _ => trivial
theorem gn_nil : PGs X [] (fun vs σ H Q => vs.length = ([] : List Nat).length ∧ Q (setAllV σ [] vs) H) := impGs pgs_nil fun vs σ H Q ⟨l, q⟩ => ⟨List.length_eq_zero_iff.mp l, by cases vs <;> exact q⟩
theorem gn_cons {e : Expr} {es : List Expr} {i : Nat} {is : List Nat} (h1 : PG X e (gName i)) (h2 : PGs X es (fun vs σ H Q => vs.length = is.length ∧ Q (setAllV σ is vs) H)) (hs : (assignEach (e :: es) X.env).map (·.2) = assign e X.env :: (assignEach es X.env).map (·.2) := by rfl) :
    PGs X (e :: es) (fun vs σ H Q => vs.length = (i :: is).length ∧ Q (setAllV σ (i :: is) vs) H) := impGs (pgs_cons h1 h2 hs) fun vs σ H Q ⟨l, q⟩ => by
  cases vs with
  | nil => cases l
  | cons v vs => exact ⟨v, vs, rfl, by simpa using l, q⟩
theorem tg_tup {es : List Expr} {k : Nat} {is : List Nat} {pos' : Pos} (hc : X.calm = true) (h : PGs X es (fun vs σ H Q => vs.length = is.length ∧ Q (setAllV σ is vs) H)) (hn : (assignEach es X.env).length = is.length := by rfl) (hst : (assignEach es X.env).findIdx? (·.1) = none := by rfl) : PG X (.Tuple es k pos') (tgG X.K (.tup is)) := pg_tup hc h hn hst
abbrev Blk (X : Cx) (s : Shared) (H : Hp) (scope : Scope) (cl : List (Str × Addr)) (C : Addr) (fp : List Addr) : Cx := X.blk s H scope (compEnvC scope cl C X.env) fp
theorem e_lc (hc : X.calm = true) (hN : X.N.Nodup) (ok : BlkOk X.N X.env.scope scope own) (hs : own.map (·.2) = T.slots) (hi : PI X tg iter (liftI X.K it))
    (hg : ∀ s H C cl fp, PG (Blk X s H scope cl C fp) tg (tgG X.K T)) (ht : ∀ s H C cl fp, PTs (Blk X s H scope cl C fp) ifs (liftT X.K tt)) (he : ∀ s H C cl fp, PE (Blk X s H scope cl C fp) elt (liftE X.K te)) (hf : ∀ x, foldedSetIterable iter X.env x = pure x := by intro _; rfl) :
    PE X (.ListComp elt [⟨tg, iter, ifs, 0⟩] scope pos) (liftE X.K (dLc it T tt te)) := impE (pe_lc hc hN hi ok hg ht he hf) fun σ H Q q => lc_V hs q
theorem s_setLc {i : Nat} {y : Str} {py spos : Pos} (hc : X.calm = true) (hN : X.N.Nodup) (ok : BlkOk X.N X.env.scope scope own) (hs : own.map (·.2) = T.slots) (hi : PI X tg iter (liftI X.K it))
    (hg : ∀ s H C cl fp, PG (Blk X s H scope cl C fp) tg (tgG X.K T)) (ht : ∀ s H C cl fp, PTs (Blk X s H scope cl C fp) ifs (liftT X.K tt)) (he : ∀ s H C cl fp, PE (Blk X s H scope cl C fp) elt (liftE X.K te)) (hsw : swapsWith (.ListComp elt [⟨tg, iter, ifs, 0⟩] scope pos) (some (.Name y py)) spos.line X.env = pure true)
    (hy : X.N[i]? = some y := by rfl) (hyl : X.env.scope.names.lookup y = some .local := by rfl) (hf : ∀ x, foldedSetIterable iter X.env x = pure x := by intro _; rfl) :
    PS X (.Assign [.Name y py] (.ListComp elt [⟨tg, iter, ifs, 0⟩] scope pos) spos) (liftS X.K (dAsg (dLc it T tt te) (dgName i))) := impS (ps_setLc hc hN hy hyl hsw hi ok hg ht he hf) fun D σ H ⟨ρ, h, Dd, rel, q, w⟩ =>
  lc_V hs ⟨ρ, h, _, rel, q, fun d h1 q1 v H1 r1 g1 t1 => w.nx _ _ q1 _ _ ⟨(rel.s.mono t1).set i r1, g1⟩ t1⟩
end

def dSeqI (t : DTE) : DTI := fun ρ h Q => t ρ h fun d h1 => match d with
  | .tup ds => Q ⟨ds, fun _ => True⟩ h1
  | .sc ds => Q ⟨ds, fun _ => True⟩ h1
  | .ref a => ∃ ds, h1 a = some (.lst ds) ∧ Q ⟨ds, fun h => h a = some (.lst ds)⟩ h1
  | .str x => Q ⟨x.cps.toList.map fun c => .str ⟨#[c]⟩, fun _ => True⟩ h1
  | _ => False
def iAny (K : PySem.W.Frag) (tl : TE) : TI := fun σ H R => tl σ H fun x H1 => (∃ a, x = .ref a ∧ (∃ xs, SqL K H1 a xs) ∧ R (Itl K a) H1) ∨ (∃ a, x = .ref a ∧ (∃ xs, SqT K H1 a xs) ∧ R (Itt K a) H1) ∨ ∃ x', x = .str x' ∧ R (Its x') H1
section
variable {X : Cx} {tg e : Expr} {te : DTE}
theorem pi_any {tl : TE} (hl : PE X e tl) : PI X tg e (iAny X.K tl) := ⟨fun pins s σ H R I h => thn (hl.run pins s σ H _ I h) fun v s1 hh => by
  obtain ⟨x, H1, I1, r1, q1⟩ := hh
  rcases q1 with ⟨a, rfl, ⟨xs, hq⟩, q⟩ | ⟨a, rfl, ⟨xs, hq⟩, q⟩ | ⟨z, rfl, q⟩
  · obtain rfl : v = .ref a := r1
    obtain ⟨its, rv, p, hz⟩ := I1.list hq
    exact wpAny_pyIter_list p.isList (pi_one (tk := s1.toks) I1 _ (turn_list a _) ⟨_, Heap.get?_push_size _ rfl, rfl, rfl⟩ q)
  · obtain rfl : v = .ref a := r1
    obtain ⟨its, rv, p, hz⟩ := I1.tuple hq
    exact wpAny_pyIter_tuple (show s1.heap.IsTuple a its.toArray from p) (pi_one (tk := s1.toks) I1 _ (turn_tuple a _) ⟨_, Heap.get?_push_size _ rfl, rfl, rfl⟩ q)
  · obtain ⟨t, rfl⟩ := r1
    cases ha : z.cps.all (· < 128)
    · exact wpAny_pyIter_wide ha (pi_one (tk := s1.toks) I1 _ (turn_str _ z t "str_iterator" (.inr rfl)) ⟨_, Heap.get?_push_size _ rfl, rfl, rfl⟩ q)
    · exact wpAny_pyIter_ascii ha (pi_one (tk := s1.toks) I1 _ (turn_str _ z t "str_ascii_iterator" (.inl rfl)) ⟨_, Heap.get?_push_size _ rfl, rfl, rfl⟩ q)⟩
theorem i_seq (he : PE X e (liftE X.K te)) : PI X tg e (liftI X.K (dSeqI te)) := impI (pi_any he) fun σ H R ⟨ρ, h, Qd, rel, q, u⟩ => ⟨ρ, h, _, rel, q, fun d h1 q1 v H1 r1 g1 t1 => by
  cases d <;> first | exact (q1 : False).elim | skip
  case ref a =>
    obtain rfl : v = .ref a := r1
    obtain ⟨ds, e1, q2⟩ := q1
    obtain ⟨vs, f, g, l⟩ := lst_of g1 e1
    refine .inl ⟨a, rfl, ⟨vs, SqL.of f⟩, u _ h1 q2 _ _ g1 t1 ⟨l, fun i d H2 h2 g2 t2 ok hi => ?_, fun H2 h2 g2 t2 ok => ?_⟩⟩
    · obtain ⟨vs2, f2, gg, _⟩ := lst_of g2 ok
      obtain ⟨x, hx, rx⟩ := gg.get hi
      refine ⟨⟨vs2, x, SqL.of f2, hx⟩, fun y H3 hy => ?_⟩
      obtain ⟨rfl, hy⟩ := hy
      have := hy vs2 (SqL.of f2)
      rw [hx] at this
      obtain rfl : x = y := Option.some.inj this
      exact ⟨rx, g2, Tst.refl _⟩
    · obtain ⟨vs2, f2, gg, _⟩ := lst_of g2 ok
      exact ⟨vs2, SqL.of f2, by rw [gg.length]; exact Nat.le_refl _⟩
  case tup ds =>
    obtain ⟨a, vs, rfl, s, g, l⟩ := r1
    refine .inr (.inl ⟨a, rfl, ⟨vs, s⟩, u _ h1 q1 _ _ g1 t1 ⟨l, fun i d H2 h2 g2 t2 ok hi => ?_, fun H2 h2 g2 t2 ok => ⟨vs, t2.sqT s, by rw [g.length]; exact Nat.le_refl _⟩⟩⟩)
    obtain ⟨x, hx, rx⟩ := g.get hi
    refine ⟨⟨vs, x, t2.sqT s, hx⟩, fun y H3 hy => ?_⟩
    obtain ⟨rfl, hy⟩ := hy
    have := hy vs (t2.sqT s)
    rw [hx] at this
    obtain rfl : x = y := Option.some.inj this
    exact ⟨rx.mono t2, g2, Tst.refl _⟩
  case sc ds =>
    obtain ⟨a, vs, rfl, s, g, l⟩ := r1
    refine .inl ⟨a, rfl, ⟨vs, s.seq⟩, u _ h1 q1 _ _ g1 t1 ⟨l, fun i d H2 h2 g2 t2 ok hi => ?_, fun H2 h2 g2 t2 ok => ⟨vs, (t2.scL s).seq, by rw [g.length]; exact Nat.le_refl _⟩⟩⟩
    obtain ⟨x, hx, rx⟩ := g.get hi
    refine ⟨⟨vs, x, (t2.scL s).seq, hx⟩, fun y H3 hy => ?_⟩
    obtain ⟨rfl, hy⟩ := hy
    have := hy vs (t2.scL s).seq
    rw [hx] at this
    obtain rfl : x = y := Option.some.inj this
    exact ⟨rx.mono t2, g2, Tst.refl _⟩
  case str z =>
    obtain ⟨rfl, o⟩ := r1
    have hn : (z.cps.toList.map fun c => D.str ⟨#[c]⟩).length = z.cps.size := by simp
    refine .inr (.inr ⟨z, rfl, u _ h1 q1 _ _ g1 t1 ⟨by show List.length _ ≤ _; rw [hn]; exact o.1, fun i d H2 h2 g2 t2 ok hi => ?_, fun H2 h2 g2 t2 ok => by show z.cps.size ≤ List.length _; rw [hn]; exact Nat.le_refl _⟩⟩)
    have hi' : (z.cps.toList.map fun c => D.str ⟨#[c]⟩)[i]? = some d := hi
    rw [List.getElem?_map, Array.getElem?_toList] at hi'
    cases hc : z.cps[i]? with
    | none => rw [hc] at hi'; cases hi'
    | some c =>
      rw [hc] at hi'
      obtain rfl : D.str ⟨#[c]⟩ = d := by simpa using hi'
      obtain ⟨hlt, hce⟩ := Array.getElem?_eq_some_iff.mp hc
      refine ⟨hlt, fun y H3 hy => ?_⟩
      obtain ⟨rfl, c', hc', rfl⟩ := hy
      rw [hc] at hc'
      obtain rfl : c = c' := Option.some.inj hc'
      refine ⟨⟨rfl, by show 1 ≤ sizeLine; rw [sizeLine_eq]; decide, fun x hx => ?_⟩, g2, Tst.refl _⟩
      obtain rfl : x = c := by simpa using hx
      exact o.2 _ (by rw [← hce]; exact Array.getElem_mem_toList hlt)⟩
def rngL (lo : Int) (n : Nat) : List D := (List.range n).map fun (k : Nat) => .int (lo + (k : Int))
theorem rng_matches {K : PySem.W.Frag} {H1 : Hp} {lo : Int} {n : Nat} (hn : n ≤ sizeLine) : Matches K H1 (Itr lo n) ⟨rngL lo n, fun _ => True⟩ := by
  refine ⟨by simpa [rngL] using hn, fun i d H h g t ok hi => ?_, fun H h g t ok => by simp [rngL, Itr]⟩
  have hi' : ((List.range n).map fun (k : Nat) => D.int (lo + (k : Int)))[i]? = some d := hi
  rw [List.getElem?_map] at hi'
  by_cases z : i < n
  · rw [List.getElem?_range z] at hi'
    obtain rfl : D.int (lo + (i : Int)) = d := by simpa using hi'
    refine ⟨z, fun y H3 hy => ?_⟩
    obtain ⟨rfl, rfl⟩ := hy
    exact ⟨rfl, g, Tst.refl _⟩
  · rw [List.getElem?_eq_none (by simp; omega)] at hi'; cases hi'
def dRng1 (t : DTA) : DTI := fun ρ h Q => t ρ h fun ds h1 => match ds with
  | [.int j] => (-(2 ^ 62) ≤ j ∧ j ≤ 16777216) ∧ Q ⟨rngL 0 j.toNat, fun _ => True⟩ h1
  | _ => False
def dRng2 (t : DTA) : DTI := fun ρ h Q => t ρ h fun ds h1 => match ds with
  | [.int i, .int j] => ((-(2 ^ 62) ≤ i ∧ i < 2 ^ 62 ∧ -(2 ^ 62) ≤ j ∧ j < 2 ^ 62) ∧ j - i ≤ 16777216) ∧ Q ⟨rngL i (j - i).toNat, fun _ => True⟩ h1
  | _ => False
theorem one_int {K : PySem.W.Frag} {H : Hp} {i : Int} {vs : List V} (r : RDs K H [.int i] vs) : vs = [.int i] := by
  obtain ⟨v, us, rfl, r1, r2⟩ := r
  have z : us = [] := r2
  have z' : v = .int i := r1
  rw [z, z']
theorem two_ints {K : PySem.W.Frag} {H : Hp} {i j : Int} {vs : List V} (r : RDs K H [.int i, .int j] vs) : vs = [.int i, .int j] := by
  obtain ⟨v, us, rfl, r1, r2⟩ := r
  have z' : v = .int i := r1
  rw [z', one_int r2]
theorem i_rng1 {p pos : Pos} {ta : DTA} (hm : X.mg "range" = none) (ha : PA X [e] (liftA X.K ta)) (hg : Gl X "range" := by rfl) (hs : starEach [e] X.env = [(false, eval e X.env)] := by rfl) : PI X tg (.Call (.Name "range" p) [e] [] pos) (liftI X.K (dRng1 ta)) := impI (pi_range1 hg hm ha hs) fun σ H R ⟨ρ, h, Qd, rel, q, u⟩ =>
  ⟨ρ, h, _, rel, q, fun ds h1 q1 vs H1 r1 g1 t1 => by
    rcases ds with _ | ⟨_ | _ | j | _ | _ | _ | _ | _, _ | ⟨_, _⟩⟩ <;> first | exact (q1 : False).elim | skip
    obtain ⟨⟨b1, b2⟩, q2⟩ := q1
    exact ⟨j, one_int r1, b1, by omega, u _ h1 q2 _ _ g1 t1 (rng_matches (by rw [sizeLine_eq]; omega))⟩⟩
theorem i_rng2 {e2 : Expr} {p pos : Pos} {ta : DTA} (hm : X.mg "range" = none) (ha : PA X [e, e2] (liftA X.K ta)) (hg : Gl X "range" := by rfl) (hs : starEach [e, e2] X.env = [(false, eval e X.env), (false, eval e2 X.env)] := by rfl) (hs2 : starEach [e2] X.env = [(false, eval e2 X.env)] := by rfl) : PI X tg (.Call (.Name "range" p) [e, e2] [] pos) (liftI X.K (dRng2 ta)) := impI (pi_range2 hg hm ha hs hs2) fun σ H R ⟨ρ, h, Qd, rel, q, u⟩ =>
  ⟨ρ, h, _, rel, q, fun ds h1 q1 vs H1 r1 g1 t1 => by
    rcases ds with _ | ⟨_ | _ | i | _ | _ | _ | _ | _, _ | ⟨_ | _ | j | _ | _ | _ | _ | _, _ | ⟨_, _⟩⟩⟩ <;> first | exact (q1 : False).elim | skip
    obtain ⟨⟨b1, b2⟩, q2⟩ := q1
    exact ⟨i, j, two_ints r1, b1, u _ h1 q2 _ _ g1 t1 (rng_matches (by rw [sizeLine_eq]; omega))⟩⟩
end
end Dl
end
section
namespace Dl
open PySem PySem.Spec PyProof.Rows L2

abbrev DRC := List D → Hd → DK → Prop
def dCB (r : DRC) (t : DTA) : DTE := fun ρ h Q => t ρ h fun ds h1 => r ds h1 Q
def ImpC (K : PySem.W.Frag) (rd : DRC) (r : List V → Hp → VK → Prop) : Prop := ∀ ds h Qd vs H Q, RDs K H ds vs → RH K H h → rd ds h Qd → UpE K H Qd Q → r vs H Q
theorem RDs.v1 {K : PySem.W.Frag} {H : Hp} {d : D} {vs : List V} (r : RDs K H [d] vs) : ∃ v, vs = [v] ∧ RD K H d v := by
  obtain ⟨v, us, rfl, r1, r2⟩ := r
  have z : us = [] := r2
  subst z
  exact ⟨v, rfl, r1⟩
theorem RDs.v2 {K : PySem.W.Frag} {H : Hp} {d e : D} {vs : List V} (r : RDs K H [d, e] vs) : ∃ v w, vs = [v, w] ∧ RD K H d v ∧ RD K H e w := by
  obtain ⟨v, us, rfl, r1, r2⟩ := r
  obtain ⟨w, rfl, r3⟩ := r2.v1
  exact ⟨v, w, rfl, r1, r3⟩
section
variable {X : Cx} {x : Str} {p pos : Pos} {e : Expr} {es : List Expr} {t : DTA} {id T : String} {r : List V → Hp → VK → Prop} {rd : DRC}
theorem cb_V {E' : Expr} (h : PE X E' (tCB r (liftA X.K t))) (im : ImpC X.K rd r) : PE X E' (liftE X.K (dCB rd t)) := impE h fun σ H Q ⟨ρ, h, Qd, rel, q, u⟩ => ⟨ρ, h, _, rel, q, fun ds h1 q1 vs H1 r1 g1 t1 => im ds h1 Qd vs H1 Q r1 g1 q1 (u.at t1)⟩
theorem e_callB (hc : CallR X (.builtin id) r) (im : ImpC X.K rd r) (hv : bootBuiltins x = some (.builtin id)) (hm : X.mg x = none) (ha : PA X (e :: es) (liftA X.K t)) (hg : Gl X x := by rfl) (hn : x ≠ "__name__" := by decide) (hdb : (x == ("__debug__" : Str)) = false := by decide)
    (he : starEach (e :: es) X.env = (false, eval e X.env) :: starEach es X.env := by rfl) (hpl : (backTo pos (starEach es X.env)).any (·.1) = false := by rfl) : PE X (.Call (.Name x p) (e :: es) [] pos) (liftE X.K (dCB rd t)) := cb_V (pe_callB hc hg hm hv ha hn hdb he hpl) im
theorem e_callTy (hc : CallR X (.type T) r) (im : ImpC X.K rd r) (hv : bootBuiltins x = some (.type T)) (hm : X.mg x = none) (ha : PA X (e :: es) (liftA X.K t)) (hg : Gl X x := by rfl) (hn : x ≠ "__name__" := by decide) (hdb : (x == ("__debug__" : Str)) = false := by decide)
    (he : starEach (e :: es) X.env = (false, eval e X.env) :: starEach es X.env := by rfl) (hpl : (backTo pos (starEach es X.env)).any (·.1) = false := by rfl) : PE X (.Call (.Name x p) (e :: es) [] pos) (liftE X.K (dCB rd t)) := cb_V (pe_callTy hc hg hm hv ha hn hdb he hpl) im
end

def lenO (h : Hd) : D → Option Nat
  | .str z => some z.length
  | d => (itemsD h d).map List.length
@[irreducible] def lenD : DRC := fun ds h Q => match ds with
  | [d] => (match lenO h d with
    | some n => Q (.int n) h
    | none => False)
  | _ => False
theorem im_len {K : PySem.W.Frag} : ImpC K lenD (fun xs H Q => ∃ x n, xs = [x] ∧ LenV K x H n ∧ Q (.int n) H) := fun ds h Qd vs H Q r rh q u => by
  unfold lenD at q
  rcases ds with _ | ⟨d, _ | ⟨_, _⟩⟩ <;> first | exact (q : False).elim | skip
  obtain ⟨v, rfl, rv⟩ := r.v1
  cases e : lenO h d with
  | none => simp only [lenD, e] at q
  | some n =>
    simp only [lenD, e] at q
    refine ⟨v, n, rfl, ?_, u _ _ q _ _ rfl rh (Tst.refl H)⟩
    have seq : ∀ xs, itemsD h d = some xs → n = xs.length → LenV K v H n := by
      intro xs hx hn
      obtain ⟨p, vs, rfl, s, g, l⟩ := items_V rh rv hx
      rcases s with s | s
      · exact .inl ⟨vs, s, by rw [g.length]; exact hn⟩
      · exact .inr ⟨vs, s, by rw [g.length]; exact hn⟩
    have gen : (itemsD h d).map List.length = some n → LenV K v H n := by
      intro z
      cases hx : itemsD h d with
      | none => rw [hx] at z; cases z
      | some xs => rw [hx] at z; exact seq xs hx (by simpa using z.symm)
    cases d with
    | str z =>
      obtain ⟨rfl, o⟩ := rv
      exact ⟨o.1, by simpa [lenO] using e.symm⟩
    | _ => exact gen e
@[irreducible] def listD : DRC := fun ds h Q => match ds with
  | [d] => (match itemsD h d with
    | some xs => ∀ p, h p = none → Q (.ref p) (up h p (.lst xs))
    | none => False)
  | _ => False
@[irreducible] def tupleD : DRC := fun ds h Q => match ds with
  | [d] => (match itemsD h d with
    | some xs => Q (.tup xs) h
    | none => False)
  | _ => False
theorem im_list {K : PySem.W.Frag} : ImpC K listD (fun xs H Q => ∃ p ys, xs = [.ref p] ∧ (SqL K H p ys ∨ SqT K H p ys) ∧ ∀ l, H l = none → Q (.ref l) (upd H l (.lst ys))) := fun ds h Qd vs H Q r rh q u => by
  unfold listD at q
  rcases ds with _ | ⟨d, _ | ⟨_, _⟩⟩ <;> first | exact (q : False).elim | skip
  obtain ⟨v, rfl, rv⟩ := r.v1
  cases e : itemsD h d with
  | none => simp only [listD, e] at q
  | some xs =>
    simp only [listD, e] at q
    obtain ⟨p, ys, rfl, s, g, l⟩ := items_V rh rv e
    exact ⟨p, ys, rfl, s, up_lst u rh g l q⟩
theorem im_tuple {K : PySem.W.Frag} : ImpC K tupleD (fun xs H Q => ∃ p ys, xs = [.ref p] ∧ ((SqL K H p ys ∧ ∀ l, H l = none → Q (.ref l) (upd H l (.tup ys))) ∨ (SqT K H p ys ∧ Q (.ref p) H))) := fun ds h Qd vs H Q r rh q u => by
  unfold tupleD at q
  rcases ds with _ | ⟨d, _ | ⟨_, _⟩⟩ <;> first | exact (q : False).elim | skip
  obtain ⟨v, rfl, rv⟩ := r.v1
  cases e : itemsD h d with
  | none => simp only [tupleD, e] at q
  | some xs =>
    simp only [tupleD, e] at q
    obtain ⟨p, ys, rfl, s, g, l⟩ := items_V rh rv e
    rcases s with s | s
    · exact ⟨p, ys, rfl, .inl ⟨s, up_tup u rh g l q⟩⟩
    · exact ⟨p, ys, rfl, .inr ⟨s, u _ _ q _ _ ⟨p, ys, rfl, s, g, l⟩ rh (Tst.refl H)⟩⟩

def intD1 : DRC := fun ds h Q => match ds with
  | [.int i] => Q (.int i) h
  | [.bl b] => Q (.int (if b then 1 else 0)) h
  | [.str a] => (match PySem.intText? a with
    | some n => a.length ≤ 640 ∧ Q (.int n) h
    | none => False)
  | _ => False
def rInt1 : List V → Hp → VK → Prop := fun xs H Q => ((∃ i, xs = [.int i] ∧ Q (.int i) H) ∨ ∃ k, xs = [.bl k] ∧ Q (.int (if k then 1 else 0)) H) ∨ ∃ a n, xs = [.str a] ∧ PySem.intText? a = some n ∧ a.length ≤ 640 ∧ Q (.int n) H
theorem call_int1D {X : Cx} : CallR X (.type "int") rInt1 := CallR.or call_int1 call_int_str
theorem im_int1 {K : PySem.W.Frag} : ImpC K intD1 rInt1 := fun ds h Qd vs H Q r rh q u => by
  rcases ds with _ | ⟨d, _ | ⟨_, _⟩⟩
  · exact (q : False).elim
  · obtain ⟨v, rfl, rv⟩ := r.v1
    cases d <;> first | exact (q : False).elim | skip
    case int i => obtain rfl : v = .int i := rv; exact .inl (.inl ⟨i, rfl, u _ _ q _ _ rfl rh (Tst.refl H)⟩)
    case bl b => obtain rfl : v = .bl b := rv; exact .inl (.inr ⟨b, rfl, u _ _ q _ _ rfl rh (Tst.refl H)⟩)
    case str a =>
      obtain ⟨rfl, o⟩ := rv
      cases e : PySem.intText? a with
      | none => simp only [intD1, e] at q
      | some n =>
        simp only [intD1, e] at q
        exact .inr ⟨a, n, rfl, e, q.1, u _ _ q.2 _ _ rfl rh (Tst.refl H)⟩
  · cases d <;> exact (q : False).elim

def isInts : List D → Option (List Int)
  | [] => some []
  | .int i :: r => (isInts r).map (i :: ·)
  | _ :: _ => none
theorem isInts_map : ∀ (ns : List Int), isInts (ns.map D.int) = some ns
  | [] => rfl
  | n :: r => by simp [isInts, isInts_map r]
theorem isInts_V {K : PySem.W.Frag} {H : Hp} : ∀ {ds : List D} {vs : List V} {ns : List Int}, RDs K H ds vs → isInts ds = some ns → vs = ns.map V.int
  | [], _, ns, r, e => by
    have z : _ = [] := r
    obtain rfl : [] = ns := by simpa [isInts] using e
    rw [z]; rfl
  | d :: ds, _, ns, r, e => by
    obtain ⟨v, us, rfl, r1, r2⟩ := r
    cases d <;> first | cases e | skip
    case int i =>
    cases q : isInts ds with
    | none => simp [isInts, q] at e
    | some ms =>
      obtain rfl : i :: ms = ns := by simpa [isInts, q] using e
      have z : v = .int i := r1
      rw [z, isInts_V r2 q]; rfl
def lstO (h : Hd) : D → Option (List D)
  | .sc ds => some ds
  | .ref a => match h a with
    | some (.lst ds) => some ds
    | _ => none
  | _ => none
theorem lstO_V {K : PySem.W.Frag} {H : Hp} {h : Hd} {d : D} {v : V} {ds : List D} (rh : RH K H h) (r : RD K H d v) (e : lstO h d = some ds) : ∃ p vs, v = .ref p ∧ SqL K H p vs ∧ RDs K H ds vs ∧ ds.length ≤ sizeLine := by
  cases d <;> first | cases e | skip
  case ref a =>
    obtain rfl : v = .ref a := r
    unfold lstO at e
    cases q : h a with
    | none => simp only [q] at e; cases e
    | some o =>
      cases o <;> simp only [q] at e <;> first | cases e | skip
      obtain ⟨vs, f, g, l⟩ := lst_of rh q
      exact ⟨a, vs, rfl, SqL.of f, g, l⟩
  case sc =>
    obtain ⟨a, vs, rfl, s, g, l⟩ := r
    exact ⟨a, vs, rfl, s.seq, g, l⟩
@[irreducible] def intsQ (h : Hd) (ds : List D) (Q : List Int → Prop) : Prop := match ds with
  | [d] => (match lstO h d with
    | some xs => (match isInts xs with
      | some ns => Q ns
      | none => False)
    | none => False)
  | _ => False
theorem intsQ_V {K : PySem.W.Frag} {H : Hp} {h : Hd} {ds : List D} {vs : List V} {Q : List Int → Prop} (rh : RH K H h) (r : RDs K H ds vs) (q : intsQ h ds Q) : ∃ (a : Addr) (ns : List Int), vs = [V.ref a] ∧ SqL K H a (ns.map V.int) ∧ ns.length ≤ sizeLine ∧ Q ns := by
  unfold intsQ at q
  rcases ds with _ | ⟨d, _ | ⟨_, _⟩⟩ <;> first | exact (q : False).elim | skip
  obtain ⟨v, rfl, rv⟩ := r.v1
  cases e : lstO h d with
  | none => simp only [intsQ, e] at q
  | some xs =>
    cases e2 : isInts xs with
    | none => simp only [intsQ, e, e2] at q
    | some ns =>
      simp only [intsQ, e, e2] at q
      obtain ⟨p, ys, rfl, s, g, l⟩ := lstO_V rh rv e
      have z := isInts_V g e2
      have hl := g.length
      rw [z, List.length_map] at hl
      rw [z] at s
      exact ⟨p, ns, rfl, s, by omega, q⟩
def sumD : DRC := fun ds h Q => intsQ h ds fun ns => Q (.int ns.sum) h
def maxD : DRC := fun ds h Q => intsQ h ds fun ns => 0 < ns.length ∧ ∀ m, m ∈ ns → (∀ y, y ∈ ns → y ≤ m) → Q (.int m) h
def minD : DRC := fun ds h Q => intsQ h ds fun ns => 0 < ns.length ∧ ∀ m, m ∈ ns → (∀ y, y ∈ ns → m ≤ y) → Q (.int m) h
def max2D : DRC := fun ds h Q => match ds with
  | [.int i, .int j] => Q (.int (if j > i then j else i)) h
  | _ => False
def min2D : DRC := fun ds h Q => match ds with
  | [.int i, .int j] => Q (.int (if j < i then j else i)) h
  | _ => False
def sortedD : DRC := fun ds h Q => intsQ h ds fun ns => ∀ (ns' : List Int) (p : Addr), ns'.Perm ns → ns'.Pairwise (· ≤ ·) → h p = none → Q (.ref p) (up h p (.lst (ns'.map D.int)))
theorem im_sum {K : PySem.W.Frag} : ImpC K sumD (rSum K) := fun ds h Qd vs H Q r rh q u => by
  obtain ⟨a, ns, rfl, s, _, q⟩ := intsQ_V rh r q
  exact ⟨a, ns, rfl, s, u _ _ q _ _ rfl rh (Tst.refl H)⟩
theorem im_max {K : PySem.W.Frag} : ImpC K maxD (rMax K) := fun ds h Qd vs H Q r rh q u => by
  obtain ⟨a, ns, rfl, s, _, n0, q⟩ := intsQ_V rh r q
  exact ⟨a, ns, rfl, s, n0, fun m m1 m2 => u _ _ (q m m1 m2) _ _ rfl rh (Tst.refl H)⟩
theorem im_min {K : PySem.W.Frag} : ImpC K minD (rMin K) := fun ds h Qd vs H Q r rh q u => by
  obtain ⟨a, ns, rfl, s, _, n0, q⟩ := intsQ_V rh r q
  exact ⟨a, ns, rfl, s, n0, fun m m1 m2 => u _ _ (q m m1 m2) _ _ rfl rh (Tst.refl H)⟩
theorem im_max2 {K : PySem.W.Frag} : ImpC K max2D (fun xs H Q => ∃ i j, xs = [.int i, .int j] ∧ Q (.int (if j > i then j else i)) H) := fun ds h Qd vs H Q r rh q u => by
  rcases ds with _ | ⟨_ | _ | i | _ | _ | _ | _ | _, _ | ⟨_ | _ | j | _ | _ | _ | _ | _, _ | ⟨_, _⟩⟩⟩ <;> first | exact (q : False).elim | exact ⟨i, j, two_ints r, u _ _ q _ _ rfl rh (Tst.refl H)⟩
theorem im_min2 {K : PySem.W.Frag} : ImpC K min2D (fun xs H Q => ∃ i j, xs = [.int i, .int j] ∧ Q (.int (if j < i then j else i)) H) := fun ds h Qd vs H Q r rh q u => by
  rcases ds with _ | ⟨_ | _ | i | _ | _ | _ | _ | _, _ | ⟨_ | _ | j | _ | _ | _ | _ | _, _ | ⟨_, _⟩⟩⟩ <;> first | exact (q : False).elim | exact ⟨i, j, two_ints r, u _ _ q _ _ rfl rh (Tst.refl H)⟩
theorem RDs.ints {K : PySem.W.Frag} {H : Hp} : ∀ (ns : List Int), RDs K H (ns.map D.int) (ns.map V.int)
  | [] => rfl
  | n :: r => ⟨.int n, _, rfl, rfl, RDs.ints r⟩
theorem im_sorted {K : PySem.W.Frag} : ImpC K sortedD (rSortedI K) := fun ds h Qd vs H Q r rh q u => by
  obtain ⟨a, ns, rfl, s, l, q⟩ := intsQ_V rh r q
  refine ⟨a, ns, rfl, s, fun ns' p h1 h2 n => ?_⟩
  exact up_lst u rh (RDs.ints ns') (by rw [List.length_map, h1.length_eq]; exact l) (fun p n => q ns' p h1 h2 n) p n
def isBls : List D → Option (List Bool)
  | [] => some []
  | .bl i :: r => (isBls r).map (i :: ·)
  | _ :: _ => none
theorem isBls_map : ∀ (ns : List Bool), isBls (ns.map D.bl) = some ns
  | [] => rfl
  | n :: r => by simp [isBls, isBls_map r]
theorem isBls_V {K : PySem.W.Frag} {H : Hp} : ∀ {ds : List D} {vs : List V} {ns : List Bool}, RDs K H ds vs → isBls ds = some ns → vs = ns.map V.bl
  | [], _, ns, r, e => by
    have z : _ = [] := r
    obtain rfl : [] = ns := by simpa [isBls] using e
    rw [z]; rfl
  | d :: ds, _, ns, r, e => by
    obtain ⟨v, us, rfl, r1, r2⟩ := r
    cases d <;> first | cases e | skip
    case bl i =>
    cases q : isBls ds with
    | none => simp [isBls, q] at e
    | some ms =>
      obtain rfl : i :: ms = ns := by simpa [isBls, q] using e
      have z : v = .bl i := r1
      rw [z, isBls_V r2 q]; rfl
@[irreducible] def allD : DRC := fun ds h Q => match ds with
  | [d] => (match lstO h d with
    | some xs => (match isBls xs with
      | some bs => Q (.bl (bs.all id)) h
      | none => False)
    | none => False)
  | _ => False
theorem im_all {K : PySem.W.Frag} : ImpC K allD (rAll K) := fun ds h Qd vs H Q r rh q u => by
  unfold allD at q
  rcases ds with _ | ⟨d, _ | ⟨_, _⟩⟩ <;> first | exact (q : False).elim | skip
  obtain ⟨v, rfl, rv⟩ := r.v1
  cases e : lstO h d with
  | none => simp only [allD, e] at q
  | some xs =>
    cases e2 : isBls xs with
    | none => simp only [allD, e, e2] at q
    | some bs =>
      simp only [allD, e, e2] at q
      obtain ⟨p, ys, rfl, s, g, l⟩ := lstO_V rh rv e
      have z := isBls_V g e2
      rw [z] at s
      exact ⟨p, bs, rfl, s, u _ _ q _ _ rfl rh (Tst.refl H)⟩
section
variable {X : Cx} {p pos : Pos} {e : Expr} {es : List Expr} {t : DTA} (ha : PA X (e :: es) (liftA X.K t))
include ha
theorem e_len (hm : X.mg "len" = none) (hg : Gl X "len" := by rfl) (he : starEach (e :: es) X.env = (false, eval e X.env) :: starEach es X.env := by rfl) (hpl : (backTo pos (starEach es X.env)).any (·.1) = false := by rfl) : PE X (.Call (.Name "len" p) (e :: es) [] pos) (liftE X.K (dCB lenD t)) := e_callB call_len im_len PySem.boot_len hm ha hg (by decide) (by decide) he hpl
theorem e_list (hm : X.mg "list" = none) (hg : Gl X "list" := by rfl) (he : starEach (e :: es) X.env = (false, eval e X.env) :: starEach es X.env := by rfl) (hpl : (backTo pos (starEach es X.env)).any (·.1) = false := by rfl) : PE X (.Call (.Name "list" p) (e :: es) [] pos) (liftE X.K (dCB listD t)) := e_callTy call_list_of im_list (by decide +kernel) hm ha hg (by decide) (by decide) he hpl
theorem e_tuple (hm : X.mg "tuple" = none) (hg : Gl X "tuple" := by rfl) (he : starEach (e :: es) X.env = (false, eval e X.env) :: starEach es X.env := by rfl) (hpl : (backTo pos (starEach es X.env)).any (·.1) = false := by rfl) : PE X (.Call (.Name "tuple" p) (e :: es) [] pos) (liftE X.K (dCB tupleD t)) := e_callTy call_tuple_of im_tuple (by decide +kernel) hm ha hg (by decide) (by decide) he hpl
theorem e_intc (hm : X.mg "int" = none) (hg : Gl X "int" := by rfl) (he : starEach (e :: es) X.env = (false, eval e X.env) :: starEach es X.env := by rfl) (hpl : (backTo pos (starEach es X.env)).any (·.1) = false := by rfl) : PE X (.Call (.Name "int" p) (e :: es) [] pos) (liftE X.K (dCB intD1 t)) := e_callTy call_int1D im_int1 (by decide +kernel) hm ha hg (by decide) (by decide) he hpl
theorem e_sum (hc : X.calm = true) (hm : X.mg "sum" = none) (hg : Gl X "sum" := by rfl) (he : starEach (e :: es) X.env = (false, eval e X.env) :: starEach es X.env := by rfl) (hpl : (backTo pos (starEach es X.env)).any (·.1) = false := by rfl) : PE X (.Call (.Name "sum" p) (e :: es) [] pos) (liftE X.K (dCB sumD t)) := e_callB (cr_sum hc) im_sum (by decide +kernel) hm ha hg (by decide) (by decide) he hpl
theorem e_max1 (hc : X.calm = true) (hm : X.mg "max" = none) (hg : Gl X "max" := by rfl) (he : starEach (e :: es) X.env = (false, eval e X.env) :: starEach es X.env := by rfl) (hpl : (backTo pos (starEach es X.env)).any (·.1) = false := by rfl) : PE X (.Call (.Name "max" p) (e :: es) [] pos) (liftE X.K (dCB maxD t)) := e_callB (cr_max hc) im_max (by decide +kernel) hm ha hg (by decide) (by decide) he hpl
theorem e_min1 (hc : X.calm = true) (hm : X.mg "min" = none) (hg : Gl X "min" := by rfl) (he : starEach (e :: es) X.env = (false, eval e X.env) :: starEach es X.env := by rfl) (hpl : (backTo pos (starEach es X.env)).any (·.1) = false := by rfl) : PE X (.Call (.Name "min" p) (e :: es) [] pos) (liftE X.K (dCB minD t)) := e_callB (cr_min hc) im_min (by decide +kernel) hm ha hg (by decide) (by decide) he hpl
theorem e_max2 (hc : X.calm = true) (hm : X.mg "max" = none) (hg : Gl X "max" := by rfl) (he : starEach (e :: es) X.env = (false, eval e X.env) :: starEach es X.env := by rfl) (hpl : (backTo pos (starEach es X.env)).any (·.1) = false := by rfl) : PE X (.Call (.Name "max" p) (e :: es) [] pos) (liftE X.K (dCB max2D t)) := e_callB (call_max2 hc) im_max2 (by decide +kernel) hm ha hg (by decide) (by decide) he hpl
theorem e_min2 (hc : X.calm = true) (hm : X.mg "min" = none) (hg : Gl X "min" := by rfl) (he : starEach (e :: es) X.env = (false, eval e X.env) :: starEach es X.env := by rfl) (hpl : (backTo pos (starEach es X.env)).any (·.1) = false := by rfl) : PE X (.Call (.Name "min" p) (e :: es) [] pos) (liftE X.K (dCB min2D t)) := e_callB (call_min2 hc) im_min2 (by decide +kernel) hm ha hg (by decide) (by decide) he hpl
theorem e_sorted (hm : X.mg "sorted" = none) (hg : Gl X "sorted" := by rfl) (he : starEach (e :: es) X.env = (false, eval e X.env) :: starEach es X.env := by rfl) (hpl : (backTo pos (starEach es X.env)).any (·.1) = false := by rfl) : PE X (.Call (.Name "sorted" p) (e :: es) [] pos) (liftE X.K (dCB sortedD t)) := e_callB cr_sortedI im_sorted (by decide +kernel) hm ha hg (by decide) (by decide) he hpl
theorem e_all (hc : X.calm = true) (hm : X.mg "all" = none) (hg : Gl X "all" := by rfl) (he : starEach (e :: es) X.env = (false, eval e X.env) :: starEach es X.env := by rfl) (hpl : (backTo pos (starEach es X.env)).any (·.1) = false := by rfl) : PE X (.Call (.Name "all" p) (e :: es) [] pos) (liftE X.K (dCB allD t)) := e_callB (cr_all hc) im_all (by decide +kernel) hm ha hg (by decide) (by decide) he hpl
end

abbrev DRM := D → List D → Hd → DK → Prop
def isTyD (T : String) (x : D) (h : Hd) : Prop := match x with
  | .str _ => T = "str"
  | .ref a => T = "list" ∧ ∃ ds, h a = some (.lst ds)
  | _ => False
def dBM (T : String) (r : DRM) (to : DTE) (t : DTA) : DTE := fun ρ h Q => to ρ h fun x h1 => isTyD T x h1 ∧ t ρ h1 fun ds h2 => r x ds h2 Q
def ImpM (K : PySem.W.Frag) (rd : DRM) (r : V → List V → Hp → VK → Prop) : Prop := ∀ xd ds h Qd x vs H Q, RD K H xd x → RDs K H ds vs → RH K H h → rd xd ds h Qd → UpE K H Qd Q → r x vs H Q
theorem tyV_of {K : PySem.W.Frag} {H : Hp} {h : Hd} {T : String} {d : D} {v : V} (rh : RH K H h) (r : RD K H d v) (ty : isTyD T d h) : tyV K T v H := by
  cases d <;> first | exact (ty : False).elim | skip
  case str z => obtain ⟨rfl, _⟩ := r; exact ty
  case ref a =>
    obtain rfl : v = .ref a := r
    obtain ⟨rfl, ds, e⟩ := ty
    obtain ⟨vs, f, _⟩ := lst_of rh e
    exact .inl ⟨rfl, vs, SqL.of f⟩
section
variable {X : Cx} {o e : Expr} {es : List Expr} {to : DTE} {t : DTA} {name : Str} {apos cpos : Pos} {T id : String} {r : V → List V → Hp → VK → Prop} {rd : DRM}
theorem e_bm (pa : PlainAttrs T) (slot : Slot T name id) (hty : typeOf (.builtin id) = pure (.type "method_descriptor")) (hm : MtR X id r) (im : ImpM X.K rd r) (ho : PE X o (liftE X.K to)) (ha : PA X (e :: es) (liftA X.K t)) (hbase : attributeBase o name X.env (eval o X.env) = eval o X.env := by rfl)
    (hfew : ((backTo cpos (starEach (e :: es) X.env)).all (fun x => !x.1) && (backToKw cpos (keywordEach [] X.env)).all (fun x => x.1.isSome) && decide ((e :: es).length + ([] : List Keyword).length + (if ([] : List Keyword).isEmpty then 0 else 1) < 30)) = true := by rfl) (hline : (apos.endLine == cpos.line) = true := by rfl) (hs : starEach (e :: es) X.env = (false, eval e X.env) :: starEach es X.env := by rfl) (hplain : (backTo cpos (starEach es X.env)).any (·.1) = false := by rfl) :
    PE X (.Call (.Attribute o name apos) (e :: es) [] cpos) (liftE X.K (dBM T rd to t)) := impE (pe_bm pa slot hty hm ho ha hbase hfew hline hs hplain) fun σ H Q ⟨ρ, h, Qd, rel, q, u⟩ =>
  ⟨ρ, h, _, rel, q, fun x h1 q1 v H1 r1 g1 t1 => ⟨tyV_of g1 r1 q1.1, ρ, h1, _, rel.at t1 g1, q1.2, fun ds h2 q2 vs H2 r2 g2 t2 => im x ds h2 Qd v vs H2 Q (r1.mono t2) r2 g2 q2 (u.at (t1.trans t2))⟩⟩
theorem e_bm0 (pa : PlainAttrs T) (slot : Slot T name id) (hty : typeOf (.builtin id) = pure (.type "method_descriptor")) (hm : MtR X id r) (im : ImpM X.K rd r) (ho : PE X o (liftE X.K to)) (hbase : attributeBase o name X.env (eval o X.env) = eval o X.env := by rfl) (hline : (apos.endLine == cpos.line) = true := by rfl) :
    PE X (.Call (.Attribute o name apos) [] [] cpos) (liftE X.K (dBM T rd to dNil)) := impE (pe_bm0 pa slot hty hm ho hbase hline) fun σ H Q ⟨ρ, h, Qd, rel, q, u⟩ =>
  ⟨ρ, h, _, rel, q, fun x h1 q1 v H1 r1 g1 t1 => ⟨tyV_of g1 r1 q1.1, im x [] h1 Qd v [] H1 Q r1 rfl g1 q1.2 (u.at t1)⟩⟩
end
theorem rd_non {K : PySem.W.Frag} {H : Hp} : RD K H .non .non := rfl
theorem up_wr {K : PySem.W.Frag} {H : Hp} {h : Hd} {Qd : DK} {Q : VK} {l : Addr} {vs ws : List V} {es : List D} {d : D} {v : V} (u : UpE K H Qd Q) (rh : RH K H h) (f : H l = some (.lst vs)) (g : RDs K H es ws) (hl : es.length ≤ sizeLine) (rd : RD K H d v) (q : Qd d (up h l (.lst es))) : Q v (upd H l (.lst ws)) :=
  let t3 : Tst H (upd H l (.lst ws)) := tst_upd f trivial
  u d _ q v _ (rd.mono t3) (rh.upd (o := .lst es) t3 ⟨ws, upd_same, g.mono t3, hl⟩) t3
def appendD : DRM := fun x ds h Q => match x, ds with
  | .ref l, [y] => ∃ xs, h l = some (.lst xs) ∧ xs.length < sizeLine ∧ Q .non (up h l (.lst (xs ++ [y])))
  | _, _ => False
theorem im_append {K : PySem.W.Frag} : ImpM K appendD rAppend := fun xd ds h Qd x vs H Q r rs rh q u => by
  cases xd <;> rcases ds with _ | ⟨y, _ | ⟨_, _⟩⟩ <;> first | exact (q : False).elim | skip
  case ref.cons.nil l =>
  obtain rfl : x = .ref l := r
  obtain ⟨v, rfl, rv⟩ := rs.v1
  obtain ⟨xs, e, hl, q⟩ := q
  obtain ⟨ws, f, g, _⟩ := lst_of rh e
  exact ⟨l, ws, v, rfl, rfl, f, by rw [g.length]; exact hl, up_wr u rh f (g.append (RDs.one rv)) (by rw [List.length_append, List.length_singleton]; omega) rd_non q⟩
def insertD : DRM := fun x ds h Q => match x, ds with
  | .ref l, [.int i, y] => ∃ xs, h l = some (.lst xs) ∧ xs.length < sizeLine ∧ (0 ≤ i ∧ i < 2 ^ 63) ∧ Q .non (up h l (.lst (xs.take i.toNat ++ [y] ++ xs.drop i.toNat)))
  | _, _ => False
theorem im_insert {K : PySem.W.Frag} : ImpM K insertD (fun x vs H Q => ∃ (l : Addr) (xs : List V) (i : Int) (y : V), x = .ref l ∧ vs = [.int i, y] ∧ H l = some (.lst xs) ∧ xs.length < sizeLine ∧ 0 ≤ i ∧ i < 2 ^ 63 ∧ Q .non (upd H l (.lst (xs.take i.toNat ++ [y] ++ xs.drop i.toNat)))) := fun xd ds h Qd x vs H Q r rs rh q u => by
  cases xd <;> rcases ds with _ | ⟨_ | _ | i | _ | _ | _ | _ | _, _ | ⟨y, _ | ⟨_, _⟩⟩⟩ <;> first | exact (q : False).elim | skip
  case ref.cons.int.cons.nil l =>
  obtain rfl : x = .ref l := r
  obtain ⟨v, w, rfl, rv, rw'⟩ := rs.v2
  obtain rfl : v = .int i := rv
  obtain ⟨xs, e, hl, ⟨i1, i2⟩, q⟩ := q
  obtain ⟨ws, f, g, _⟩ := lst_of rh e
  refine ⟨l, ws, i, w, rfl, rfl, f, by rw [g.length]; exact hl, i1, i2, up_wr u rh f (((g.take _).append (RDs.one rw')).append (g.drop _)) ?_ rd_non q⟩
  rw [List.length_append, List.length_append, List.length_singleton, List.length_take, List.length_drop]; omega
theorem RDs.erase {K : PySem.W.Frag} {H : Hp} : ∀ (n : Nat) {ds : List D} {vs : List V}, RDs K H ds vs → RDs K H (ds.eraseIdx n) (vs.eraseIdx n)
  | n, [], _, h => by have z : _ = [] := h; subst z; cases n <;> simp [RDs]
  | 0, _ :: ds, _, h => by
    obtain ⟨w, r, e', h1, h2⟩ := h
    subst e'
    exact h2
  | n + 1, _ :: ds, _, h => by
    obtain ⟨w, r, e', h1, h2⟩ := h
    subst e'
    exact ⟨w, _, rfl, h1, RDs.erase n h2⟩
def popD : DRM := fun x ds h Q => match x, ds with
  | .ref l, [.int i] => ∃ xs y, h l = some (.lst xs) ∧ (0 ≤ i ∧ i < 2 ^ 62) ∧ xs[i.toNat]? = some y ∧ Q y (up h l (.lst (xs.eraseIdx i.toNat)))
  | .ref l, [] => ∃ xs y, h l = some (.lst xs) ∧ xs[xs.length - 1]? = some y ∧ Q y (up h l (.lst xs.dropLast))
  | _, _ => False
def rPopV : V → List V → Hp → VK → Prop := fun x vs H Q => rPopAt x vs H Q ∨ rPop x vs H Q
theorem mt_popD {X : Cx} : MtR X "list.pop" rPopV := MtR.or mt_popAt mt_pop
theorem RDs.dropLast {K : PySem.W.Frag} {H : Hp} {ds : List D} {vs : List V} (h : RDs K H ds vs) : RDs K H ds.dropLast vs.dropLast := by
  rw [List.dropLast_eq_take, List.dropLast_eq_take, h.length]; exact h.take _
theorem im_pop {K : PySem.W.Frag} : ImpM K popD rPopV := fun xd ds h Qd x vs H Q r rs rh q u => by
  cases xd <;> rcases ds with _ | ⟨_ | _ | i | _ | _ | _ | _ | _, _ | ⟨_, _⟩⟩ <;> first | exact (q : False).elim | skip
  case ref.nil l =>
    obtain rfl : x = .ref l := r
    have z : vs = [] := rs
    subst z
    obtain ⟨xs, y, e, ey, q⟩ := q
    obtain ⟨ws, f, g, hl⟩ := lst_of rh e
    obtain ⟨w, ew, rw'⟩ := g.get ey
    exact .inr ⟨l, ws, w, rfl, rfl, f, by rw [g.length]; exact ew, up_wr u rh f g.dropLast (by rw [List.length_dropLast]; omega) rw' q⟩
  case ref.cons.int.nil l =>
    obtain rfl : x = .ref l := r
    obtain rfl := one_int rs
    obtain ⟨xs, y, e, ⟨i1, i2⟩, ey, q⟩ := q
    obtain ⟨ws, f, g, hl⟩ := lst_of rh e
    obtain ⟨w, ew, rw'⟩ := g.get ey
    have hlt : i.toNat < ws.length := (List.getElem?_eq_some_iff.mp ew).1
    refine .inl ⟨l, ws, i, i.toNat, w, rfl, rfl, f, by omega, by omega, ?_, ew, up_wr u rh f (g.erase _) ?_ rw' q⟩
    · have hz := ixN_seq (n := ws.length) (i := i) (j := i.toNat) (by unfold ixN; rw [if_pos i1, if_pos (by omega)])
      exact hz.1
    · exact Nat.le_trans (List.length_eraseIdx_le _ _) hl
def extendD : DRM := fun x ds h Q => match x, ds with
  | .ref l, [.ref b] => ∃ xs ys, h l = some (.lst xs) ∧ h b = some (.lst ys) ∧ xs.length + ys.length ≤ sizeLine ∧ Q .non (up h l (.lst (xs ++ ys)))
  | _, _ => False
theorem im_extend {K : PySem.W.Frag} : ImpM K extendD rExtend := fun xd ds h Qd x vs H Q r rs rh q u => by
  cases xd <;> rcases ds with _ | ⟨_ | _ | _ | _ | _ | b | _ | _, _ | ⟨_, _⟩⟩ <;> first | exact (q : False).elim | skip
  case ref.cons.ref.nil l =>
  obtain rfl : x = .ref l := r
  obtain ⟨v, rfl, rv⟩ := rs.v1
  obtain rfl : v = .ref b := rv
  obtain ⟨xs, ys, e1, e2, hl, q⟩ := q
  obtain ⟨ws, f, g, _⟩ := lst_of rh e1
  obtain ⟨zs, f2, g2, _⟩ := lst_of rh e2
  exact ⟨l, b, ws, zs, rfl, rfl, f, f2, by rw [g.length, g2.length]; exact hl, up_wr u rh f (g.append g2) (by rw [List.length_append]; exact hl) rd_non q⟩
theorem RDs.reverse {K : PySem.W.Frag} {H : Hp} : ∀ {ds : List D} {vs : List V}, RDs K H ds vs → RDs K H ds.reverse vs.reverse
  | [], _, h => by have z : _ = [] := h; subst z; simp [RDs]
  | d :: ds, _, h => by
    obtain ⟨w, r, e', h1, h2⟩ := h
    subst e'
    rw [List.reverse_cons, List.reverse_cons]
    exact (RDs.reverse h2).append (RDs.one h1)
def reverseD : DRM := fun x ds h Q => match x, ds with
  | .ref l, [] => ∃ xs, h l = some (.lst xs) ∧ Q .non (up h l (.lst xs.reverse))
  | _, _ => False
theorem im_reverse {K : PySem.W.Frag} : ImpM K reverseD rReverse := fun xd ds h Qd x vs H Q r rs rh q u => by
  cases xd <;> rcases ds with _ | ⟨_, _⟩ <;> first | exact (q : False).elim | skip
  case ref.nil l =>
  obtain rfl : x = .ref l := r
  have z : vs = [] := rs
  subst z
  obtain ⟨xs, e, q⟩ := q
  obtain ⟨ws, f, g, hl⟩ := lst_of rh e
  exact ⟨l, ws, rfl, rfl, f, up_wr u rh f g.reverse (by rw [List.length_reverse]; exact hl) rd_non q⟩
def clearD : DRM := fun x ds h Q => match x, ds with
  | .ref l, [] => ∃ xs, h l = some (.lst xs) ∧ Q .non (up h l (.lst []))
  | _, _ => False
theorem im_clear {K : PySem.W.Frag} : ImpM K clearD rClear := fun xd ds h Qd x vs H Q r rs rh q u => by
  cases xd <;> rcases ds with _ | ⟨_, _⟩ <;> first | exact (q : False).elim | skip
  case ref.nil l =>
  obtain rfl : x = .ref l := r
  have z : vs = [] := rs
  subst z
  obtain ⟨xs, e, q⟩ := q
  obtain ⟨ws, f, g, hl⟩ := lst_of rh e
  exact ⟨l, ws, rfl, rfl, f, up_wr (es := []) (ws := []) u rh f rfl (Nat.zero_le _) rd_non q⟩
end Dl
end
section
namespace Dl
open PySem PySem.Spec PyProof.Rows L2

def tyO (h : Hd) : D → Option String
  | .non => some "NoneType"
  | .bl _ => some "bool"
  | .int _ => some "int"
  | .str _ => some "str"
  | .tup _ => some "tuple"
  | .sc _ => some "list"
  | .ref a => match h a with
    | some (.lst _) => some "list"
    | some (.dik _) => some "dict"
    | _ => none
  | .ty _ => none
theorem tyO_V {K : PySem.W.Frag} {H : Hp} {h : Hd} {d : D} {v : V} {T : String} (rh : RH K H h) (r : RD K H d v) (e : tyO h d = some T) : TyX K H v (.type T) := by
  cases d
  case non => obtain rfl : v = .non := r; obtain rfl : "NoneType" = T := by simpa [tyO] using e
              exact .base .non
  case bl b => obtain rfl : v = .bl b := r; obtain rfl : "bool" = T := by simpa [tyO] using e
               exact .base (.bl b)
  case int i => obtain rfl : v = .int i := r; obtain rfl : "int" = T := by simpa [tyO] using e
                exact .base (.int i)
  case str z => obtain ⟨rfl, _⟩ := r; obtain rfl : "str" = T := by simpa [tyO] using e
                exact .base (.str z)
  case ty n => cases e
  case tup ds =>
    obtain rfl : "tuple" = T := by simpa [tyO] using e
    obtain ⟨a, vs, rfl, s, _⟩ := r
    rcases s with (s | ⟨o, s⟩) | ⟨o, _, _, s, c, _⟩
    · exact .base (.tup s)
    · exact .fTuple s
    · exact .kTuple s c
  case sc ds =>
    obtain rfl : "list" = T := by simpa [tyO] using e
    obtain ⟨a, vs, rfl, s, _⟩ := r
    rcases s.seq with (s | ⟨o, s⟩) | ⟨o, _, _, s, c, _⟩
    · exact .base (.lst s)
    · exact .base (.frz s)
    · exact .kList s c
  case ref a =>
    obtain rfl : v = .ref a := r
    unfold tyO at e
    cases q : h a with
    | none => simp only [q] at e; cases e
    | some o =>
      cases o <;> simp only [q] at e <;> first | cases e | skip
      · obtain ⟨vs, f, _⟩ := lst_of rh q
        exact .base (.lst f)
      · obtain ⟨kv, f, _⟩ := rh a _ q
        exact .base (.dK f)
def isiB (T n : String) : Option Bool := kitB T n
@[irreducible] def isiD : DRC := fun ds h Q => match ds with
  | [x, .ty n] => (match tyO h x with
    | some T => (match isiB T n with
      | some b => Q (.bl b) h
      | none => False)
    | none => False)
  | _ => False
theorem im_isi {K : PySem.W.Frag} : ImpC K isiD (rIsi K) := fun ds h Qd vs H Q r rh q u => by
  unfold isiD at q
  rcases ds with _ | ⟨x, _ | ⟨_ | _ | _ | _ | n | _ | _ | _, _ | ⟨_, _⟩⟩⟩ <;> first | exact (q : False).elim | skip
  obtain ⟨v, w, rfl, rv, rw'⟩ := r.v2
  obtain rfl : w = .ty n := rw'
  cases e : tyO h x with
  | none => simp only [isiD, e] at q
  | some T =>
    cases e2 : isiB T n with
    | none => simp only [isiD, e, e2] at q
    | some b =>
      simp only [isiD, e, e2] at q
      exact ⟨v, .ty n, .type T, .type n, b, rfl, .ty n, tyO_V rh rv e, kit_ty e2, u _ _ q _ _ rfl rh (Tst.refl H)⟩
section
variable {X : Cx} {p pos : Pos} {e : Expr} {es : List Expr} {t : DTA}
theorem e_isi (ha : PA X (e :: es) (liftA X.K t)) (hm : X.mg "isinstance" = none) (hg : Gl X "isinstance" := by rfl) (he : starEach (e :: es) X.env = (false, eval e X.env) :: starEach es X.env := by rfl) (hpl : (backTo pos (starEach es X.env)).any (·.1) = false := by rfl) : PE X (.Call (.Name "isinstance" p) (e :: es) [] pos) (liftE X.K (dCB isiD t)) := e_callB call_isi im_isi (by decide +kernel) hm ha hg (by decide) (by decide) he hpl
end

def keyO : D → Option Key
  | .int i => some (.inl i)
  | .str x => some (.inr x)
  | _ => none
theorem keyO_V {K : PySem.W.Frag} {H : Hp} {d : D} {v : V} {k : Key} (r : RD K H d v) (e : keyO d = some k) : v = kV k := by
  cases d <;> first | cases e | skip
  case int => exact r
  case str => exact r.1
def valD : List (Key × D) → Key → Option D
  | [], _ => none
  | (k, d) :: r, j => if k = j then some d else valD r j
def putKD : List (Key × D) → Key → D → List (Key × D)
  | [], j, d => [(j, d)]
  | (k, x) :: r, j, d => if k = j then (k, d) :: r else (k, x) :: putKD r j d
theorem valD_V {K : PySem.W.Frag} {H : Hp} {j : Key} : ∀ {kvs : List (Key × D)} {kv : List (Key × V)} {d : D}, RFs K H kvs kv → valD kvs j = some d → ∃ v, valV kv j = some v ∧ RD K H d v
  | [], _, _, _, e => by cases e
  | (k, x) :: r, _, d, rel, e => by
    obtain ⟨v, us, rfl, r1, r2⟩ := rel
    unfold valD at e
    by_cases z : k = j
    · rw [if_pos z] at e
      obtain rfl : x = d := Option.some.inj e
      exact ⟨v, valV_pos (p := (k, v)) z, r1⟩
    · rw [if_neg z] at e
      obtain ⟨w, h1, h2⟩ := valD_V r2 e
      exact ⟨w, by rw [valV_neg (p := (k, v)) z]; exact h1, h2⟩
theorem valD_V0 {K : PySem.W.Frag} {H : Hp} {j : Key} : ∀ {kvs : List (Key × D)} {kv : List (Key × V)}, RFs K H kvs kv → valD kvs j = none → valV kv j = none
  | [], _, r, _ => by have z : _ = [] := r; subst z; exact valV_nil
  | (k, x) :: r, _, rel, e => by
    obtain ⟨v, us, rfl, r1, r2⟩ := rel
    unfold valD at e
    by_cases z : k = j
    · rw [if_pos z] at e; cases e
    · rw [if_neg z] at e
      rw [valV_neg (p := (k, v)) z]
      exact valD_V0 r2 e
theorem keys_V {κ : Type} {K : PySem.W.Frag} {H : Hp} : ∀ {kvs : List (κ × D)} {kv : List (κ × V)}, RFs K H kvs kv → kv.map (·.1) = kvs.map (·.1)
  | [], _, r => by have z : _ = [] := r; subst z; rfl
  | (k, x) :: r, _, rel => by
    obtain ⟨v, us, rfl, r1, r2⟩ := rel
    rw [List.map_cons, List.map_cons, keys_V r2]
theorem putK_rec {k j : Key} {x v : V} {r : List (Key × V)} (hn : ((k, x) :: r).map (·.1) |>.Nodup) : putK ((k, x) :: r) j v = if k = j then (k, v) :: r else (k, x) :: putK r j v := by
  unfold putK
  by_cases z : k = j
  · subst z
    rw [if_pos rfl]
    have h1 : (((k, x) :: r).any fun kv => decide (kv.1 = k)) = true := by simp
    rw [if_pos h1, List.map_cons, if_pos rfl]
    congr 1
    have hk : k ∉ r.map (·.1) := by
      rw [List.map_cons, List.nodup_cons] at hn; exact hn.1
    clear h1 hn
    induction r with
    | nil => rfl
    | cons y ys ih =>
      rw [List.map_cons, List.mem_cons, not_or] at hk
      rw [List.map_cons, if_neg (fun e => hk.1 e.symm), ih hk.2]
  · rw [if_neg z]
    have h1 : (((k, x) :: r).any fun kv => decide (kv.1 = j)) = (r.any fun kv => decide (kv.1 = j)) := by simp [z]
    rw [h1]
    by_cases y : (r.any fun kv => decide (kv.1 = j)) = true
    · rw [if_pos y, if_pos y, List.map_cons, if_neg z]
    · rw [if_neg y, if_neg y]; rfl
theorem putKD_V {K : PySem.W.Frag} {H : Hp} {j : Key} {d : D} {v : V} (rd : RD K H d v) : ∀ {kvs : List (Key × D)} {kv : List (Key × V)}, RFs K H kvs kv → (kvs.map (·.1)).Nodup → RFs K H (putKD kvs j d) (putK kv j v)
  | [], _, r, _ => by have z : _ = [] := r; subst z; exact ⟨v, [], rfl, rd, rfl⟩
  | (k, x) :: r, _, rel, hn => by
    have ek := keys_V rel
    obtain ⟨w, us, rfl, r1, r2⟩ := rel
    rw [putK_rec (by rw [ek]; exact hn)]
    unfold putKD
    rw [List.map_cons, List.nodup_cons] at hn
    by_cases z : k = j
    · rw [if_pos z, if_pos z]; exact ⟨v, us, rfl, rd, r2⟩
    · rw [if_neg z, if_neg z]; exact ⟨w, _, rfl, r1, putKD_V rd r2 hn.2⟩
def dgetD : DR2 := fun x y h Q => match x, keyO y with
  | .ref a, some k => ∃ kvs d, h a = some (.dik kvs) ∧ valD kvs k = some d ∧ Q d h
  | _, _ => False
def dinD (neg : Bool) : DR2 := fun y x h Q => match x, keyO y with
  | .ref a, some k => ∃ kvs, h a = some (.dik kvs) ∧ Q (.bl (if neg then !(valD kvs k).isSome else (valD kvs k).isSome)) h
  | _, _ => False
def dputS (td ty tv : DTE) : DTS := fun D ρ h => tv ρ h fun v h1 => td ρ h1 fun x h2 => ty ρ h2 fun y h3 => match x, keyO y with
  | .ref a, some k => ∃ kvs, h3 a = some (.dik kvs) ∧ kvs.length < sizeLine ∧ (kvs.map (·.1)).Nodup ∧ D.nx ρ (up h3 a (.dik (putKD kvs k v)))
  | _, _ => False
section
variable {X : Cx} {o i value : Expr} {td ty tv : DTE} {pos pos' : Pos} {k : Nat}
theorem e_dget (hr : Room k X.A) (ho : PE X o (liftE X.K td)) (hi : PE X i (liftE X.K ty)) (hs : NoSl i := by intro _ _; rfl) : PE X (.Subscript o i pos) (liftE X.K (dOp dgetD td ty)) := impE (pe_dget (hu_of hr) ho hi hs) fun σ H Q ⟨ρ, h, Qd, rel, q, u⟩ =>
  ⟨ρ, h, _, rel, q, fun x h1 q1 v1 H1 r1 g1 t1 => ⟨ρ, h1, _, rel.at t1 g1, q1, fun y h2 q2 v2 H2 r2 g2 t2 => by
    cases e : keyO y with
    | none => cases x <;> simp only [dgetD, e] at q2
    | some kk =>
      cases x <;> simp only [dgetD, e] at q2
      case ref a =>
      obtain ⟨kvs, d, e1, e2, q3⟩ := q2
      obtain ⟨kv, f, g⟩ := g2 a _ e1
      obtain ⟨w, e3, rw'⟩ := valD_V g e2
      have hv := keyO_V r2 e
      subst hv
      have dg : DGet H2 a (kV kk) (some w) := by rw [← e3]; exact DGet.k f
      exact ⟨a, w, r1, dg, u _ _ q3 _ _ rw' g2 (t1.trans t2)⟩⟩⟩
theorem im_din {K : PySem.W.Frag} {td ty : DTE} {neg : Bool} {σ : L2.St} {H : Hp} {Q : VK} (h : liftE K (dOp (dinD neg) ty td) σ H Q) : (liftE K ty) σ H fun y H1 => (liftE K td) σ H1 fun x H2 => ∃ a o, x = .ref a ∧ DGet H2 a y o ∧ Q (.bl (if neg then !o.isSome else o.isSome)) H2 := by
  obtain ⟨ρ, h, Qd, rel, q, u⟩ := h
  refine ⟨ρ, h, _, rel, q, fun y h1 q1 v1 H1 r1 g1 t1 => ⟨ρ, h1, _, rel.at t1 g1, q1, fun x h2 q2 v2 H2 r2 g2 t2 => ?_⟩⟩
  cases e : keyO y with
  | none => cases x <;> simp only [dinD, e] at q2
  | some kk =>
    cases x <;> simp only [dinD, e] at q2
    case ref a =>
    obtain ⟨kvs, e1, q3⟩ := q2
    obtain ⟨kv, f, g⟩ := g2 a _ e1
    have hv := keyO_V r1 e
    subst hv
    refine ⟨a, _, r2, DGet.k f, ?_⟩
    have eq : (valV kv kk).isSome = (valD kvs kk).isSome := by
      cases z : valD kvs kk with
      | none => rw [valD_V0 g z]; rfl
      | some d => obtain ⟨w, e3, _⟩ := valD_V g z; rw [e3]; rfl
    rw [eq]
    exact u _ _ q3 _ _ rfl g2 (t1.trans t2)
theorem e_din (hr : Room k X.A) (hi : PE X i (liftE X.K ty)) (ho : PE X o (liftE X.K td)) (hm : behindInMarks .In o = false := by rfl) : PE X (.Compare i [.In] [o] pos) (liftE X.K (dOp (dinD false) ty td)) := impE (pe_cmp (pc_din (hu_of hr) hi ho) hm) fun σ H Q q => by have z := im_din q; exact z
theorem e_dnotIn (hr : Room k X.A) (hi : PE X i (liftE X.K ty)) (ho : PE X o (liftE X.K td)) (hm : behindInMarks .NotIn o = false := by rfl) : PE X (.Compare i [.NotIn] [o] pos) (liftE X.K (dOp (dinD true) ty td)) := impE (pe_cmp (pc_dnotin (hu_of hr) hi ho) hm) fun σ H Q q => by have z := im_din q; exact z
theorem tB_of {t : DTE} {σ : L2.St} {H : Hp} {Q : Bool → Hp → Prop} (h : liftT X.K (dB t) σ H Q) : liftE X.K t σ H fun x H1 => ∃ c, x = .bl c ∧ Q c H1 := by
  obtain ⟨ρ, h, Qd, rel, q, u⟩ := h
  exact ⟨ρ, h, _, rel, q, fun d h1 q1 v H1 r1 g1 t1 => let ⟨c, e, q2⟩ := blQ_V r1 q1; ⟨c, e, u c h1 q2 H1 g1 t1⟩⟩
theorem t_din (hr : Room k X.A) (hi : PE X i (liftE X.K ty)) (ho : PE X o (liftE X.K td)) (hm : behindInMarks .In o = false := by rfl) : PT X (.Compare i [.In] [o] pos) (liftT X.K (dB (dOp (dinD false) ty td))) := impT (pt_cmp (pc_din (hu_of hr) hi ho) hm) fun σ H Q q => by have z := im_din (tB_of q); exact z
theorem t_dnotIn (hr : Room k X.A) (hi : PE X i (liftE X.K ty)) (ho : PE X o (liftE X.K td)) (hm : behindInMarks .NotIn o = false := by rfl) : PT X (.Compare i [.NotIn] [o] pos) (liftT X.K (dB (dOp (dinD true) ty td))) := impT (pt_cmp (pc_dnotin (hu_of hr) hi ho) hm) fun σ H Q q => by have z := im_din (tB_of q); exact z
theorem s_dput (hr : Room k X.A) (ho : PE X o (liftE X.K td)) (hi : PE X i (liftE X.K ty)) (hv : PE X value (liftE X.K tv)) (hs : swapsWith value (some (.Subscript o i pos')) pos.line X.env = pure false := by rfl) : PS X (.Assign [.Subscript o i pos'] value pos) (liftS X.K (dputS td ty tv)) := impS (ps_dput (hu_of hr) ho hi hv hs) fun D σ H ⟨ρ, h, Dd, rel, q, w⟩ =>
  ⟨ρ, h, _, rel, q, fun v h1 q1 v1 H1 r1 g1 t1 => ⟨ρ, h1, _, rel.at t1 g1, q1, fun x h2 q2 v2 H2 r2 g2 t2 => ⟨ρ, h2, _, (rel.at t1 g1).at t2 g2, q2, fun y h3 q3 v3 H3 r3 g3 t3 => by
    cases e : keyO y with
    | none => cases x <;> simp only [e] at q3
    | some kk =>
      cases x <;> simp only [e] at q3
      case ref a =>
      obtain ⟨kvs, e1, hl, hn, q4⟩ := q3
      obtain ⟨kv, f, g⟩ := g3 a _ e1
      have hv := keyO_V r3 e
      subst hv
      have t4 : Tst H3 (upd H3 a (.dK (putK kv kk v1))) := tst_upd f trivial
      have tt := t1.trans (t2.trans (t3.trans t4))
      exact ⟨a, _, r2, DPut.k f (by rw [g.length]; exact hl), w.nx _ _ q4 _ _ ⟨rel.s.mono tt, g3.upd (o := .dik (putKD kvs kk v)) t4 ⟨_, upd_same, putKD_V (r1.mono (t2.trans (t3.trans t4))) (RFs.mono t4 g) hn⟩⟩ tt⟩⟩⟩⟩
end
def dEmp : DTE := fun _ h Q => ∀ p, h p = none → Q (.ref p) (up h p (.dik []))
def dVals : List DTE → DTA
  | [] => dNil
  | t :: r => dCons t (dVals r)
def dDisp (kts : List (Str × DTE)) : DTE := fun ρ h Q => ∀ p, h p = none → dVals (kts.map (·.2)) ρ (up h p (.dik [])) fun ds h2 => h2 p = some (.dik []) ∧ ds.length = kts.length ∧ Q (.ref p) (up h2 p (.dik ((kts.map fun kt => (.inr kt.1 : Key)).zip ds)))
section
variable {X : Cx} {pos : Pos}
theorem e_dnew : PE X (.Dict [] [] pos) (liftE X.K dEmp) := impE pe_dnewK fun σ H Q ⟨ρ, h, Qd, rel, q, u⟩ p n => u _ _ (q p (rel.h.none_of n)) _ _ rfl (rel.h.new (o := .dik []) n ⟨[], upd_same, rfl⟩) (tst_new n)
theorem pairs_V {K : PySem.W.Frag} : ∀ (kts : List (Str × DTE)) {ρ : DEnv} {h : Hd} {σ : L2.St} {H : Hp} {Qd : List D → Hd → Prop} {Q : List (V × V) → Hp → Prop}, Rel K ρ h σ H → dVals (kts.map (·.2)) ρ h Qd →
    (∀ ds h', Qd ds h' → ∀ vs H', RDs K H' ds vs → vs.length = kts.length → RH K H' h' → Tst H H' → Q ((kts.map fun kt => V.str kt.1).zip vs) H') → tPairs (kts.map fun kt => (tC (.str kt.1), liftE K kt.2)) σ H Q
  | [], ρ, h, σ, H, Qd, Q, rel, q, u => u [] h q [] H rfl rfl rel.h (Tst.refl H)
  | (k, t) :: r, ρ, h, σ, H, Qd, Q, rel, q, u => by
    refine ⟨ρ, h, _, rel, q, fun d h1 q1 v H1 r1 g1 t1 => pairs_V r (rel.at t1 g1) q1 fun ds h2 q2 vs H2 r2 l2 g2 t2 => ?_⟩
    exact u _ _ q2 (v :: vs) _ ⟨v, vs, rfl, r1.mono t2, r2⟩ (by rw [List.length_cons, List.length_cons, l2]) g2 (t1.trans t2)
theorem merge_zip : ∀ (ks : List Str) (vs : List V) (acc : List (Key × V)), ks.Nodup → (∀ k ∈ ks, (.inr k : Key) ∉ acc.map (·.1)) → vs.length = ks.length → mergeK acc ((ks.map fun k => (.inr k : Key)).zip vs) = acc ++ (ks.map fun k => (.inr k : Key)).zip vs
  | [], vs, acc, _, _, _ => by simp [mergeK]
  | k :: ks, [], acc, _, _, h => by simp at h
  | k :: ks, v :: vs, acc, hn, hd, hl => by
    rw [List.nodup_cons] at hn
    have h1 : valV acc (.inr k) = none := by
      have hk := hd k List.mem_cons_self
      clear hd hn hl
      induction acc with
      | nil => exact valV_nil
      | cons y ys ih =>
        rw [List.map_cons, List.mem_cons, not_or] at hk
        rw [valV_neg (p := y) (fun e => hk.1 e.symm)]
        exact ih hk.2
    show mergeK (putK acc (.inr k) v) ((ks.map fun k => (.inr k : Key)).zip vs) = _
    rw [putK_new v h1, merge_zip ks vs _ hn.2 (fun j hj => ?_) (by simpa using hl)]
    · simp
    · rw [List.map_append, List.mem_append, not_or]
      refine ⟨hd j (List.mem_cons_of_mem _ hj), ?_⟩
      intro e
      have e' : (.inr j : Key) = .inr k := by simpa using e
      injection e' with e'
      exact hn.1 (e' ▸ hj)
theorem RFs.zip {K : PySem.W.Frag} {H : Hp} : ∀ (ks : List Key) {ds : List D} {vs : List V}, RDs K H ds vs → RFs K H (ks.zip ds) (ks.zip vs)
  | [], _, _, _ => by simp [RFs]
  | k :: ks, [], _, r => by have z : _ = [] := r; subst z; simp [RFs]
  | k :: ks, d :: ds, _, r => by
    obtain ⟨v, us, rfl, r1, r2⟩ := r
    exact ⟨v, _, rfl, r1, RFs.zip ks r2⟩
theorem e_disp {keys : List (Option Expr)} {values : List Expr} {kts : List (Str × DTE)} (h : PPs X pos keys values (kts.map fun kt => (tC (.str kt.1), liftE X.K kt.2))) (hn : (kts.map (·.1)).Nodup := by decide +kernel) (hall : keys.all (·.isSome) = true := by rfl) (hl : keys.length = values.length := by rfl) (h0 : keys ≠ [] := by intro z; cases z) (h15 : keys.length ≤ 15 := by decide) (hk : kts.length ≤ 15 := by decide) :
    PE X (.Dict keys values pos) (liftE X.K (dDisp kts)) := impE (pe_disp h hall hl h0 h15) fun σ H Q ⟨ρ, h, Qd, rel, q, u⟩ p n => by
  have t0 : Tst H (upd H p (.dK [])) := tst_new n
  have g0 : RH X.K (upd H p (.dK [])) (up h p (.dik [])) := rel.h.new (o := .dik []) n ⟨[], upd_same, rfl⟩
  refine pairs_V kts ⟨rel.s.mono t0, g0⟩ (q p (rel.h.none_of n)) fun ds h2 q2 vs H2 r2 l2 g2 t2 => ?_
  obtain ⟨e1, e2, q3⟩ := q2
  obtain ⟨kv, f, g⟩ := g2 p _ e1
  have z : kv = [] := g
  subst z
  refine ⟨f, (kts.map fun kt => (.inr kt.1 : Key)).zip vs, ?_, ?_, ?_⟩
  · clear q3 r2 e2
    have : ∀ (l : List (Str × DTE)) (ws : List V), (l.map fun kt => V.str kt.1).zip ws = ((l.map fun kt => (.inr kt.1 : Key)).zip ws).map fun kv => (kV kv.1, kv.2) := by
      intro l
      induction l with
      | nil => intro ws; simp
      | cons a l ih => intro ws; cases ws with
        | nil => simp
        | cons w ws => simp [ih, kV]
    exact this kts vs
  · rw [List.length_zip, List.length_map]; omega
  · have m := merge_zip (kts.map (·.1)) vs [] hn (fun _ _ z => by cases z) (by rw [List.length_map]; exact l2)
    rw [List.map_map] at m
    have m' : mergeK [] ((kts.map fun kt => (.inr kt.1 : Key)).zip vs) = (kts.map fun kt => (.inr kt.1 : Key)).zip vs := m
    rw [m']
    have t4 : Tst H2 (upd H2 p (.dK ((kts.map fun kt => (.inr kt.1 : Key)).zip vs))) := tst_upd f trivial
    exact u _ _ q3 _ _ rfl (g2.upd (o := .dik _) t4 ⟨_, upd_same, RFs.zip _ (r2.mono t4)⟩) (t0.trans (t2.trans t4))
end
def pairsO : List D → Option (List (Key × D))
  | [] => some []
  | .tup [k, v] :: r => match keyO k, pairsO r with
    | some k, some kvs => some ((k, v) :: kvs)
    | _, _ => none
  | _ :: _ => none
def mergeD (kvs more : List (Key × D)) : List (Key × D) := more.foldl (fun acc kv => putKD acc kv.1 kv.2) kvs
@[irreducible] def dictPD : DRC := fun ds h Q => match ds with
  | [d] => (match lstO h d with
    | some xs => (match pairsO xs with
      | some kvs => ∀ p, h p = none → Q (.ref p) (up h p (.dik (mergeD [] kvs)))
      | none => False)
    | none => False)
  | _ => False
theorem pairsO_V {K : PySem.W.Frag} {H : Hp} : ∀ {ds : List D} {vs : List V} {kvs : List (Key × D)}, RDs K H ds vs → pairsO ds = some kvs → ∃ (ps : List Addr) (kv : List (Key × V)), vs = ps.map V.ref ∧ Paired (fun p q => SqT K H p [kV q.1, q.2]) ps kv ∧ RFs K H kvs kv
  | [], _, kvs, r, e => by
    have z : _ = [] := r
    obtain rfl : [] = kvs := by simpa [pairsO] using e
    exact ⟨[], [], by rw [z]; rfl, .nil, rfl⟩
  | d :: ds, _, kvs, r, e => by
    obtain ⟨v, us, rfl, r1, r2⟩ := r
    cases d <;> first | cases e | skip
    case tup xs =>
    rcases xs with _ | ⟨k, _ | ⟨x, _ | ⟨_, _⟩⟩⟩ <;> first | cases e | skip
    cases ek : keyO k with
    | none => simp [pairsO, ek] at e
    | some kk =>
      cases er : pairsO ds with
      | none => simp [pairsO, ek, er] at e
      | some ks =>
        obtain rfl : (kk, x) :: ks = kvs := by simpa [pairsO, ek, er] using e
        obtain ⟨ps, kv, rfl, hp, hr⟩ := pairsO_V r2 er
        obtain ⟨a, ws, rfl, s, g, l⟩ := r1
        obtain ⟨v1, v2, rfl, g1, g2⟩ := g.v2
        have hv := keyO_V g1 ek
        subst hv
        exact ⟨a :: ps, (kk, v2) :: kv, rfl, .cons s hp, v2, kv, rfl, g2, hr⟩
theorem putKD_keys {j : Key} {d : D} : ∀ {kvs : List (Key × D)}, (kvs.map (·.1)).Nodup → ((putKD kvs j d).map (·.1)).Nodup ∧ ∀ k, k ∈ (putKD kvs j d).map (·.1) → k = j ∨ k ∈ kvs.map (·.1)
  | [], _ => ⟨by simp [putKD], fun k h => by simpa [putKD] using h⟩
  | (k, x) :: r, hn => by
    rw [List.map_cons, List.nodup_cons] at hn
    obtain ⟨h1, h2⟩ := putKD_keys (j := j) (d := d) hn.2
    unfold putKD
    by_cases z : k = j
    · rw [if_pos z]
      refine ⟨by rw [List.map_cons, List.nodup_cons]; exact hn, fun k' h => .inr h⟩
    · rw [if_neg z]
      refine ⟨?_, fun k' h => ?_⟩
      · rw [List.map_cons, List.nodup_cons]
        refine ⟨fun m => ?_, h1⟩
        rcases h2 _ m with e | e
        · exact z e
        · exact hn.1 e
      · rw [List.map_cons, List.mem_cons] at h
        rcases h with e | e
        · exact .inr (by rw [List.map_cons, List.mem_cons]; exact .inl e)
        · rcases h2 _ e with e | e
          · exact .inl e
          · exact .inr (by rw [List.map_cons, List.mem_cons]; exact .inr e)
theorem mergeD_V {K : PySem.W.Frag} {H : Hp} : ∀ {more : List (Key × D)} {mv : List (Key × V)} {kvs : List (Key × D)} {kv : List (Key × V)}, RFs K H more mv → RFs K H kvs kv → (kvs.map (·.1)).Nodup → RFs K H (mergeD kvs more) (mergeK kv mv)
  | [], _, kvs, kv, r, q, _ => by have z : _ = [] := r; subst z; exact q
  | (k, d) :: r, _, kvs, kv, rel, q, hn => by
    obtain ⟨v, us, rfl, r1, r2⟩ := rel
    exact mergeD_V (kvs := putKD kvs k d) (kv := putK kv k v) r2 (putKD_V r1 q hn) (putKD_keys hn).1
theorem im_dictP {K : PySem.W.Frag} : ImpC K dictPD (fun xs H Q => ∃ (a : Addr) (ps : List Addr) (kvs : List (Key × V)), xs = [.ref a] ∧ SqL K H a (ps.map V.ref) ∧ Paired (fun p kv => SqT K H p [kV kv.1, kv.2]) ps kvs ∧ ∀ p, H p = none → Q (.ref p) (upd H p (.dK (mergeK [] kvs)))) := fun ds h Qd vs H Q r rh q u => by
  unfold dictPD at q
  rcases ds with _ | ⟨d, _ | ⟨_, _⟩⟩ <;> first | exact (q : False).elim | skip
  obtain ⟨v, rfl, rv⟩ := r.v1
  cases e : lstO h d with
  | none => simp only [dictPD, e] at q
  | some xs =>
    cases e2 : pairsO xs with
    | none => simp only [dictPD, e, e2] at q
    | some kvs =>
      simp only [dictPD, e, e2] at q
      obtain ⟨p, ys, rfl, s, g, l⟩ := lstO_V rh rv e
      obtain ⟨ps, kv, rfl, hp, hr⟩ := pairsO_V g e2
      refine ⟨p, ps, kv, rfl, s, hp, fun p' n => ?_⟩
      exact u _ _ (q p' (rh.none_of n)) _ _ rfl (rh.new (o := .dik _) n ⟨_, upd_same, RFs.mono (tst_new n) (mergeD_V hr rfl (by simp))⟩) (tst_new n)
section
variable {X : Cx} {p pos : Pos} {e : Expr} {es : List Expr} {t : DTA}
theorem e_dictP (hc : X.calm = true) (ha : PA X (e :: es) (liftA X.K t)) (hm : X.mg "dict" = none) (hg : Gl X "dict" := by rfl) (he : starEach (e :: es) X.env = (false, eval e X.env) :: starEach es X.env := by rfl) (hpl : (backTo pos (starEach es X.env)).any (·.1) = false := by rfl) : PE X (.Call (.Name "dict" p) (e :: es) [] pos) (liftE X.K (dCB dictPD t)) := e_callTy (call_dictP hc) im_dictP (by decide +kernel) hm ha hg (by decide) (by decide) he hpl
end

def isStrs : List D → Option (List Str)
  | [] => some []
  | .str i :: r => (isStrs r).map (i :: ·)
  | _ :: _ => none
theorem isStrs_map : ∀ (ns : List Str), isStrs (ns.map D.str) = some ns
  | [] => rfl
  | n :: r => by simp [isStrs, isStrs_map r]
theorem isStrs_V {K : PySem.W.Frag} {H : Hp} : ∀ {ds : List D} {vs : List V} {ns : List Str}, RDs K H ds vs → isStrs ds = some ns → vs = ns.map V.str ∧ ∀ x ∈ ns, okS x
  | [], _, ns, r, e => by
    have z : _ = [] := r
    obtain rfl : [] = ns := by simpa [isStrs] using e
    rw [z]; exact ⟨rfl, fun _ h => by cases h⟩
  | d :: ds, _, ns, r, e => by
    obtain ⟨v, us, rfl, r1, r2⟩ := r
    cases d <;> first | cases e | skip
    case str i =>
    cases q : isStrs ds with
    | none => simp [isStrs, q] at e
    | some ms =>
      obtain rfl : i :: ms = ns := by simpa [isStrs, q] using e
      obtain ⟨rfl, o⟩ := r1
      obtain ⟨z, hz⟩ := isStrs_V r2 q
      exact ⟨by rw [z]; rfl, fun x hx => by
        rcases List.mem_cons.mp hx with h | h
        · rw [h]; exact o
        · exact hz x h⟩
@[irreducible] def joinD : DRM := fun x ds h Q => match x, ds with
  | .str a, [d] => (match itemsD h d with
    | some xs => (match isStrs xs with
      | some ys => (ys.map (·.length)).sum + ys.length * a.length ≤ 16777216 ∧ Q (.str (Str.join a ys)) h
      | none => False)
    | none => False)
  | _, _ => False
theorem join_cps {a : Str} {c : Nat} : ∀ {ys : List Str}, c ∈ (Str.join a ys).cps.toList → c ∈ a.cps.toList ∨ ∃ y ∈ ys, c ∈ y.cps.toList
  | [], h => by cases h
  | [x], h => .inr ⟨x, List.mem_cons_self, h⟩
  | x :: y :: r, h => by
    have e : (Str.join a (x :: y :: r)).cps.toList = x.cps.toList ++ a.cps.toList ++ (Str.join a (y :: r)).cps.toList := by
      show ((x.cps ++ a.cps) ++ (Str.join a (y :: r)).cps).toList = _
      rw [Array.toList_append, Array.toList_append]
    rw [e, List.mem_append, List.mem_append] at h
    rcases h with (h | h) | h
    · exact .inr ⟨x, List.mem_cons_self, h⟩
    · exact .inl h
    · rcases join_cps h with z | ⟨w, hw, z⟩
      · exact .inl z
      · exact .inr ⟨w, List.mem_cons_of_mem _ hw, z⟩
theorem okS.join {a : Str} {ys : List Str} (oa : okS a) (oy : ∀ y ∈ ys, okS y) (hl : (ys.map (·.length)).sum + ys.length * a.length ≤ 16777216) : okS (Str.join a ys) :=
  ⟨Nat.le_trans (StrLaws.join_length_le a ys) (by rw [sizeLine_eq]; exact hl), fun c hc => by
    rcases join_cps hc with z | ⟨w, hw, z⟩
    · exact oa.2 c z
    · exact (oy w hw).2 c z⟩
theorem im_join {K : PySem.W.Frag} : ImpM K joinD (fun x xs H Q => ∃ a p, ∃ ys : List Str, x = .str a ∧ xs = [.ref p] ∧ (SqL K H p (ys.map V.str) ∨ SqT K H p (ys.map V.str)) ∧ (ys.map (·.length)).sum + ys.length * a.length ≤ 16777216 ∧ Q (.str (Txt.join a ys)) H) := fun xd ds h Qd x vs H Q r rs rh q u => by
  unfold joinD at q
  cases xd <;> rcases ds with _ | ⟨d, _ | ⟨_, _⟩⟩ <;> first | exact (q : False).elim | skip
  case str.cons.nil a =>
  obtain ⟨v, rfl, rv⟩ := rs.v1
  cases e : itemsD h d with
  | none => simp only [joinD, e] at q
  | some xs =>
    cases e2 : isStrs xs with
    | none => simp only [joinD, e, e2] at q
    | some ys =>
      simp only [joinD, e, e2] at q
      obtain ⟨p, ws, rfl, s, g, l⟩ := items_V rh rv e
      obtain ⟨rfl, oy⟩ := isStrs_V g e2
      refine ⟨a, p, ys, r.1, rfl, s, q.1, ?_⟩
      rw [show Txt.join a ys = Str.join a ys from StrLaws.glued_eq_join a ys]
      exact u _ _ q.2 _ _ ⟨rfl, r.2.join oy q.1⟩ rh (Tst.refl H)
end Dl
end
section
namespace PySem
open Sem (wp)
open AutoSeq1 (wpAny_loadPart')
theorem meets_enum_tup (l : Addr) (items : Array Value) (n : Nat) (dct : Option Addr) (sl : Array (Option Value)) :
    Meets (Builtin.«enumerate.__new__» ⟨[.type "enumerate", .ref l], []⟩) (fun _ R s => s.heap.get? l = some { cls := .type "tuple", dict := dct, data := .seq items n, slots := sl } ∧
      R (.ok (.ret (.ref (s.heap.push { cls := .type "tuple_iterator", data := .fields #[.ref l, .int 0 0] }).objs.size))) { s with heap := (s.heap.push { cls := .type "tuple_iterator", data := .fields #[.ref l, .int 0 0] }).push { cls := .type "enumerate", data := .fields #[.none, .bool false, .ref s.heap.objs.size, rawInt 0, .none, .none] } }) :=
  .of_wp fun prog w A R s h => by
    obtain ⟨hp, g, d, tk, os⟩ := s
    obtain ⟨hl, h⟩ := h
    have hsub := sub_enumerate
    have hT : Heap.IsTuple (Shared.heap ⟨hp, g, d, tk, os⟩) l items := ⟨_, hl, rfl, n, rfl⟩
    wp_walk using wpAny_loadPart' hl
    refine wpAny_stack_any fun st => wpAny_pure ?_
    split
    · rename_i c _ _ _ _ _
      by_cases hc : (c == Value.type "enumerate") = true
      all_goals
        simp only [hc]
        wp_walk using wpAny_loadPart' hl, wpAny_pyIter_tuple hT
        exact ⟨_, rfl, h⟩
    · wp_walk using wpAny_loadPart' hl, wpAny_pyIter_tuple hT
      exact ⟨_, rfl, h⟩
end PySem
namespace PySem
section
variable {prog : Program} {w : World} {A : Around} {E : Value → Shared → Prop} {s : Shared}
theorem call_enum_tup {l : Addr} {items : Array Value} {Q : Value → Shared → Prop} (hT : s.heap.IsTuple l items)
    (h : ∀ h', IsEnum h' (s.heap.objs.size + 1) s.heap.objs.size 0 .none → h'.IsTupleIter s.heap.objs.size l 0 → (∀ b o, s.heap.get? b = some o → h'.get? b = some o) → Q (.ref (s.heap.objs.size + 1)) { s with heap := h' }) : wpAny (model prog w) A (call (.type "enumerate") [.ref l]) Q E s := by
  obtain ⟨⟨c, dct, dt, sl⟩, hl, hc, n, hd⟩ := hT
  replace hc : c = .type "tuple" := hc
  replace hd : dt = .seq items n := hd
  subst hc hd
  have hz : (s.heap.push { cls := .type "tuple_iterator", data := .fields #[.ref l, .int 0 0] }).objs.size = s.heap.objs.size + 1 := Heap.size_push ..
  refine callType_new F.called_enumerate (by decide) (F.typeCall_enumerate_1 _) (F.newCall_enumerate_1 _) (fun obj => F.args_object_init_2 obj _) F.entry_enumerate_new (meets_enum_tup l items n dct sl) ⟨hl, ?_⟩
  show _ ∧ _
  rw [hz]
  have he : IsEnum ((s.heap.push { cls := .type "tuple_iterator", data := .fields #[.ref l, .int 0 0] }).push { cls := .type "enumerate", data := .fields #[.none, .bool false, .ref s.heap.objs.size, rawInt 0, .none, .none] }) (s.heap.objs.size + 1) s.heap.objs.size 0 .none := by
    have q := Heap.get?_push_size (s.heap.push { cls := .type "tuple_iterator", data := .fields #[.ref l, .int 0 0] }) (o := { cls := .type "enumerate", data := .fields #[.none, .bool false, .ref s.heap.objs.size, rawInt 0, .none, .none] }) rfl
    rw [hz] at q
    exact q
  exact ⟨⟨_, he, rfl⟩, h _ he ⟨_, Heap.get?_push_of_some _ (Heap.get?_push_size _ rfl), rfl, rfl⟩ fun b o e => Heap.get?_push_of_some _ (Heap.get?_push_of_some _ e)⟩
end
end PySem
namespace Dl
open PySem PySem.Spec PyProof.Rows L2
def IteT (K : PySem.W.Frag) (a : Addr) : It := ⟨fun i H => ∃ (xs : List V) (x : V), SqT K H a xs ∧ xs[i]? = some x, fun i H v H' => ∃ T x, v = .ref T ∧ H T = none ∧ H' = upd H T (.tup [.int (i : Nat), x]) ∧ ∀ xs, SqT K H a xs → xs[i]? = some x, fun i H => ∃ xs : List V, SqT K H a xs ∧ xs.length = i⟩
theorem turn_enumT {P : Program} {w : World} {K : PySem.W.Frag} {elts : List Expr} {kk : Nat} {tpos : Pos} (a e it : Addr) : Turn P w K (.Tuple elts kk tpos) (IteT K a) [e, it] e (fun i h => (∃ old, IsEnum h e it ((i : Nat) : Int) old) ∧ h.IsTupleIter it a i ∧ e ≠ it) where
  mem := by simp
  obj := fun i h st b hb => by
    obtain ⟨⟨old, he⟩, ⟨o, ho, hc, hd⟩, _⟩ := st
    rcases List.mem_cons.mp hb with z | z
    · rw [z]; exact ⟨_, he, fun v q => nomatch q⟩
    · rw [List.mem_singleton.mp z]; exact ⟨o, ho, fun v q => by rw [hd] at q; cases q⟩
  keep := fun i h h' st k => by
    obtain ⟨⟨old, he⟩, hi, hne⟩ := st
    exact ⟨⟨old, k e (by simp) _ he⟩, hi.at fun o q => k it (by simp) o q, hne⟩
  item := by
    intro X hP hw hK hc i pins s σ H E I hf st hg
    subst hP hw hK
    obtain ⟨⟨old, he⟩, hit, hne⟩ := st
    obtain ⟨xs, x, hq, hx⟩ := hg
    obtain ⟨its, rv, p, hz⟩ := I.tuple hq
    obtain ⟨u, hu, ru⟩ := rv.get hx
    have p' : s.heap.IsTuple a its.toArray := p
    have hel : e < s.heap.objs.size := Heap.lt_size he
    have hil : it < s.heap.objs.size := let ⟨_, q, _⟩ := hit; Heap.lt_size q
    have nai : a ≠ it := fun z => by
      obtain ⟨o1, h1, c1, _⟩ := hit
      obtain ⟨o2, h2, c2, _⟩ := p'
      rw [z, h1] at h2
      cases h2
      rw [c1] at c2
      exact absurd (Value.type.inj c2) (by decide)
    have nae : e ∉ [it, a] := fun z => by
      rcases List.mem_cons.mp z with z | z
      · exact hne z
      · obtain ⟨o2, h2, c2, _⟩ := p'
        rw [← List.mem_singleton.mp z, he] at h2
        cases h2
        exact absurd (Value.type.inj c2) (by decide)
    have hlt : i < its.toArray.size := by
      have := (List.getElem?_eq_some_iff.mp hu).1
      simpa using this
    refine wpAny_pyNext_enum_itemD (Draws.tuple (A := X.A.in1) (show X.A.in1.handled = none from I.ok.hd hc) it a nai its.toArray) he ⟨hit, p'⟩ hlt hne nae fun x' h' tk hP ho st' hT hsz hk => ?_
    obtain rfl : u = x' := by
      have q : its.toArray[i]? = some x' := hP
      have q2 : its[i]? = some x' := by simpa using q
      rw [hu] at q2
      exact Option.some.inj q2
    refine ⟨_, rfl, wpAny_letOwnedTupleGo_enum (s := { s with heap := h', toks := tk + 1 }) ho fun h'' he' sb => ?_⟩
    have hT2 : h''.get? s.heap.objs.size = some { cls := .type "tuple", data := .seq #[.int i tk, u] } := (sb.2 _ (Nat.ne_of_gt hel)).trans hT
    have new : ObjOk X.prog X.w (upd H s.heap.objs.size (.tup [.int (i : Nat), x])) h'' s.heap.objs.size (.tup [.int (i : Nat), x]) := ⟨by show 2 ≤ sizeLine; decide, [.int i tk, u], .cons ⟨_, rfl⟩ (.cons ru .nil), ⟨_, hT2, rfl, _, rfl⟩⟩
    have I1 : Inv X pins σ (upd H s.heap.objs.size (.tup [.int (i : Nat), x])) { s with heap := h'', toks := tk + 1 } := I.turnedNew (ch := [e, it]) (fun b ob hb q => (sb.2 b fun z => hb (by simp [z])).trans (hk b ob (fun z => hb (by simp [z])) (fun z => hb (by simp [z])) q)) hf (Nat.le_refl _) new
    refine ⟨.ref s.heap.objs.size, _, I1, rfl, ⟨_, x, rfl, I.hok.fresh (Nat.le_refl _), rfl, fun ys hy => by rw [I.tuple_inj hy hq]; exact hx⟩, ⟨⟨u, ?_⟩, st'.1.at fun o q => (sb.2 it (Ne.symm hne)).trans q, hne⟩, fun b hb => ?_⟩
    · have e1 : ((i + 1 : Nat) : Int) = (i : Int) + 1 := by omega
      rw [e1]; exact he'
    · have hb' : b < s.heap.objs.size := by
        rcases List.mem_cons.mp hb with z | z
        · rw [z]; exact hel
        · rw [List.mem_singleton.mp z]; exact hil
      rw [upd_ne (Nat.ne_of_lt hb')]
      exact (hf b hb).1
  done := by
    intro X hP hw hK hc i pins s σ H E I hf st hg
    subst hP hw hK
    obtain ⟨⟨old, he⟩, hit, hne⟩ := st
    obtain ⟨xs, hq, hx⟩ := hg
    obtain ⟨its, rv, p, hz⟩ := I.tuple hq
    have p' : s.heap.IsTuple a its.toArray := p
    obtain ⟨f0, f1, f2, f3, f4, f5⟩ := hf it (by simp)
    have nai : a ≠ it := fun z => by
      obtain ⟨o1, h1, c1, _⟩ := hit
      obtain ⟨o2, h2, c2, _⟩ := p'
      rw [z, h1] at h2
      cases h2
      rw [c1] at c2
      exact absurd (Value.type.inj c2) (by decide)
    have hn : i = its.toArray.size := by
      have := rv.length
      rw [List.size_toArray]; omega
    exact wpAny_pyNext_enum_endD (Draws.tuple (A := X.A.in1) (show X.A.in1.handled = none from I.ok.hd hc) it a nai its.toArray) he ⟨hn ▸ hit, p'⟩ fun h' eb => ⟨rfl, I.turned (t' := s.toks) (fun b o hb q => eb b o hb q) f0 f1 f3 f4 f5⟩
  self := fun A i s Q E st h => let ⟨⟨_, he⟩, _⟩ := st; wpAny_pyIter_enum he h
def iEnumAny (K : PySem.W.Frag) (ta : TA) : TI := fun σ H R => ta σ H fun vs H1 => (∃ a xs, vs = [.ref a] ∧ SqL K H1 a xs ∧ R (Ite K a) H1) ∨ ∃ a xs, vs = [.ref a] ∧ SqT K H1 a xs ∧ R (IteT K a) H1
section
variable {X : Cx} {e : Expr} {ta : TA} {p pos tpos : Pos} {elts : List Expr} {kk : Nat}
theorem pi_enumAny (hm : X.mg "enumerate" = none) (ha : PA X [e] ta) (hg : Gl X "enumerate" := by rfl) (hs : starEach [e] X.env = [(false, eval e X.env)] := by rfl) : PI X (.Tuple elts kk tpos) (.Call (.Name "enumerate" p) [e] [] pos) (iEnumAny X.K ta) := ⟨fun pins s σ H R I h => by
  refine Call_ (ld_blt I hg hm boot_enumerate (PyProof.Rows.callWith_type1 (thn (ha.run pos pins s σ H _ I h) fun us s1 hh => ?_) hs rfl))
  obtain ⟨vs, H1, I1, r1, q1⟩ := hh
  have fp : ∀ (h' : Heap), ∀ b ∈ [s1.heap.objs.size + 1, s1.heap.objs.size], FpOk X pins H1 b := fun h' b hb => by
    have hle : s1.heap.objs.size ≤ b := by
      rcases List.mem_cons.mp hb with z | z
      · rw [z]; exact Nat.le_add_right _ _
      · rw [List.mem_singleton.mp z]; exact Nat.le_refl _
    exact I1.fpOk hle (I1.hok.fresh hle)
  rcases q1 with ⟨a, xs, rfl, hq, q⟩ | ⟨a, xs, rfl, hq, q⟩
  · obtain rfl := r1.ref1
    obtain ⟨its, rv, p', hz⟩ := I1.list hq
    exact call_enumerate_list p'.isList fun h' he hit hsz hk => wpAny_pyIter_enum he ⟨s1.heap.objs.size + 1, _, _, _, H1, rfl, I1.kept (t' := s1.toks) hk, turn_enum a (s1.heap.objs.size + 1) s1.heap.objs.size, ⟨⟨.none, he⟩, hit, Nat.succ_ne_self _⟩, fp h', q⟩
  · obtain rfl := r1.ref1
    obtain ⟨its, rv, p', hz⟩ := I1.tuple hq
    exact call_enum_tup (items := its.toArray) p' fun h' he hit hk => wpAny_pyIter_enum he ⟨s1.heap.objs.size + 1, _, _, _, H1, rfl, I1.kept (t' := s1.toks) hk, turn_enumT a (s1.heap.objs.size + 1) s1.heap.objs.size, ⟨⟨.none, he⟩, hit, Nat.succ_ne_self _⟩, fp h', q⟩⟩
def numL (ds : List D) : List D := ds.zipIdx.map fun p => .tup [.int (p.2 : Nat), p.1]
theorem numL_get {ds : List D} {i : Nat} {d : D} (h : (numL ds)[i]? = some d) : ∃ x, ds[i]? = some x ∧ d = .tup [.int (i : Nat), x] := by
  unfold numL at h
  rw [List.getElem?_map] at h
  cases e : ds.zipIdx[i]? with
  | none => rw [e] at h; cases h
  | some p =>
    rw [e] at h
    rw [List.getElem?_zipIdx] at e
    cases e2 : ds[i]? with
    | none => rw [e2] at e; cases e
    | some x =>
      rw [e2] at e
      obtain rfl : (x, 0 + i) = p := by simpa using e
      exact ⟨x, rfl, by simpa using h.symm⟩
theorem numL_length (ds : List D) : (numL ds).length = ds.length := by simp [numL]
def dEnum (t : DTA) : DTI := fun ρ h Q => t ρ h fun vs h1 => match vs with
  | [.tup ds] => Q ⟨numL ds, fun _ => True⟩ h1
  | [.sc ds] => Q ⟨numL ds, fun _ => True⟩ h1
  | [.ref a] => ∃ ds, h1 a = some (.lst ds) ∧ Q ⟨numL ds, fun h => h a = some (.lst ds)⟩ h1
  | _ => False
theorem pair_RD {K : PySem.W.Frag} {H : Hp} {T : Addr} {i : Int} {x : V} {d : D} (n : H T = none) (r : RD K H d x) : RD K (upd H T (.tup [.int i, x])) (.tup [.int i, d]) (.ref T) :=
  ⟨T, _, rfl, SqT.of upd_same, ⟨.int i, _, rfl, rfl, x, [], rfl, r.mono (tst_new n), rfl⟩, by show 2 ≤ sizeLine; rw [sizeLine_eq]; decide⟩
theorem enum_L {K : PySem.W.Frag} {H1 : Hp} {a : Addr} {ds : List D} {ok : Hd → Prop} (l : ds.length ≤ sizeLine) (at_ : ∀ H h, RH K H h → Tst H1 H → ok h → ∃ vs, SqL K H a vs ∧ RDs K H ds vs) : Matches K H1 (Ite K a) ⟨numL ds, ok⟩ := by
  refine ⟨by show (numL ds).length ≤ _; rw [numL_length]; exact l, fun i d H h g t o hi => ?_, fun H h g t o => ?_⟩
  · obtain ⟨vs, s, r⟩ := at_ H h g t o
    obtain ⟨x, hx, rfl⟩ := numL_get hi
    obtain ⟨v, hv, rv⟩ := r.get hx
    refine ⟨⟨vs, v, s, hv⟩, fun y H2 hy => ?_⟩
    obtain ⟨T, w, rfl, n, rfl, hw⟩ := hy
    have := hw vs s
    rw [hv] at this
    obtain rfl : v = w := Option.some.inj this
    exact ⟨pair_RD n rv, g.tup n, tst_new n⟩
  · obtain ⟨vs, s, r⟩ := at_ H h g t o
    exact ⟨vs, s, by show _ ≤ (numL ds).length; rw [numL_length, r.length]; exact Nat.le_refl _⟩
theorem enum_T {K : PySem.W.Frag} {H1 : Hp} {a : Addr} {ds : List D} {vs : List V} (l : ds.length ≤ sizeLine) (s : SqT K H1 a vs) (r : RDs K H1 ds vs) : Matches K H1 (IteT K a) ⟨numL ds, fun _ => True⟩ := by
  refine ⟨by show (numL ds).length ≤ _; rw [numL_length]; exact l, fun i d H h g t o hi => ?_, fun H h g t o => ⟨vs, t.sqT s, by show _ = (numL ds).length; rw [numL_length, r.length]⟩⟩
  obtain ⟨x, hx, rfl⟩ := numL_get hi
  obtain ⟨v, hv, rv⟩ := r.get hx
  refine ⟨⟨vs, v, t.sqT s, hv⟩, fun y H2 hy => ?_⟩
  obtain ⟨T, w, rfl, n, rfl, hw⟩ := hy
  have := hw vs (t.sqT s)
  rw [hv] at this
  obtain rfl : v = w := Option.some.inj this
  exact ⟨pair_RD n (rv.mono t), g.tup n, tst_new n⟩
theorem i_enum {t : DTA} (hm : X.mg "enumerate" = none) (ha : PA X [e] (liftA X.K t)) (hg : Gl X "enumerate" := by rfl) (hs : starEach [e] X.env = [(false, eval e X.env)] := by rfl) : PI X (.Tuple elts kk tpos) (.Call (.Name "enumerate" p) [e] [] pos) (liftI X.K (dEnum t)) := impI (pi_enumAny hm ha hg hs) fun σ H R ⟨ρ, h, Qd, rel, q, u⟩ => ⟨ρ, h, _, rel, q, fun ds h1 q1 vs H1 r1 g1 t1 => by
  rcases ds with _ | ⟨d, _ | ⟨_, _⟩⟩
  · exact (q1 : False).elim
  · obtain ⟨v, rfl, rv⟩ := r1.v1
    cases d <;> first | exact (q1 : False).elim | skip
    case ref a =>
      obtain rfl : v = .ref a := rv
      obtain ⟨ds, e1, q2⟩ := q1
      obtain ⟨ws, f, g, l⟩ := lst_of g1 e1
      exact .inl ⟨a, ws, rfl, SqL.of f, u _ h1 q2 _ _ g1 t1 (enum_L l fun H2 h2 g2 t2 ok => let ⟨ws2, f2, gg, _⟩ := lst_of g2 ok; ⟨ws2, SqL.of f2, gg⟩)⟩
    case tup ds =>
      obtain ⟨a, ws, rfl, s, g, l⟩ := rv
      exact .inr ⟨a, ws, rfl, s, u _ h1 q1 _ _ g1 t1 (enum_T l s g)⟩
    case sc ds =>
      obtain ⟨a, ws, rfl, s, g, l⟩ := rv
      exact .inl ⟨a, ws, rfl, s.seq, u _ h1 q1 _ _ g1 t1 (enum_L l fun H2 h2 g2 t2 ok => ⟨ws, (t2.scL s).seq, g.mono t2⟩)⟩
  · cases d <;> exact (q1 : False).elim⟩
end
end Dl
end
section
namespace Dl
open PySem PySem.Spec PyProof.Rows L2

structure Zs (P : Program) (w : World) (fa : List He.Fa) (fn : List He.DefD) (K : PySem.W.Frag) (mg : Str → Option Value) (base : Heap) : Prop where
  kin : K.In base
  ns : base.Ns mainGlobals mg
  says : He.SaysD fa fn K
section
variable {P : Program} {w : World} {fa : List He.Fa} {fn : List He.DefD} {K : PySem.W.Frag} {mg : Str → Option Value} {base : Heap} (Z : Zs P w fa fn K mg base)
include Z
theorem Zs.glo (i : Nat) {x : Str} (h : fa[i]? = some (.glo x)) : mg x = some (.ref (He.ga K x)) := He.glo_ok Z.kin Z.ns (Z.says.fact i h)
theorem Zs.free (i : Nat) {x : Str} (h : fa[i]? = some (.free x)) : mg x = none := He.free_ok Z.kin Z.ns (Z.says.fact i h)
theorem Zs.int (i : Nat) {x : Str} {n : Int} (h : fa[i]? = some (.int x n)) : ∃ t, mg x = some (.int n t) := He.int_ok Z.kin Z.ns (Z.says.fact i h)
theorem Zs.str (i : Nat) {x z : Str} (h : fa[i]? = some (.str x z)) : ∃ t, mg x = some (.str z t) := He.str_ok Z.kin Z.ns (Z.says.fact i h)
theorem Zs.cls (i : Nat) {x : Str} (h : fa[i]? = some (.cls x)) : Cls K (He.ga K x) := He.cls_ok (Z.says.fact i h)
theorem Zs.noat (i : Nat) {x f : Str} (h : fa[i]? = some (.noat x f)) : NoAttr K (He.ga K x) f := He.noat_ok (Z.says.fact i h)
theorem Zs.meth (i : Nat) {x m : Str} (h : fa[i]? = some (.meth x m)) : Meth K (He.ga K x) m (He.ma K (He.ga K x) m) := He.meth_ok (Z.says.fact i h)
theorem Zs.mkr (i : Nat) {x : Str} (h : fa[i]? = some (.mkr x)) : Mk K (He.ga K x) (He.ma K (He.ga K x) "__init__") := He.mkr_ok (Z.says.fact i h)
theorem Zs.def_ (i : Nat) {d : He.DefD} (h : fn[i]? = some d) : ∃ fd, FunD K d.name d.qual d.params d.body d.scope (d.dvs K) (d.kws K) (He.fAd K d.at_) fd := Z.says.def_ i h
end
structure GotF (P : Program) (w : World) (K : PySem.W.Frag) (mg : Str → Option Value) (base : Heap) (x : Str) (k : Nat) (ps : List Str) (sp : DSp) : Prop where
  ex : ∃ f fd, mg x = some (.ref f) ∧ PySem.W.keepIn K (.ref f) = true ∧ Binds K fd ps [] ∧ DFn P w K mg base k f fd ps sp
structure GotM (P : Program) (w : World) (K : PySem.W.Frag) (mg : Str → Option Value) (base : Heap) (C : Addr) (m : Str) (k : Nat) (ps : List Str) (sp : DSp) : Prop where
  ex : ∃ f fd, Cls K C ∧ Meth K C m f ∧ Binds K fd ps [] ∧ DFn P w K mg base k f fd ps sp
structure GotC (P : Program) (w : World) (K : PySem.W.Frag) (mg : Str → Option Value) (base : Heap) (x : Str) (C : Addr) (k : Nat) (ps : List Str) (sp : DSp) : Prop where
  ex : ∃ f fd, mg x = some (.ref C) ∧ Mk K C f ∧ Binds K fd ps [] ∧ DFn P w K mg base k f fd ps sp
section
variable {X : Cx} {j k : Nat} {C : Addr} {ps : List Str} {sp : DSp} {x m : Str} {p pos apos : Pos} {e o : Expr} {es : List Expr} {t : DTA} {to : DTE} {W : DWX}
theorem e_callF (G : GotF X.prog X.w X.K X.mg X.base x j ps sp) (hr : Room k X.A) (hj : j ≤ k) (tk : Takes X (liftW X.K W)) (ha : PA X (e :: es) (liftA X.K t)) (hg : Gl X x := by rfl) (hdb : (x == ("__debug__" : Str)) = false := by decide)
    (he : starEach (e :: es) X.env = (false, eval e X.env) :: starEach es X.env := by rfl) (hpl : (backTo pos (starEach es X.env)).any (·.1) = false := by rfl) : PE X (.Call (.Name x p) (e :: es) [] pos) (liftE X.K (dCall sp W t)) := by
  obtain ⟨f, fd, hm, hk, hb, F⟩ := G.ex
  exact e_call F hb hk hm (hr.mono hj) tk ha hg hdb he hpl
theorem e_methM {pl : Sem Bool} (G : GotM X.prog X.w X.K X.mg X.base C m j ps sp) (hr : Room k X.A) (hj : j ≤ k) (tk : Takes X (liftW X.K W)) (ho : PE X o (liftE X.K to)) (ha : PA X (e :: es) (liftA X.K t))
    (hst : starEach (e :: es) X.env = (false, eval e X.env) :: starEach es X.env := by rfl) (hpl : (backTo pos (starEach es X.env)).any (·.1) = false := by rfl) (ht : MethTree X o m apos pos (e :: es) pl := by rfl) : PE X (.Call (.Attribute o m apos) (e :: es) [] pos) (liftE X.K (dMeth C m sp W to t)) := by
  obtain ⟨f, fd, c, hm, hb, F⟩ := G.ex
  exact e_meth F hb c hm (hr.mono hj) tk ho ha hst hpl ht
theorem e_methM0 {pl : Sem Bool} (G : GotM X.prog X.w X.K X.mg X.base C m j ps sp) (hr : Room k X.A) (hj : j ≤ k) (tk : Takes X (liftW X.K W)) (ho : PE X o (liftE X.K to)) (ht : MethTree X o m apos pos [] pl := by rfl) : PE X (.Call (.Attribute o m apos) [] [] pos) (liftE X.K (dMeth C m sp W to dNil)) := by
  obtain ⟨f, fd, c, hm, hb, F⟩ := G.ex
  exact e_meth0 F hb c hm (hr.mono hj) tk ho ht
theorem e_makeC (G : GotC X.prog X.w X.K X.mg X.base x C j ps sp) (hr : Room k X.A) (hj : j + 1 ≤ k) (tk : Takes X (liftW X.K W)) (ha : PA X (e :: es) (liftA X.K t)) (hg : Gl X x := by rfl) (hdb : (x == ("__debug__" : Str)) = false := by decide)
    (he : starEach (e :: es) X.env = (false, eval e X.env) :: starEach es X.env := by rfl) (hpl : (backTo pos (starEach es X.env)).any (·.1) = false := by rfl) : PE X (.Call (.Name x p) (e :: es) [] pos) (liftE X.K (dMake C sp W t)) := by
  obtain ⟨f, fd, hm, M, hb, F⟩ := G.ex
  exact e_make M F hb hm (hr.mono hj) tk ha hg hdb he hpl
theorem e_makeC0 (G : GotC X.prog X.w X.K X.mg X.base x C j ps sp) (hr : Room k X.A) (hj : j + 1 ≤ k) (tk : Takes X (liftW X.K W)) (hg : Gl X x := by rfl) (hdb : (x == ("__debug__" : Str)) = false := by decide) : PE X (.Call (.Name x p) [] [] pos) (liftE X.K (dMake C sp W dNil)) := by
  obtain ⟨f, fd, hm, M, hb, F⟩ := G.ex
  exact e_make0 M F hb hm (hr.mono hj) tk hg hdb
theorem e_gint {i : Int} (h : ∃ t, X.mg x = some (.int i t)) (hg : Gl X x := by rfl) (hd : (x == ("__debug__" : Str)) = false := by decide) : PE X (.Name x pos) (liftE X.K (dC (.int i))) := by
  obtain ⟨t, hm⟩ := h
  exact e_glob (v := .int i) hg hm ⟨t, rfl⟩ (fun _ => rfl) hd
theorem e_gstr {z : Str} (h : ∃ t, X.mg x = some (.str z t)) (ok : okB z = true := by decide +kernel) (hg : Gl X x := by rfl) (hd : (x == ("__debug__" : Str)) = false := by decide) : PE X (.Name x pos) (liftE X.K (dC (.str z))) := by
  obtain ⟨t, hm⟩ := h
  exact e_glob (v := .str z) hg hm ⟨t, rfl⟩ (fun _ => ⟨rfl, okB_ok ok⟩) hd
end
section
variable {P : Program} {w : World} {fa : List He.Fa} {fn : List He.DefD} {K : PySem.W.Frag} {mg : Str → Option Value} {base : Heap} (Z : Zs P w fa fn K mg base)
include Z
theorem Zs.fn_f (i g : Nat) {d : He.DefD} {x : Str} {N ps : List Str} {k : Nat} {sp : DSp} (hi : fn[i]? = some d) (hg : fa[g]? = some (.glo x)) (hx : d.at_ = (x, none)) (h1 : d.dfl = []) (h2 : d.kwd = []) (S : FnScope N ps d.scope)
    (hb : ∀ (kV doc pm : Value) (an : Option Addr) (cdv ct : Value) (us : List Value), us.length = ps.length → bindArgs (PySem.W.fnOf d.name d.qual d.params d.body d.scope .none kV doc pm an cdv ct) ⟨us, []⟩ = pure (ps.zip us)) (len : ∀ ds h Q E, sp ds h Q E → ds.length = ps.length) (t : DXK → DTS)
    (hbody : ∀ (f : Addr) (cdv : Value) (A : Around) (outer : List Env) (s : Shared) (H : Hp) (E : XK) (Ed : DXK), Room k (A.deeper (envOfC d.qual d.scope s.heap.objs.size f cdv)) → Takes (BCx P w K mg base N d.qual d.scope f cdv A outer s H E) (liftW K fun cls fs _ h => Ed cls fs h) → PSs (BCx P w K mg base N d.qual d.scope f cdv A outer s H E) d.body (liftS K (t Ed)))
    (hpure : ∀ ds h Q E, sp ds h Q E → t E { nx := fun _ h' => Q .non h', rt := Q } (dstart N ds) h) : GotF P w K mg base x (k + 1) ps sp := by
  obtain ⟨fd, F⟩ := Z.def_ i hi
  have e1 : d.dvs K = [] := by unfold He.DefD.dvs; rw [h1]; rfl
  have e2 : d.kws K = [] := by unfold He.DefD.kws; rw [h2]; rfl
  rw [e1, e2, hx] at F
  exact ⟨_, fd, Z.glo g hg, F.kp, F.bindsN hb, fn_ok F S len t (hbody _) hpure⟩
theorem Zs.fn_m (i c g : Nat) {d : He.DefD} {x m : Str} {N ps : List Str} {k : Nat} {sp : DSp} (hi : fn[i]? = some d) (hc : fa[c]? = some (.cls x)) (hg : fa[g]? = some (.meth x m)) (hx : d.at_ = (x, some m)) (h1 : d.dfl = []) (h2 : d.kwd = []) (S : FnScope N ps d.scope)
    (hb : ∀ (kV doc pm : Value) (an : Option Addr) (cdv ct : Value) (us : List Value), us.length = ps.length → bindArgs (PySem.W.fnOf d.name d.qual d.params d.body d.scope .none kV doc pm an cdv ct) ⟨us, []⟩ = pure (ps.zip us)) (len : ∀ ds h Q E, sp ds h Q E → ds.length = ps.length) (t : DXK → DTS)
    (hbody : ∀ (f : Addr) (cdv : Value) (A : Around) (outer : List Env) (s : Shared) (H : Hp) (E : XK) (Ed : DXK), Room k (A.deeper (envOfC d.qual d.scope s.heap.objs.size f cdv)) → Takes (BCx P w K mg base N d.qual d.scope f cdv A outer s H E) (liftW K fun cls fs _ h => Ed cls fs h) → PSs (BCx P w K mg base N d.qual d.scope f cdv A outer s H E) d.body (liftS K (t Ed)))
    (hpure : ∀ ds h Q E, sp ds h Q E → t E { nx := fun _ h' => Q .non h', rt := Q } (dstart N ds) h) : GotM P w K mg base (He.ga K x) m (k + 1) ps sp := by
  obtain ⟨fd, F⟩ := Z.def_ i hi
  have e1 : d.dvs K = [] := by unfold He.DefD.dvs; rw [h1]; rfl
  have e2 : d.kws K = [] := by unfold He.DefD.kws; rw [h2]; rfl
  rw [e1, e2, hx] at F
  exact ⟨_, fd, Z.cls c hc, Z.meth g hg, F.bindsN hb, fn_ok F S len t (hbody _) hpure⟩
theorem Zs.fn_c (i o g : Nat) {d : He.DefD} {x : Str} {N ps : List Str} {k : Nat} {sp : DSp} (hi : fn[i]? = some d) (ho : fa[o]? = some (.glo x)) (hg : fa[g]? = some (.mkr x)) (hx : d.at_ = (x, some ("__init__" : Str))) (h1 : d.dfl = []) (h2 : d.kwd = []) (S : FnScope N ps d.scope)
    (hb : ∀ (kV doc pm : Value) (an : Option Addr) (cdv ct : Value) (us : List Value), us.length = ps.length → bindArgs (PySem.W.fnOf d.name d.qual d.params d.body d.scope .none kV doc pm an cdv ct) ⟨us, []⟩ = pure (ps.zip us)) (len : ∀ ds h Q E, sp ds h Q E → ds.length = ps.length) (t : DXK → DTS)
    (hbody : ∀ (f : Addr) (cdv : Value) (A : Around) (outer : List Env) (s : Shared) (H : Hp) (E : XK) (Ed : DXK), Room k (A.deeper (envOfC d.qual d.scope s.heap.objs.size f cdv)) → Takes (BCx P w K mg base N d.qual d.scope f cdv A outer s H E) (liftW K fun cls fs _ h => Ed cls fs h) → PSs (BCx P w K mg base N d.qual d.scope f cdv A outer s H E) d.body (liftS K (t Ed)))
    (hpure : ∀ ds h Q E, sp ds h Q E → t E { nx := fun _ h' => Q .non h', rt := Q } (dstart N ds) h) : GotC P w K mg base x (He.ga K x) (k + 1) ps sp := by
  obtain ⟨fd, F⟩ := Z.def_ i hi
  have e1 : d.dvs K = [] := by unfold He.DefD.dvs; rw [h1]; rfl
  have e2 : d.kws K = [] := by unfold He.DefD.kws; rw [h2]; rfl
  rw [e1, e2, hx] at F
  exact ⟨_, fd, Z.glo o ho, Z.mkr g hg, F.bindsN hb, fn_ok F S len t (hbody _) hpure⟩
end
theorem hp_body {P : Program} {w : World} {K : PySem.W.Frag} {mg : Str → Option Value} {base : Heap} {N : List Str} {qual : Str} {scope : Scope} {f : Addr} {cdv : Value} {A : Around} {outer : List Env} {s : Shared} {H : Hp} {E : XK} :
    PassesOwn (model (BCx P w K mg base N qual scope f cdv A outer s H E).prog (BCx P w K mg base N qual scope f cdv A outer s H E).w) (BCx P w K mg base N qual scope f cdv A outer s H E).A (BCx P w K mg base N qual scope f cdv A outer s H E).env (BCx P w K mg base N qual scope f cdv A outer s H E).xe := passes_of rfl
end Dl
end
section
namespace Dl
open PySem PySem.Spec PyProof.Rows L2
structure GotX (K : PySem.W.Frag) (mg : Str → Option Value) (x : Str) (C : Addr) : Prop where
  m : mg x = some (.ref C)
  e : PySem.W.excIn K C He.veBase "ValueError.__new__" = true
  k : PySem.W.keepIn K (.ref C) = true
  s : PySem.W.subIn K (.ref C) (.type "BaseException") = some true
  t : PySem.W.typeIn K (.ref C) = some (.type "type")
theorem Zs.exc {P : Program} {w : World} {fa : List He.Fa} {fn : List He.DefD} {K : PySem.W.Frag} {mg : Str → Option Value} {base : Heap} (Z : Zs P w fa fn K mg base) (i j : Nat) {x : Str} (h : fa[i]? = some (.glo x)) (h2 : fa[j]? = some (.exc x)) : GotX K mg x (He.ga K x) := by
  obtain ⟨a, b, c, d⟩ := He.exc_ok (Z.says.fact j h2)
  exact ⟨Z.glo i h, a, b, c, d⟩
def dRaise (C : Addr) (W : DWX) : DTS := fun _ ρ h => W (.ref C) [] ρ h
section
variable {X : Cx} {x m : Str} {C : Addr} {W : DWX} {p p2 pos pos' : Pos} {j : Nat}
theorem s_raise (G : GotX X.K X.mg x C) (tk : Takes X (liftW X.K W)) (hc : X.calm = true := by rfl) (hg : Gl X x := by rfl) (hdb : (x == ("__debug__" : Str)) = false := by decide) : PS X (.Raise (some (.Call (.Name x p) [.Constant (.str m) j p2] [] pos)) none pos') (liftS X.K (dRaise C W)) :=
  impS (ps_raise hc tk (pmk_own PySem.F.excBase_ValueError G.e G.m G.k (raises_own G.s G.t) hg hdb)) fun D σ H ⟨ρ, h, Dd, rel, q, u⟩ => ⟨[], ρ, h, rel, rfl, q⟩
end
def rngC (lo c : Int) (n : Nat) : List D := (List.range n).map fun (k : Nat) => .int (lo + (k : Int) * c)
theorem rngC_matches {K : PySem.W.Frag} {H1 : Hp} {lo c : Int} {n : Nat} (hn : n ≤ sizeLine) : Matches K H1 (Itc lo c n) ⟨rngC lo c n, fun _ => True⟩ := by
  refine ⟨by simpa [rngC] using hn, fun i d H h g t ok hi => ?_, fun H h g t ok => by simp [rngC, Itc]⟩
  have hi' : ((List.range n).map fun (k : Nat) => D.int (lo + (k : Int) * c))[i]? = some d := hi
  rw [List.getElem?_map] at hi'
  by_cases z : i < n
  · rw [List.getElem?_range z] at hi'
    obtain rfl : D.int (lo + (i : Int) * c) = d := by simpa using hi'
    refine ⟨z, fun y H3 hy => ?_⟩
    obtain ⟨rfl, rfl⟩ := hy
    exact ⟨rfl, g, Tst.refl _⟩
  · rw [List.getElem?_eq_none (by simp; omega)] at hi'; cases hi'
def dRng3 (t : DTA) : DTI := fun ρ h Q => t ρ h fun ds h1 => match ds with
  | [.int i, .int j, .int k] => k = -1 ∧ ((-(2 ^ 62) ≤ i ∧ i < 2 ^ 62 ∧ -(2 ^ 62) ≤ j ∧ j < 2 ^ 62) ∧ i - j ≤ 16777216) ∧ Q ⟨rngC i (-1) (i - j).toNat, fun _ => True⟩ h1
  | _ => False
theorem three_ints {K : PySem.W.Frag} {H : Hp} {i j k : Int} {vs : List V} (r : RDs K H [.int i, .int j, .int k] vs) : vs = [.int i, .int j, .int k] := by
  obtain ⟨v, r1, rfl, rfl, v2, r2, rfl, rfl, v3, r3, rfl, rfl, e⟩ := r
  have e' : r3 = [] := e
  rw [e']
theorem i_rng3 {X : Cx} {tg e e2 e3 : Expr} {p pos : Pos} {ta : DTA} (hm : X.mg "range" = none) (ha : PA X [e, e2, e3] (liftA X.K ta)) (hg : Gl X "range" := by rfl) (hs : starEach [e, e2, e3] X.env = (false, eval e X.env) :: starEach [e2, e3] X.env := by rfl) (hpl : (backTo pos (starEach [e2, e3] X.env)).any (·.1) = false := by rfl) :
    PI X tg (.Call (.Name "range" p) [e, e2, e3] [] pos) (liftI X.K (dRng3 ta)) := impI (pi_range3 hg hm ha hs hpl) fun σ H R ⟨ρ, h, Qd, rel, q, u⟩ =>
  ⟨ρ, h, _, rel, q, fun ds h1 q1 vs H1 r1 g1 t1 => by
    rcases ds with _ | ⟨_ | _ | i | _ | _ | _ | _ | _, _ | ⟨_ | _ | j | _ | _ | _ | _ | _, _ | ⟨_ | _ | k | _ | _ | _ | _ | _, _ | ⟨_, _⟩⟩⟩⟩ <;> first | exact (q1 : False).elim | skip
    obtain ⟨rfl, ⟨⟨a1, a2, a3, a4⟩, b2⟩, q2⟩ := q1
    exact ⟨i, j, -1, _, three_ints r1, RgC.neg a1 a2 a3 a4, u _ h1 q2 _ _ g1 t1 (rngC_matches (by rw [sizeLine_eq]; omega))⟩⟩
def dRev (te : DTE) : DTE := fun ρ h Q => te ρ h fun x h1 => match x with
  | .ref a => ∃ ds, h1 a = some (.lst ds) ∧ ∀ p, h1 p = none → Q (.ref p) (up h1 p (.lst ds.reverse))
  | _ => False
theorem RDs.rev {K : PySem.W.Frag} {H : Hp} : ∀ {ds : List D} {vs : List V}, RDs K H ds vs → RDs K H ds.reverse vs.reverse
  | [], _, h => by have z : _ = [] := h; subst z; simp [RDs]
  | d :: ds, _, h => by
    obtain ⟨w, r, rfl, h1, h2⟩ := h
    rw [List.reverse_cons, List.reverse_cons]
    exact RDs.append (RDs.rev h2) (RDs.one h1)
theorem e_rev {X : Cx} {e : Expr} {te : DTE} {k : Nat} {p1 p2 p3 pos : Pos} (he : PE X e (liftE X.K te)) : PE X (.Subscript e (.Slice none none (some (.UnaryOp .USub (.Constant (.int 1) k p1) p2)) p3) pos) (liftE X.K (dRev te)) :=
  impE (pe_revL he) fun σ H Q ⟨ρ, h, Qd, rel, q, u⟩ => ⟨ρ, h, _, rel, q, fun x h1 q1 v H1 r1 g1 t1 => by
    cases x <;> first | exact (q1 : False).elim | skip
    case ref a =>
    obtain ⟨ds, e1, q2⟩ := q1
    obtain ⟨vs, e2, r2, l2⟩ := g1 a _ e1
    refine ⟨a, vs, r1, .inl (.inl e2), fun p n => ?_⟩
    have t := tst_new (u := .lst vs.reverse) n
    exact u _ _ (q2 p (g1.none_of n)) _ _ rfl (g1.new (o := .lst ds.reverse) n ⟨vs.reverse, upd_same, (r2.mono t).rev, by rw [List.length_reverse]; exact l2⟩) (t1.trans t)⟩
end Dl
end
section
namespace Dl
open PySem PySem.Spec PyProof.Rows L2
@[irreducible] def inDD (neg : Bool) : DR2 := fun x y h Q => match toP h 16 x, toP h 16 y with
  | some p, some (.list ds) => Q (.bl (if neg then !(ds.any fun z => PyData.eqv z p) else ds.any fun z => PyData.eqv z p)) h
  | _, _ => False
theorem inDD_of {neg : Bool} {K : PySem.W.Frag} {xd yd : D} {h : Hd} {Qd : DK} {x y : V} {H : Hp} {Q : VK} (r1 : RD K H xd x) (r2 : RD K H yd y) (rh : RH K H h) (q : inDD neg xd yd h Qd) (u : UpE K H Qd Q) :
    ∃ d ds, Dp K H x d ∧ Dp K H y (.list ds) ∧ SeqAt.shaped d = true ∧ SeqAt.shaped (.list ds) = true ∧ Q (.bl (if neg then !(ds.any fun z => PyData.eqv z d) else ds.any fun z => PyData.eqv z d)) H := by
  unfold inDD at q
  cases e1 : toP h 16 xd with
  | none => rw [e1] at q; exact q.elim
  | some p =>
    cases e2 : toP h 16 yd with
    | none => rw [e1, e2] at q; exact q.elim
    | some p2 =>
      rw [e1, e2] at q
      cases p2 <;> first | exact (q : False).elim | skip
      case list ds =>
      have t1 := toP_TP rh 16 _ _ _ r1 e1
      have t2 := toP_TP rh 16 _ _ _ r2 e2
      exact ⟨p, ds, t1.1, t2.1, t1.shaped (by decide), t2.shaped (by decide), u _ _ q _ _ rfl rh (Tst.refl H)⟩
theorem im_inDD {K : PySem.W.Frag} : Imp2 K (inDD false) (rInD K) := fun xd yd h Qd x y H Q r1 r2 rh q u => inDD_of (neg := false) r1 r2 rh q u
theorem im_notInDD {K : PySem.W.Frag} : Imp2 K (inDD true) (rNotInD K) := fun xd yd h Qd x y H Q r1 r2 rh q u => inDD_of (neg := true) r1 r2 rh q u
section
variable {X : Cx} {k : Nat} {a b : Expr} {ta tb : DTE} {pos : Pos}
theorem units65 {A : Around} (hr : Room k A) : A.units + 65 < cLine := by have := hr.un; omega
theorem e_inDD (hr : Room k X.A) (ha : PE X a (liftE X.K ta)) (hb : PE X b (liftE X.K tb)) (hm : behindInMarks .In b = false := by rfl) : PE X (.Compare a [.In] [b] pos) (liftE X.K (dOp (inDD false) ta tb)) := e_cmp (op_inD (units65 hr)) im_inDD ha hb hm
theorem e_notInDD (hr : Room k X.A) (ha : PE X a (liftE X.K ta)) (hb : PE X b (liftE X.K tb)) (hm : behindInMarks .NotIn b = false := by rfl) : PE X (.Compare a [.NotIn] [b] pos) (liftE X.K (dOp (inDD true) ta tb)) := e_cmp (op_notInD (units65 hr)) im_notInDD ha hb hm
theorem t_inDD (hr : Room k X.A) (ha : PE X a (liftE X.K ta)) (hb : PE X b (liftE X.K tb)) (hm : behindInMarks .In b = false := by rfl) : PT X (.Compare a [.In] [b] pos) (liftT X.K (dB (dOp (inDD false) ta tb))) := t_op (op_inD (units65 hr)) im_inDD ha hb hm
theorem t_notInDD (hr : Room k X.A) (ha : PE X a (liftE X.K ta)) (hb : PE X b (liftE X.K tb)) (hm : behindInMarks .NotIn b = false := by rfl) : PT X (.Compare a [.NotIn] [b] pos) (liftT X.K (dB (dOp (inDD true) ta tb))) := t_op (op_notInD (units65 hr)) im_notInDD ha hb hm
end
@[irreducible] def indexD : DRM := fun x ds h Q => match x, ds with
  | .ref l, [y] => (match toP h 16 (.ref l), toP h 16 y with
    | some (.list ps), some p => ∃ (j : Nat) (z : PyData), ps[j]? = some z ∧ PyData.eqv z p = true ∧ (∀ (m : Nat) (z' : PyData), m < j → ps[m]? = some z' → PyData.eqv z' p = false) ∧ Q (.int j) h
    | _, _ => False)
  | _, _ => False
theorem im_index {K : PySem.W.Frag} : ImpM K indexD (rIndexD K) := fun xd ds h Qd x vs H Q r rs rh q u => by
  unfold indexD at q
  cases xd <;> rcases ds with _ | ⟨y, _ | ⟨_, _⟩⟩ <;> first | exact (q : False).elim | skip
  case ref.cons.nil l =>
    obtain rfl : x = .ref l := r
    obtain ⟨yv, r2, rfl, ry, e⟩ := rs
    have e' : r2 = [] := e
    subst e'
    simp only [indexD] at q
    cases e1 : toP h 16 (.ref l) with
    | none => rw [e1] at q; exact q.elim
    | some p1 =>
      cases e2 : toP h 16 y with
      | none => rw [e1, e2] at q; cases p1 <;> exact (q : False).elim
      | some p2 =>
        rw [e1, e2] at q
        cases p1 <;> first | exact (q : False).elim | skip
        case list ps =>
        obtain ⟨j, z, hz, he, hn, q⟩ := q
        have t1 := toP_TP rh 16 (.ref l) (.ref l) _ rfl e1
        have t2 := toP_TP rh 16 _ _ _ ry e2
        exact ⟨l, yv, p2, ps, j, z, rfl, rfl, t1.1, t2.1, t1.shaped (by decide), t2.shaped (by decide), hz, he, hn, u _ _ q _ _ rfl rh (Tst.refl H)⟩
end Dl
end
section
namespace Dl
open PySem PySem.Spec PyProof.Rows L2
abbrev eS (w : World) : Obj :=
  ⟨.type "set", none, .set #[] 0 (.fresh 0 0 (!w.params.followText "set-order")), #[]⟩
section
variable {P : Program} {w : World} {A : Around} {E : Value → Shared → Prop} {s : Shared}
def Made (w : World) (s : Shared) (a : Addr) (ns : List Int) (h' : Heap) (c : Nat) : Prop :=
  SetR w h' a (fun j => decide (j ∈ ns)) c ∧ c ≤ ns.length ∧ ∀ b o, s.heap.get? b = some o → h'.get? b = some o
set_option maxHeartbeats 3200000 in
theorem set_ofL {l : Addr} {xs : Array Value} (ns : List Int) {Q : Value → Shared → Prop} (hh : A.handled = none) (hl : s.heap.IsList l xs)
    (hi : IntsAre xs.toList ns) (hb : ns.length + 1 < scanBound) (k : ∀ h' tk c, Made w s s.heap.objs.size ns h' c → Q (.ref s.heap.objs.size) { s with heap := h', toks := tk }) :
    wpAny (model P w) A (call (.type "set") [.ref l]) Q E s := by
  have sz : xs.size = ns.length := by
    have z := IntsAre.length hi
    rwa [Array.length_toList] at z
  obtain ⟨c0, tl0, m1⟩ := F.called_set.mro
  have m2 := F.called_set.made
  have m3 := F.called_set.sub
  refine wpAny_call (codeAny_of_tree ?_)
  show wpAny _ _ (callAny (.type "set") ⟨[.ref l], []⟩) _ _ _
  refine wpAny_pure ⟨Code.quiet_builtin _ (by decide +kernel), codeAny_builtin F.entry_type_call ?_⟩
  rw [Around.under_plain (weight_type_call_type "set" [.ref l] []) rfl]
  have m4 := F.called_set.notType
  have m5 := F.called_set.canCreate
  have m6 := F.typeCall_set_1 (.ref l)
  repeat (any_goals (first | assumption | wp_step))
  refine codeAny_mono (code_set_led1 (.ref l) (E := E) (Q₁ := fun ob s1 => ob = .ref s.heap.objs.size ∧ s1 = { s with heap := s.heap.push (eS w) }) ⟨rfl, rfl⟩) fun r s1 hr => ?_
  cases r with
  | error e => exact hr
  | ok f =>
    cases f with
    | next => exact hr.elim
    | brk => exact hr.elim
    | cont => exact hr.elim
    | ret ob =>
      obtain ⟨rfl, rfl⟩ := hr
      have g0 : (s.heap.push (eS w)).get? s.heap.objs.size = some (eS w) := Heap.get?_push_size _ rfl
      have ty : Shared.TypeIs { s with heap := s.heap.push (eS w) } (.ref s.heap.objs.size) "set" := ⟨_, g0, rfl⟩
      have m7 := F.called_set.init.lookup
      have m8 := F.called_set.init.bind (.ref s.heap.objs.size)
      repeat (any_goals (first | assumption | wp_step))
      refine codeAny_mono (codeAny_call_builtin (R := wants (fun r s2 => r = .none ∧ ∃ h' tk c, s2 = { s with heap := h', toks := tk } ∧ Made w s s.heap.objs.size ns h' c) E)
        F.called_set.init.plain F.entry_set_init (check_set_init_1 ty ?_)) fun r2 s2 hr2 => ?_
      · obtain ⟨⟨oc, od, dt, os⟩, hol, e1, nl, e2⟩ := hl
        simp only at e1 e2
        subst e1; subst e2
        have hl1 : (s.heap.push (eS w)).IsList l xs := ⟨_, Heap.get?_push_of_some _ hol, rfl, nl, rfl⟩
        have gl := Heap.get?_push_of_some (eS w) hol
        have n1 := F.sub_list_set
        have n2 := F.sub_list_frozenset
        have n3 : (Value.type "list" == Value.type "dict") = false := by decide
        unfold Builtin.«set.__init__» noKeywords Builtin.Frozenset.updateFrom
        generalize ePI : pyIter = PI
        wp_walk
        subst ePI
        refine wpAny_pyIter_list hl1 (wpAny_bind (wpAny_runValue ?_))
        have lt : l < s.heap.objs.size := Heap.lt_size hol
        have h3 : A.in1.in1.in1.handled = none := by simp [hh]
        have ps : (s.heap.push (eS w)).objs.size = s.heap.objs.size + 1 := Heap.size_push ..
        have ne : l ≠ (s.heap.push (eS w)).objs.size := by rw [ps]; exact Nat.ne_of_lt (Nat.lt_succ_of_lt lt)
        have nf : s.heap.objs.size ∉ [(s.heap.push (eS w)).objs.size, l] := by
          rw [ps]
          intro m
          rcases List.mem_cons.mp m with m | m
          · exact absurd m (Nat.ne_of_lt (Nat.lt_succ_self _))
          · exact absurd (List.mem_singleton.mp m) (Nat.ne_of_gt lt)
        refine set_update_ints ((Walks.list h3 _ l ne xs).toS) s.heap.objs.size nf ns sz hb (fun i v hv => ?_) (xs.size - 0) 0 _ (by omega) (Nat.zero_le _) ⟨⟨_, Heap.get?_push_size _ rfl, rfl, rfl⟩, hl1.push _⟩ ?_ ?_
        · have il : i < ns.length := by rw [← sz]; exact (Array.getElem?_eq_some_iff.mp hv).1
          obtain ⟨t, e⟩ := IntsAre.int_at hi i v (by rw [Array.getElem?_toList]; exact hv)
          refine ⟨ns[i], t, List.getElem?_eq_getElem il, ?_⟩
          rw [e, List.getD_eq_getElem?_getD, List.getElem?_eq_getElem il]; rfl
        · exact ⟨0, Nat.le_refl 0, setR_new_at (Heap.get?_push_of_some _ g0)⟩
        · intro s' c' mv lc st
          obtain ⟨h', gg, dd, tk', oo⟩ := s'
          have a1 : gg = s.gens := mv.gens
          have a2 : dd = s.drawn := mv.drawn
          have a3 : oo = s.os := mv.os
          subst a1; subst a2; subst a3
          refine wpAny_pure ?_
          show wpAny _ _ (ret Value.none) _ _ _
          rw [sz] at lc
          refine wpAny_pure ⟨rfl, h', tk', c', rfl, st, lc, fun b o e => ?_⟩
          have lb : b < s.heap.objs.size := Heap.lt_size e
          refine mv.heap b o (fun m => ?_) (Heap.get?_push_of_some _ (Heap.get?_push_of_some _ e))
          rcases List.mem_cons.mp m with m | m
          · exact absurd m (Nat.ne_of_lt lb)
          · rw [ps] at m; exact absurd (List.mem_singleton.mp m) (Nat.ne_of_lt (Nat.lt_succ_of_lt lb))
      · cases r2 with
        | error e => exact hr2
        | ok f2 =>
          cases f2 with
          | next => exact hr2.elim
          | brk => exact hr2.elim
          | cont => exact hr2.elim
          | ret rv =>
            obtain ⟨rfl, h', tk, c', rfl, md⟩ := hr2
            repeat (any_goals (first | assumption | wp_step))
            exact k _ _ _ md
end
end Dl
end
section
namespace Dl
open PySem PySem.Spec PyProof.Rows L2
def tSoS (K : PySem.W.Frag) (ta : TE) : TE := fun σ H Q => ta σ H fun x H1 => ∃ (l : Addr) (ns : List Int), x = V.ref l ∧ SqL K H1 l (ns.map V.int) ∧ ns.length < 64 ∧
  ∀ (out : List Int) (p : Addr), out.Pairwise (· < ·) → (∀ k, k ∈ out ↔ k ∈ ns) → out.length ≤ ns.length → H1 p = none → Q (.ref p) (upd H1 p (.lst (out.map V.int)))
theorem v_sos {X : Cx} {a : Expr} {ta : TE} {p p2 q pos : Pos} (hc : X.calm = true) (hg : Gl X "sorted") (hm : X.mg "sorted" = none) (hg2 : Gl X "set") (hm2 : X.mg "set" = none) (ha : PE X a ta)
    (na : starEach [a] X.env = (false, eval a X.env) :: starEach [] X.env := by rfl) : PE X (.Call (.Name "sorted" p) [.Call (.Name "set" p2) [a] [] q] [] pos) (tSoS X.K ta) := by
  have hb : bootBuiltins "sorted" = some (.builtin "sorted") := by decide +kernel
  refine ⟨fun pins s σ H Q I h => Call_ (ld_blt I hg hm hb ?_)⟩
  refine callWith_builtin1 (args_cons ?_ rfl) rfl rfl
  refine Call_ (ld_blt I hg2 hm2 boot_set (callWith_type1 (args_cons (thn (ha.run pins s σ H _ I h) fun v s1 ⟨x, H1, I1, r1, q1⟩ => args_nil ?_) na) na rfl))
  obtain ⟨l, ns, rfl, hq, h1, q2⟩ := q1
  cases r1
  obtain ⟨its, r, pl, hz⟩ := I1.list hq
  refine set_ofL (ns := ns) (I1.ok.hd hc) pl.isList (by simpa using r.ints) (by unfold scanBound; omega) fun h' tk c md => args_nil ?_
  obtain ⟨st, lc, kp⟩ := md
  have I2 : Inv X pins σ H1 { s1 with heap := h', toks := tk } := I1.kept kp
  have st2 : SetR X.w ({ s1 with heap := h', toks := tk } : Shared).heap s1.heap.objs.size (fun j => decide (j ∈ ns)) c := st
  generalize ({ s1 with heap := h', toks := tk } : Shared) = s2 at I2 st2 ⊢
  refine sorted_set st2 (I2.ok.hd hc) (by omega) fun s' p' out cc ns' kk gg oo lp gp io srt mem ln => ?_
  have len : (ns'.map V.int).length ≤ sizeLine := by rw [List.length_map, ln, sizeLine_eq]; omega
  have n0 : H1 p' = none := I2.hok.fresh lp
  have J : Inv X pins σ (upd H1 p' (.lst (ns'.map V.int))) ⟨s'.heap, s'.gens, s'.drawn, s'.toks, s2.os⟩ := I2.call (ch := []) (Un.laid kk lp n0) (I2.hok.laid kk lp ⟨len, out.toList, cc, vals_of_ints io, gp⟩) (by show AllBare s'.gens; rw [gg]; exact I2.bare) fun _ z => nomatch z
  have es : s' = ⟨s'.heap, s'.gens, s'.drawn, s'.toks, s2.os⟩ := by
    cases s'; cases oo; rfl
  rw [es]
  exact ⟨.ref p', _, J, rfl, q2 ns' p' srt (fun k => by rw [mem k, decide_eq_true_iff]) (by rw [ln]; exact lc) n0⟩
def dSoS (ta : DTE) : DTE := fun ρ h Q => ta ρ h fun x h1 => intsQ h1 [x] fun ns => ns.length < 64 ∧ ∀ (out : List Int) (p : Addr), out.Pairwise (· < ·) → (∀ k, k ∈ out ↔ k ∈ ns) → h1 p = none → Q (.ref p) (up h1 p (.lst (out.map D.int)))
theorem e_sos {X : Cx} {a : Expr} {ta : DTE} {p p2 q pos : Pos} (hc : X.calm = true) (ha : PE X a (liftE X.K ta)) (hm : X.mg "sorted" = none) (hm2 : X.mg "set" = none) (hg : Gl X "sorted" := by rfl) (hg2 : Gl X "set" := by rfl)
    (na : starEach [a] X.env = (false, eval a X.env) :: starEach [] X.env := by rfl) : PE X (.Call (.Name "sorted" p) [.Call (.Name "set" p2) [a] [] q] [] pos) (liftE X.K (dSoS ta)) :=
  impE (v_sos hc hg hm hg2 hm2 ha na) fun σ H Q ⟨ρ, h, Qd, rel, qq, u⟩ => ⟨ρ, h, _, rel, qq, fun x h1 q1 v H1 r1 g1 t1 => by
    obtain ⟨a, ns, e, s, l, q2, q3⟩ := intsQ_V g1 (RDs.one r1) q1
    have ev : v = .ref a := by injection e
    exact ⟨a, ns, ev, s, q2, fun out p h3 h4 lo' n => by
      have lo : (out.map V.int).length ≤ sizeLine := by rw [List.length_map, sizeLine_eq]; omega
      have hu := u.at t1
      exact up_lst hu g1 (RDs.ints out) (by rw [List.length_map] at lo ⊢; exact lo) (fun p n => q3 out p h3 h4 n) p n⟩⟩
end Dl
end
section
namespace Dl
open PySem PySem.Spec PyProof.Rows L2
def rSortP (K : PySem.W.Frag) : List V → Hp → VK → Prop := fun xs H Q => ∃ (l : Addr) (vps : List (V × PyData)), xs = [V.ref l] ∧ SqL K H l (vps.map Prod.fst) ∧ (∀ b ∈ vps, Dp K H b.1 b.2 ∧ b.2.depth ≤ 16) ∧
  PySem.W.AllAlike (vps.map Prod.snd) ∧ PySem.W.Sortable (vps.map Prod.snd) ∧ ∀ p, H p = none → Q (.ref p) (upd H p (.lst ((vps.mergeSort (PySem.W.dataLe false Prod.snd)).map Prod.fst)))
theorem each_of {H : Hp} : ∀ {vps : List (V × PyData)} {us : List Value}, Vals (vps.map Prod.fst) us → PySem.W.EachIs (fun (u : Value) (b : V × PyData) => RelV b.1 u) us vps
  | [], us, r => by cases r; exact .nil
  | b :: bs, us, r => by
    cases r with
    | cons r rr => exact .cons r (each_of (H := H) rr)
theorem vals_each : ∀ {vps : List (V × PyData)} {us : List Value}, PySem.W.EachIs (fun (u : Value) (b : V × PyData) => RelV b.1 u) us vps → Vals (vps.map Prod.fst) us
  | _, _, .nil => .nil
  | _, _, .cons r rr => .cons r (vals_each rr)
theorem each_reads {X : Cx} {pins : List (Addr × Obj)} {σ : L2.St} {H : Hp} {s : Shared} (I : Inv X pins σ H s) : ∀ {vps : List (V × PyData)} {us : List Value}, (∀ b ∈ vps, Dp X.K H b.1 b.2 ∧ b.2.depth ≤ 16) → PySem.W.EachIs (fun (u : Value) (b : V × PyData) => RelV b.1 u) us vps → PySem.W.EachIs (fun (u : Value) (b : V × PyData) => ∃ as, Reads s.heap u b.2 as) us vps
  | _, _, _, .nil => .nil
  | b :: bs, u :: us, h, .cons r rr => .cons (Dp.reads I b.2 b.1 u (h b List.mem_cons_self).1 r) (each_reads I (fun c m => h c (List.mem_cons_of_mem _ m)) rr)
theorem cr_sortP {X : Cx} (hu : X.A.units + 65 < cLine) : CallR X (.builtin "sorted") (rSortP X.K) := by
  intro pins s σ H xs us Q I r h
  obtain ⟨l, vps, rfl, hs, hd, al, so, q⟩ := h
  obtain ⟨its, rv, pl, hz⟩ := I.list hs
  rw [Vals.ref1 r]
  have e := each_of (H := H) rv
  have hz' : vps.length ≤ sizeLine := by
    have := rv.length
    rw [List.length_map] at this
    first | omega | (rw [this]; exact hz) | (rw [List.length_map] at hz; exact hz)
  refine PySem.W.sorted_data (enc := Prod.snd) (R := fun (u : Value) (b : V × PyData) => RelV b.1 u) pl.isList e (each_reads I hd e) al so hz' (fun b m => by have := (hd b m).2; omega) fun out hl ho => ?_
  obtain ⟨c, hc⟩ := sortedAll_at s.heap its out.toArray
  have ln : ((vps.mergeSort (PySem.W.dataLe false Prod.snd)).map Prod.fst).length ≤ sizeLine := by
    rw [List.length_map, List.length_mergeSort]; exact hz'
  have J : Inv X pins σ (upd H (s.heap.objs.size + 1) (.lst ((vps.mergeSort (PySem.W.dataLe false Prod.snd)).map Prod.fst))) { s with heap := sortedAll s.heap its out.toArray, toks := s.toks } :=
    I.laid (t' := s.toks) (fun _ _ => sortedAll_old) (Nat.le_succ _) ⟨ln, out, c, vals_each ho, hc⟩
  exact ⟨.ref (s.heap.objs.size + 1), _, J, rfl, q _ (I.hok.fresh (Nat.le_succ _))⟩
@[irreducible] def sortPD : DRC := fun ds h Q => match ds with
  | [d] => ∃ xs ps, lstO h d = some xs ∧ mapO (toP h 15) xs = some ps ∧ PySem.W.AllAlike ps ∧ PySem.W.Sortable ps ∧ ∀ p, h p = none → Q (.ref p) (up h p (.lst (((xs.zip ps).mergeSort (PySem.W.dataLe false Prod.snd)).map Prod.fst)))
  | _ => False
theorem tri_of {K : PySem.W.Frag} {H : Hp} {f : D → Option PyData} : ∀ {xs : List D} {vs : List V} {ps : List PyData}, RDs K H xs vs → mapO f xs = some ps →
    ∃ T : List (D × V × PyData), T.map (·.1) = xs ∧ T.map (·.2.1) = vs ∧ T.map (·.2.2) = ps ∧ ∀ t ∈ T, RD K H t.1 t.2.1 ∧ f t.1 = some t.2.2
  | [], vs, ps, r, e => by
    have z : vs = [] := r
    have z2 : ps = [] := by simpa [mapO] using e.symm
    subst z; subst z2
    exact ⟨[], rfl, rfl, rfl, fun t m => by cases m⟩
  | d :: ds, vs, ps, r, e => by
    obtain ⟨v, r', rfl, h1, h2⟩ := r
    simp only [mapO] at e
    cases e1 : f d with
    | none => rw [e1] at e; cases e
    | some p =>
      cases e2 : mapO f ds with
      | none => rw [e1, e2] at e; cases e
      | some qs =>
        rw [e1, e2] at e
        obtain rfl : p :: qs = ps := by simpa using e
        obtain ⟨T, a, b, c, g⟩ := tri_of h2 e2
        refine ⟨(d, v, p) :: T, by rw [List.map_cons, a], by rw [List.map_cons, b], by rw [List.map_cons, c], fun t m => ?_⟩
        rcases List.mem_cons.mp m with rfl | m
        · exact ⟨h1, e1⟩
        · exact g t m
theorem rds_map {K : PySem.W.Frag} {H : Hp} : ∀ {T : List (D × V × PyData)}, (∀ t ∈ T, RD K H t.1 t.2.1) → RDs K H (T.map (·.1)) (T.map (·.2.1))
  | [], _ => rfl
  | t :: T, h => ⟨t.2.1, _, rfl, h t List.mem_cons_self, rds_map fun u m => h u (List.mem_cons_of_mem _ m)⟩
theorem tri_zip {α β γ : Type} : ∀ T : List (α × β × γ), (T.map (·.1)).zip (T.map (·.2.2)) = T.map fun t => (t.1, t.2.2)
  | [] => rfl
  | t :: T => by rw [List.map_cons, List.map_cons, List.zip_cons_cons, tri_zip T]; rfl
theorem im_sortP {K : PySem.W.Frag} : ImpC K sortPD (rSortP K) := fun ds h Qd vs H Q r rh q u => by
  unfold sortPD at q
  rcases ds with _ | ⟨d, _ | ⟨_, _⟩⟩ <;> first | exact (q : False).elim | skip
  obtain ⟨v, rfl, rv⟩ := r.v1
  obtain ⟨xs, ps, e1, e2, al, so, q⟩ := q
  obtain ⟨l, vs, rfl, sl, rs, ln⟩ := lstO_V rh rv e1
  obtain ⟨T, rfl, rfl, rfl, g⟩ := tri_of rs e2
  have cmp : ∀ a ∈ T, ∀ b ∈ T, PySem.W.dataLe false (fun t : D × V × PyData => t.2.2) a b = PySem.W.dataLe false Prod.snd (a.2.1, a.2.2) (b.2.1, b.2.2) := fun _ _ _ _ => rfl
  have cmp' : ∀ a ∈ T, ∀ b ∈ T, PySem.W.dataLe false (fun t : D × V × PyData => t.2.2) a b = PySem.W.dataLe false Prod.snd (a.1, a.2.2) (b.1, b.2.2) := fun _ _ _ _ => rfl
  have m1 := List.map_mergeSort (f := fun t : D × V × PyData => (t.2.1, t.2.2)) cmp
  have m2 := List.map_mergeSort (f := fun t : D × V × PyData => (t.1, t.2.2)) cmp'
  refine ⟨l, T.map fun t => (t.2.1, t.2.2), rfl, by rw [List.map_map]; exact sl, fun b m => ?_, by rw [List.map_map]; exact al, by rw [List.map_map]; exact so, fun p n => ?_⟩
  · obtain ⟨t, mt, rfl⟩ := List.mem_map.mp m
    have t1 := toP_TP rh 15 _ _ _ (g t mt).1 (g t mt).2
    exact ⟨t1.1, Nat.le_succ_of_le t1.2.2⟩
  · rw [tri_zip, ← m2, List.map_map] at q
    rw [← m1, List.map_map]
    refine up_lst (ds := ((T.mergeSort (PySem.W.dataLe false fun t : D × V × PyData => t.2.2)).map (·.1))) u rh (rds_map fun t m => (g t (List.mem_mergeSort.mp m)).1) (by rw [List.length_map, List.length_mergeSort]; rw [List.length_map] at ln; exact ln) (fun p n => q p n) p n
section
variable {X : Cx} {k : Nat} {p pos : Pos} {e : Expr} {es : List Expr} {t : DTA}
theorem e_sortP (hr : Room k X.A) (ha : PA X (e :: es) (liftA X.K t)) (hm : X.mg "sorted" = none) (hg : Gl X "sorted" := by rfl) (he : starEach (e :: es) X.env = (false, eval e X.env) :: starEach es X.env := by rfl) (hpl : (backTo pos (starEach es X.env)).any (·.1) = false := by rfl) :
    PE X (.Call (.Name "sorted" p) (e :: es) [] pos) (liftE X.K (dCB sortPD t)) := e_callB (cr_sortP (units65 hr)) im_sortP (by decide +kernel) hm ha hg (by decide) (by decide) he hpl
end
end Dl
end
section
namespace Dl
open PySem PySem.Spec PyProof.Rows L2
def rMaxN (K : PySem.W.Frag) : List V → List V → Hp → VK → Prop := fun xs zs H Q => ∃ (a : Addr) (ns : List Int), xs = [V.ref a] ∧ zs = [V.non] ∧ SqL K H a (ns.map V.int) ∧ (ns = [] → Q .non H) ∧ ∀ n r, ns = n :: r → Q (.int (r.foldl max n)) H
theorem depth0 : ∀ ns : List Int, PyData.depthAll (ns.map PyData.int) = 0
  | [] => rfl
  | n :: r => by simp [PyData.depthAll, PyData.depth, depth0 r]
theorem cr_maxN {X : Cx} (hc : X.calm = true) (hu : X.A.units + 65 < cLine) : CallRK X (.builtin "max") [Str.ofString "default"] (rMaxN X.K) := by
  intro pins s σ H vs zs us ws Q I r rz h
  obtain ⟨a, ns, rfl, rfl, hs, q0, q1⟩ := h
  obtain rfl := Vals.ref1 r
  cases rz with
  | cons r1 r2 =>
    cases r2
    rename_i w1
    obtain rfl : w1 = Value.none := r1
    obtain ⟨its, rv, hl, hz⟩ := I.list hs
    refine PySem.W.max_list_default (I.ok.hd hc) hl.isList (by simpa using (rv.ints).reads s.heap) ⟨fun x mx y my => ?_, fun x mx => ?_⟩ (by rw [depth0]; omega) (fun e h' tk kp => ?_) fun y ys i v h' tk bs e hv rd kp => ?_
    · obtain ⟨i, _, rfl⟩ := List.mem_map.mp mx
      obtain ⟨j, _, rfl⟩ := List.mem_map.mp my
      simp [PySem.W.alike]
    · obtain ⟨i, _, rfl⟩ := List.mem_map.mp mx
      simp
    · have en : ns = [] := by simpa using e
      exact ⟨.non, H, I.kept kp, rfl, q0 en⟩
    · cases ns with
      | nil => cases e
      | cons n r =>
        rw [List.map_cons] at e
        obtain ⟨rfl, rfl⟩ := List.cons.inj e
        rw [PySem.W.maxD_ints] at rd
        cases rd with
        | int => exact ⟨.int _, H, I.kept kp, ⟨_, rfl⟩, q1 n r rfl⟩
def dMaxN (t : DTA) : DTE := fun ρ h Q => t ρ h fun ds h1 => intsQ h1 ds fun ns => (ns = [] → Q .non h1) ∧ ∀ n r, ns = n :: r → Q (.int (r.foldl max n)) h1
section
variable {X : Cx} {k : Nat} {p pos p1 p2 : Pos} {j : Nat} {e : Expr} {es : List Expr} {t : DTA}
theorem e_maxN (hr : Room k X.A) (hc : X.calm = true) (ha : PA X (e :: es) (liftA X.K t)) (hm : X.mg "max" = none) (hg : Gl X "max" := by rfl) (kw : List Keyword) (hk : PK X kw (tCons (tC .non) tNil))
    (he : backTo pos (starEach (e :: es) X.env) = (false, eval e X.env) :: backTo pos (starEach es X.env) := by rfl) (hpl : (backTo pos (starEach (e :: es) X.env)).any (·.1) = false := by rfl)
    (hall : (backToKw pos (keywordEach kw X.env)).all (·.1.isSome) = true := by rfl) (hnone : (backToKw pos (keywordEach kw X.env)).any (·.1.isNone) = false := by rfl) (hks : (backToKw pos (keywordEach kw X.env)).filterMap (·.1) = [Str.ofString "default"] := by rfl) :
    PE X (.Call (.Name "max" p) (e :: es) kw pos) (liftE X.K (dMaxN t)) :=
  impE (pe_callBK (cr_maxN hc (units65 hr)) hg hm (by decide +kernel) ha hk (by decide) (by decide) he hpl hall hnone hks) fun σ H Q ⟨ρ, h, Qd, rel, q, u⟩ => ⟨ρ, h, _, rel, q, fun ds h1 q1 vs H1 r1 g1 t1 => by
    obtain ⟨a, ns, rfl, s, l, q2, q3⟩ := intsQ_V g1 r1 q1
    exact ⟨a, ns, rfl, rfl, s, fun en => u _ _ (q2 en) _ _ rfl g1 t1, fun n r en => u _ _ (q3 n r en) _ _ rfl g1 t1⟩⟩
end
end Dl
end
section
namespace Dl
open PySem PySem.Spec PyProof.Rows L2
structure CA where
  Fleet : Addr
  Watch : Addr
  Source : Addr
  Looker : Addr
  Foe : Addr
  Desk : Addr
  LightError : Addr
  BadText : Addr
  NoKind : Addr
  BadPoint : Addr
  BadSight : Addr
  Full : Addr
  BadMoment : Addr
  BadBoats : Addr
  BadMany : Addr
  NoFoe : Addr
def Keep2 (a d : Addr) (h h' : Hd) : Prop := ∀ b o, b ≠ a → b ≠ d → h b = some o → h' b = some o
def Keep (h h' : Hd) : Prop := ∀ b o, h b = some o → h' b = some o
theorem Keep.refl (h : Hd) : Keep h h := fun _ _ e => e
theorem Keep.trans {h h1 h2 : Hd} (a : Keep h h1) (b : Keep h1 h2) : Keep h h2 := fun x o e => b x o (a x o e)
theorem Keep2.refl (a d : Addr) (h : Hd) : Keep2 a d h h := fun _ _ _ _ e => e
theorem Keep2.trans {a d : Addr} {h h1 h2 : Hd} (x : Keep2 a d h h1) (y : Keep2 a d h1 h2) : Keep2 a d h h2 := fun b o n m e => y b o n m (x b o n m e)
theorem Keep.two {h h' : Hd} (k : Keep h h') (a d : Addr) : Keep2 a d h h' := fun b o _ _ e => k b o e
theorem keep_new {h : Hd} {p : Addr} {o : MO} (n : h p = none) : Keep h (up h p o) := fun b u e => by
  by_cases z : b = p
  · subst z; rw [n] at e; cases e
  · rw [up_ne z]; exact e
def dwK (c d : Addr) (k : Int) (more : List (Key × D)) : List (Key × D) := (.inr "cells", .ref c) :: (.inr "digits", .ref d) :: (.inr "at", .int k) :: more
theorem dw_cells (c d : Addr) (k : Int) (more : List (Key × D)) : valD (dwK c d k more) (.inr "cells") = some (.ref c) := by
  unfold dwK valD; rw [if_pos rfl]
theorem dw_digits (c d : Addr) (k : Int) (more : List (Key × D)) : valD (dwK c d k more) (.inr "digits") = some (.ref d) := by
  unfold dwK valD; rw [if_neg (by decide +kernel)]; unfold valD; rw [if_pos rfl]
theorem dw_at (c d : Addr) (k : Int) (more : List (Key × D)) : valD (dwK c d k more) (.inr "at") = some (.int k) := by
  unfold dwK valD; rw [if_neg (by decide +kernel)]; unfold valD; rw [if_neg (by decide +kernel)]; unfold valD; rw [if_pos rfl]
theorem dw_put_at (c d : Addr) (k j : Int) (more : List (Key × D)) : putKD (dwK c d k more) (.inr "at") (.int j) = dwK c d j more := by
  unfold dwK putKD; rw [if_neg (by decide +kernel)]; unfold putKD; rw [if_neg (by decide +kernel)]; unfold putKD; rw [if_pos rfl]
theorem dw_put_digits (c d d' : Addr) (k : Int) (more : List (Key × D)) : putKD (dwK c d k more) (.inr "digits") (.ref d') = dwK c d' k more := by
  unfold dwK putKD; rw [if_neg (by decide +kernel)]; unfold putKD; rw [if_pos rfl]
structure Dw (h : Hd) (a c d : Addr) (more : List (Key × D)) (n : Nat) : Prop where
  ex : ∃ (k : Int) (cs ds : List Int), h a = some (.dik (dwK c d k more)) ∧ h c = some (.lst (cs.map D.int)) ∧ h d = some (.lst (ds.map D.int)) ∧ cs.length = 64 ∧ ds.length ≤ 1000 ∧ 0 ≤ k ∧ k + n ≤ 2 ^ 40
  ac : a ≠ c
  ad : a ≠ d
  cd : c ≠ d
  few : more.length ≤ 5
  nd : ∀ k, ((dwK c d k more).map (·.1)).Nodup
theorem Dw.less {h : Hd} {a c d : Addr} {more : List (Key × D)} {n m : Nat} (w : Dw h a c d more n) (l : m ≤ n) : Dw h a c d more m := by
  obtain ⟨k, cs, ds, e1, e2, e3, l1, l2, k0, k1⟩ := w.ex
  exact ⟨⟨k, cs, ds, e1, e2, e3, l1, l2, k0, by omega⟩, w.ac, w.ad, w.cd, w.few, w.nd⟩
theorem Dw.keep {h h' : Hd} {a c d : Addr} {more : List (Key × D)} {n : Nat} (w : Dw h a c d more n) (k : Keep h h') : Dw h' a c d more n := by
  obtain ⟨j, cs, ds, e1, e2, e3, l1, l2, k0, k1⟩ := w.ex
  exact ⟨⟨j, cs, ds, k _ _ e1, k _ _ e2, k _ _ e3, l1, l2, k0, k1⟩, w.ac, w.ad, w.cd, w.few, w.nd⟩

theorem alloc_ {h : Hd} {o : MO} {G : Addr → Hd → Prop} (g : ∀ p h', h p = none → Keep h h' → h' p = some o → (∀ b, b ≠ p → h' b = h b) → G p h') : ∀ p, h p = none → G p (up h p o) := fun p n => g p _ n (keep_new n) up_same fun b z => up_ne z
theorem write_ {h : Hd} {a : Addr} {o : MO} {G : Hd → Prop} (g : ∀ h', h' a = some o → (∀ b, b ≠ a → h' b = h b) → G h') : G (up h a o) := g _ up_same fun b z => up_ne z
theorem mapO_int {h : Hd} {n : Nat} : ∀ ns : List Int, mapO (toP h n) (ns.map D.int) = some (ns.map PyData.int)
  | [] => rfl
  | x :: r => by
    have e : toP h n (.int x) = some (.int x) := by cases n <;> rfl
    simp only [List.map_cons, mapO, e, mapO_int r]
theorem toP_lst {h : Hd} {n : Nat} {a : Addr} {ds : List D} {ps : List PyData} (e : h a = some (.lst ds)) (m : mapO (toP h n) ds = some ps) : toP h (n + 1) (.ref a) = some (.list ps) := by
  simp only [toP, e, m, Option.map_some]
theorem eqvAll_ints : ∀ xs ys : List Int, PyData.eqvAll (xs.map PyData.int) (ys.map PyData.int) = decide (xs = ys)
  | [], [] => rfl
  | [], _ :: _ => rfl
  | _ :: _, [] => rfl
  | x :: xs, y :: ys => by
    simp only [List.map_cons, PyData.eqvAll, eqvAll_ints xs ys, PyData.eqv]
    by_cases e : x = y <;> simp [e]
theorem atI_of {α : Type} {xs : List α} {i : Int} (h0 : 0 ≤ i) (h1 : i < xs.length) : ∃ x, xs[i.toNat]? = some x ∧ atI xs i = some x := by
  have hl : i.toNat < xs.length := by omega
  refine ⟨xs[i.toNat], List.getElem?_eq_getElem hl, ?_⟩
  unfold atI ixN
  rw [if_pos h0, if_pos h1]
  exact List.getElem?_eq_getElem hl
theorem ixN_of {n : Nat} {i : Int} (h0 : 0 ≤ i) (h1 : i < n) : ixN n i = some i.toNat := by unfold ixN; rw [if_pos h0, if_pos h1]
@[irreducible] def sp_Lmixed (_ : CA) : DSp := fun vs h Q E => ∃ c k : Int, vs = [.int c, .int k] ∧ (0 ≤ k ∧ k ≤ 2 ^ 42) ∧ ∀ r : Int, 0 ≤ r → r ≤ 306783375 → Q (.int r) h
@[irreducible] def sp_Ldraw (_ : CA) : DSp := fun vs h Q E => ∃ (a c d : Addr) (more : List (Key × D)) (n : Nat) (many : Int), vs = [.ref a, .int many] ∧ Dw h a c d more (n + 1) ∧ (1 ≤ many ∧ many ≤ 1000000) ∧
  ∀ h' (r : Int), Dw h' a c d more n → Keep2 a d h h' → 0 ≤ r → r < many → Q (.int r) h'
end Dl
end
section
namespace Dl
open PySem PySem.Spec PyProof.Rows L2
theorem loop_ {ok : Hd → Prop} {g : DTG} {tb : DTS} {Dd : DEnds} (Inv : List D → DEnv → Hd → Prop)
    (step : ∀ x xs ρ h (N : DEnv → Hd → Prop), Inv (x :: xs) ρ h → (∀ ρ' h', Inv xs ρ' h' → N ρ' h') → ok h ∧ g x ρ h fun ρ' h' => tb { nx := N, rt := Dd.rt, bk := Dd.nx, ct := N } ρ' h')
    (fin : ∀ ρ h, Inv [] ρ h → ok h ∧ Dd.nx ρ h) : ∀ items ρ h, Inv items ρ h → dLoop ok g tb items Dd ρ h
  | [], ρ, h, i => fin ρ h i
  | x :: xs, ρ, h, i => step x xs ρ h _ i fun ρ' h' j => loop_ Inv step fin xs ρ' h' j
theorem while_ {c : DTT} {tb : DTS} {Dd : DEnds} (Inv : Nat → DEnv → Hd → Prop)
    (step : ∀ n ρ h (N : DEnv → Hd → Prop), Inv n ρ h → (∀ m ρ' h', m < n → Inv m ρ' h' → N ρ' h') → c ρ h fun b h1 => if b = true then tb { nx := N, rt := Dd.rt, bk := Dd.nx, ct := N } ρ h1 else Dd.nx ρ h1)
    {n : Nat} {ρ : DEnv} {h : Hd} (i : Inv n ρ h) : dWhile c tb Dd ρ h := by
  have key : ∀ f n ρ h, n < f → Inv n ρ h → dWh c tb f Dd ρ h := by
    intro f
    induction f with
    | zero => intro n ρ h z; omega
    | succ f ih => intro n ρ h z i; exact step n ρ h _ i fun m ρ' h' l j => ih m ρ' h' (by omega) j
  unfold dWhile
  exact ⟨n + 1, key _ _ _ _ (Nat.lt_succ_self n) i⟩
theorem lc_ {p : Addr} {ok : Hd → Prop} {tg : Tgt} {tt : DTT} {te : DTE} {ρ : DEnv} {Q : DK} (Inv : List D → List D → Hd → Prop)
    (step : ∀ x xs acc h (A : D → Hd → Prop) (S : Hd → Prop), Inv (x :: xs) acc h → h p = some (.lst acc) → (∀ y h' h2, Inv xs (acc ++ [y]) h' → h' p = some (.lst (acc ++ [y])) → h' = h2 → A y h2) → (∀ h', Inv xs acc h' → h' p = some (.lst acc) → S h') →
      ok h ∧ bindQ tg x ρ fun ρ2 => tt ρ2 h fun b h3 => if b = true then te ρ2 h3 fun y h4 => h4 p = some (.lst acc) ∧ A y (up h4 p (.lst (acc ++ [y]))) else S h3)
    (fin : ∀ acc h, Inv [] acc h → h p = some (.lst acc) → ok h ∧ Q (.ref p) h) : ∀ items acc h, Inv items acc h → h p = some (.lst acc) → dLcL p ok tg tt te ρ Q items acc h
  | [], acc, h, i, e => fin acc h i e
  | x :: xs, acc, h, i, e => step x xs acc h _ _ i e (fun y h' h2 j e2 z => by subst z; exact lc_ Inv step fin xs _ h' j e2) fun h' j e2 => lc_ Inv step fin xs acc h' j e2
def But (p : Addr) (h h' : Hd) : Prop := ∀ b, b ≠ p → h' b = h b
theorem But.refl (p : Addr) (h : Hd) : But p h h := fun _ _ => rfl
theorem But.up {p : Addr} {h h' : Hd} {o : MO} (b : But p h h') : But p h (up h' p o) := fun c z => by rw [up_ne z, b c z]
theorem But.keep {p : Addr} {h h' : Hd} (b : But p h h') (n : h p = none) : Keep h h' := fun c o e => by
  by_cases z : c = p
  · subst z; rw [n] at e; cases e
  · rw [b c z]; exact e
theorem lcp_ {p : Addr} {ok : Hd → Prop} {tg : Tgt} {tt : DTT} {te : DTE} {ρ : DEnv} {Q : DK} {h0 : Hd} (f : D → Option D) {items : List D}
    (step : ∀ x ∈ items, ∀ h (A : D → Hd → Prop) (S : Hd → Prop), But p h0 h → (∀ y, f x = some y → A y h) → (f x = none → S h) → ok h ∧ bindQ tg x ρ fun ρ2 => tt ρ2 h fun b h3 => if b = true then te ρ2 h3 A else S h3)
    (fin : ∀ h, But p h0 h → h p = some (.lst (items.filterMap f)) → ok h ∧ Q (.ref p) h) : ∀ h, But p h0 h → h p = some (.lst []) → dLcL p ok tg tt te ρ Q items [] h := by
  have key : ∀ rest acc h, (∀ x ∈ rest, x ∈ items) → But p h0 h → h p = some (.lst acc) → acc ++ rest.filterMap f = items.filterMap f → dLcL p ok tg tt te ρ Q rest acc h := by
    intro rest
    induction rest with
    | nil =>
      intro acc h _ b e z
      rw [List.filterMap_nil, List.append_nil] at z
      subst z
      exact fin h b e
    | cons x r ih =>
      intro acc h m b e z
      refine step x (m x List.mem_cons_self) h (fun y h4 => h4 p = some (.lst acc) ∧ dLcL p ok tg tt te ρ Q r (acc ++ [y]) (up h4 p (.lst (acc ++ [y])))) (dLcL p ok tg tt te ρ Q r acc) b (fun y ey => ⟨e, ih _ _ (fun x' hx => m x' (List.mem_cons_of_mem _ hx)) b.up up_same ?_⟩) fun en => ih _ _ (fun x' hx => m x' (List.mem_cons_of_mem _ hx)) b e ?_
      · rw [← z, List.filterMap_cons, ey]; simp
      · rw [← z, List.filterMap_cons, en]
  intro h b e
  exact key items [] h (fun _ m => m) b e rfl
theorem rng_cons (i : Int) (n : Nat) : rngL i (n + 1) = .int i :: rngL (i + 1) n := by
  unfold rngL
  rw [List.range_succ_eq_map, List.map_cons, List.map_map]
  congr 1
  · simp
  · apply List.map_congr_left
    intro a _
    simp only [Function.comp, D.int.injEq, Nat.succ_eq_add_one]
    push_cast; omega
theorem rng_nil (i : Int) : rngL i 0 = [] := rfl
theorem rng_mem {i : Int} {n : Nat} {x : D} (m : x ∈ rngL i n) : ∃ k : Nat, k < n ∧ x = .int (i + k) := by
  unfold rngL at m
  rw [List.mem_map] at m
  obtain ⟨k, hk, e⟩ := m
  exact ⟨k, List.mem_range.mp hk, e.symm⟩
theorem szL : sizeLine = 16777216 := sizeLine_eq

theorem ne_ {x y : D} {p q : PyData} {h : Hd} {Q : DK} {b : Bool} (hx : toP h 16 x = some p) (hy : toP h 16 y = some q) (hb : PyData.eqv p q = !b) (k : Q (.bl b) h) : neD x y h Q := by
  unfold neD; rw [hx, hy]; show Q (.bl (!PyData.eqv p q)) h; rw [hb, Bool.not_not]; exact k
theorem eq_ {x y : D} {p q : PyData} {h : Hd} {Q : DK} {b : Bool} (hx : toP h 16 x = some p) (hy : toP h 16 y = some q) (hb : PyData.eqv p q = b) (k : Q (.bl b) h) : eqD x y h Q := by
  unfold eqD; rw [hx, hy]; show Q (.bl (PyData.eqv p q)) h; rw [hb]; exact k
theorem eq_int {i j : Int} {h : Hd} {Q : DK} (k : Q (.bl (decide (i = j))) h) : eqD (.int i) (.int j) h Q :=
  eq_ (p := .int i) (q := .int j) rfl rfl (by simp only [PyData.eqv]; rfl) k
theorem ne_int {i j : Int} {h : Hd} {Q : DK} (k : Q (.bl (!decide (i = j))) h) : neD (.int i) (.int j) h Q :=
  ne_ (p := .int i) (q := .int j) rfl rfl (by simp only [PyData.eqv, Bool.not_not]; rfl) k
theorem eq_str {i j : Str} {h : Hd} {Q : DK} (k : Q (.bl (decide (i = j))) h) : eqD (.str i) (.str j) h Q :=
  eq_ (p := .str i) (q := .str j) rfl rfl (by simp only [PyData.eqv]; by_cases e : i = j <;> simp [e]) k
theorem len_lst {a : Addr} {ds : List D} {h : Hd} {Q : DK} (e : h a = some (.lst ds)) (k : Q (.int ds.length) h) : lenD [.ref a] h Q := by
  unfold lenD lenO itemsD; simp only [e, Option.map_some]; exact k
theorem len_tup {ds : List D} {h : Hd} {Q : DK} (k : Q (.int ds.length) h) : lenD [.tup ds] h Q := by unfold lenD; exact k
theorem len_sc {ds : List D} {h : Hd} {Q : DK} (k : Q (.int ds.length) h) : lenD [.sc ds] h Q := by unfold lenD; exact k
theorem at_nn {α : Type} {xs : List α} {i : Int} {x : α} (h0 : 0 ≤ i) (e : xs[i.toNat]? = some x) : atI xs i = some x := by
  have hl : i.toNat < xs.length := by
    rcases Nat.lt_or_ge i.toNat xs.length with l | l
    · exact l
    · rw [List.getElem?_eq_none l] at e; cases e
  obtain ⟨y, e1, e2⟩ := atI_of (xs := xs) h0 (by omega)
  rw [e2, ← e1, e]
theorem ix_lst {a : Addr} {ds : List D} {i : Int} {d : D} {h : Hd} {Q : DK} (e : h a = some (.lst ds)) (x : atI ds i = some d) (k : Q d h) : ixD (.ref a) (.int i) h Q := by
  unfold ixD itemsD; simp only [e]; exact ⟨d, x, k⟩
theorem ix_tup {ds : List D} {i : Int} {d : D} {h : Hd} {Q : DK} (x : atI ds i = some d) (k : Q d h) : ixD (.tup ds) (.int i) h Q := by unfold ixD; exact ⟨d, x, k⟩
theorem ix_sc {ds : List D} {i : Int} {d : D} {h : Hd} {Q : DK} (x : atI ds i = some d) (k : Q d h) : ixD (.sc ds) (.int i) h Q := by unfold ixD; exact ⟨d, x, k⟩
theorem list_lst {a : Addr} {xs : List D} {h : Hd} {Q : DK} (e : h a = some (.lst xs)) (k : ∀ p, h p = none → Q (.ref p) (up h p (.lst xs))) : listD [.ref a] h Q := by
  unfold listD itemsD; simp only [e]; exact k
theorem tuple_lst {a : Addr} {xs : List D} {h : Hd} {Q : DK} (e : h a = some (.lst xs)) (k : Q (.tup xs) h) : tupleD [.ref a] h Q := by
  unfold tupleD itemsD; simp only [e]; exact k
theorem sl_lst {a : Addr} {xs : List D} {lo hi : Option Int} {h : Hd} {Q : DK} (e : h a = some (.lst xs)) (k : ∀ p, h p = none → Q (.ref p) (up h p (.lst (cutD xs lo hi)))) : slD (.ref a) lo hi h Q := by
  unfold slD itemsD; simp only [e]; exact k
theorem sl_sc {xs : List D} {lo hi : Option Int} {h : Hd} {Q : DK} (k : ∀ p, h p = none → Q (.ref p) (up h p (.lst (cutD xs lo hi)))) : slD (.sc xs) lo hi h Q := by unfold slD; exact k
theorem sl_tup {xs : List D} {lo hi : Option Int} {h : Hd} {Q : DK} (k : Q (.tup (cutD xs lo hi)) h) : slD (.tup xs) lo hi h Q := by unfold slD; exact k
theorem sl_str {z : Str} {lo hi : Option Int} {h : Hd} {Q : DK} (k : Q (.str (cutS z lo hi)) h) : slD (.str z) lo hi h Q := by unfold slD; exact k
theorem list_tup {xs : List D} {h : Hd} {Q : DK} (k : ∀ p, h p = none → Q (.ref p) (up h p (.lst xs))) : listD [.tup xs] h Q := by unfold listD; exact k
theorem tuple_tup {xs : List D} {h : Hd} {Q : DK} (k : Q (.tup xs) h) : tupleD [.tup xs] h Q := by unfold tupleD; exact k
theorem ix_str {z : Str} {i : Int} {c : Nat} {h : Hd} {Q : DK} (x : atI z.cps.toList i = some c) (k : Q (.str ⟨#[c]⟩) h) : ixD (.str z) (.int i) h Q := by unfold ixD; exact ⟨c, x, k⟩
theorem feq_any {x : Str} : ∀ {zs : List Str}, ((zs.map D.str).any fun z => feq z (.str x)) = decide (x ∈ zs)
  | [] => by simp
  | z :: r => by
    rw [List.map_cons, List.any_cons, feq_any (zs := r)]
    simp only [feq, List.mem_cons]
    by_cases e : z = x
    · subst e; simp
    · have e' : ¬ x = z := fun q => e q.symm
      simp [e, e']
theorem flat_strs : ∀ zs : List Str, (zs.map D.str).all flatD = true
  | [] => rfl
  | _ :: r => by rw [List.map_cons, List.all_cons, flat_strs r]; rfl
theorem in_lst {x : Str} {zs : List Str} {a : Addr} {h : Hd} {Q : DK} (e : h a = some (.lst (zs.map D.str))) (k : Q (.bl (decide (x ∈ zs))) h) : inD false (.str x) (.ref a) h Q := by
  unfold inD itemsD; simp only [e]; exact ⟨rfl, flat_strs zs, by rw [if_neg (by decide), feq_any]; exact k⟩
theorem in_tup {x : Str} {zs : List Str} {h : Hd} {Q : DK} (k : Q (.bl (decide (x ∈ zs))) h) : inD false (.str x) (.tup (zs.map D.str)) h Q := by
  unfold inD itemsD; exact ⟨rfl, flat_strs zs, by rw [if_neg (by decide), feq_any]; exact k⟩
theorem ints_lst {a : Addr} {ns : List Int} {h : Hd} {Q : List Int → Prop} (e : h a = some (.lst (ns.map D.int))) (k : Q ns) : intsQ h [.ref a] Q := by
  unfold intsQ lstO; simp only [e, isInts_map]; exact k
theorem all_lst {a : Addr} {ns : List Bool} {h : Hd} {Q : DK} (e : h a = some (.lst (ns.map D.bl))) (k : Q (.bl (ns.all id)) h) : allD [.ref a] h Q := by
  unfold allD lstO; simp only [e, isBls_map]; exact k
theorem join_lst {a : Addr} {z : Str} {ns : List Str} {h : Hd} {Q : DK} (e : h a = some (.lst (ns.map D.str))) (l : (ns.map (·.length)).sum + ns.length * z.length ≤ 16777216) (k : Q (.str (Str.join z ns)) h) : joinD (.str z) [.ref a] h Q := by
  unfold joinD itemsD; simp only [e, isStrs_map]; exact ⟨l, k⟩
theorem sz_ {n : Nat} (h : n ≤ 16777216) : n ≤ sizeLine := by rw [szL]; exact h
theorem newf_ {h h' : Hd} {p : Addr} {o : MO} (n : h p = none) (e : up h p o = h') : Keep h h' ∧ h' p = some o ∧ But p h h' := by
  subst e; exact ⟨keep_new n, up_same, fun b z => up_ne z⟩
theorem putf_ {h h' : Hd} {p : Addr} {o : MO} (e : up h p o = h') : h' p = some o ∧ But p h h' := by
  subst e; exact ⟨up_same, fun b z => up_ne z⟩
theorem put_ {h : Hd} {a : Addr} {o : MO} {G : Hd → Prop} (g : ∀ h', h' a = some o → But a h h' → G h') : G (up h a o) := g _ up_same fun b z => up_ne z
theorem if_t {b : Bool} {P Q : Prop} (e : b = true) (k : P) : if b = true then P else Q := by rw [if_pos e]; exact k
theorem if_f {b : Bool} {P Q : Prop} (e : b = false) (k : Q) : if b = true then P else Q := by rw [if_neg (by rw [e]; decide)]; exact k
theorem if_b {b : Bool} {P Q : Prop} (t : b = true → P) (f : b = false → Q) : if b = true then P else Q := by
  cases b with
  | true => exact t rfl
  | false => exact f rfl
theorem cutD_to (xs : List D) (n : Nat) : cutD xs none (some (n : Int)) = xs.take n := by
  unfold cutD
  rw [HT.sIx_nat, HT.sIx_none, List.drop_zero, Nat.sub_zero]
  by_cases h : n ≤ xs.length
  · rw [Nat.min_eq_left h]
  · rw [Nat.min_eq_right (by omega), List.take_of_length_le (Nat.le_refl _), List.take_of_length_le (by omega)]
theorem cutD_from (xs : List D) (n : Nat) : cutD xs (some (n : Int)) none = xs.drop n := by
  unfold cutD
  rw [HT.sIx_nat, HT.sIx_none]
  rw [List.take_of_length_le (by rw [List.length_drop]; omega)]
  by_cases h : n ≤ xs.length
  · rw [Nat.min_eq_left h]
  · rw [Nat.min_eq_right (by omega), List.drop_eq_nil_of_le (Nat.le_refl _), List.drop_eq_nil_of_le (by omega)]
theorem cutD_mid (xs : List D) (m n : Nat) (h : n ≤ xs.length) (hm : m ≤ n) : cutD xs (some (m : Int)) (some (n : Int)) = (xs.drop m).take (n - m) := by
  unfold cutD
  rw [HT.sIx_nat, HT.sIx_nat, Nat.min_eq_left h, Nat.min_eq_left (by omega)]
theorem draw_ {ca : CA} {a c d : Addr} {more : List (Key × D)} {n : Nat} {many : Int} {h : Hd} {Q : DK} {E : DXK} (w : Dw h a c d more (n + 1)) (m : 1 ≤ many ∧ many ≤ 1000000)
    (q : ∀ h' (r : Int), Dw h' a c d more n → Keep2 a d h h' → 0 ≤ r → r < many → Q (.int r) h') : sp_Ldraw ca [.ref a, .int many] h Q E := by unfold sp_Ldraw; exact ⟨a, c, d, more, n, many, rfl, w, m, q⟩
theorem mixed_ {ca : CA} {c k : Int} {h : Hd} {Q : DK} {E : DXK} (hk : 0 ≤ k ∧ k ≤ 2 ^ 42) (q : ∀ r : Int, 0 ≤ r → r ≤ 306783375 → Q (.int r) h) : sp_Lmixed ca [.int c, .int k] h Q E := by unfold sp_Lmixed; exact ⟨c, k, rfl, hk, q⟩
theorem nth_ints {ns : List Int} {i : Int} (h0 : 0 ≤ i) (h1 : i < ns.length) : ∃ x ∈ ns, atI (ns.map D.int) i = some (.int x) := by
  have hl : i.toNat < ns.length := by omega
  exact ⟨ns[i.toNat], List.getElem_mem hl, at_nn h0 (by rw [List.getElem?_map, List.getElem?_eq_getElem hl]; rfl)⟩
end Dl
end
section
namespace Dl
open PySem PySem.Spec PyProof.Rows L2
structure Lamp where
  col : Str
  fst : Int
  lst : Int
deriving DecidableEq
structure Row where
  kind : Str
  turn : Int
  lamps : List Lamp
deriving DecidableEq
structure Fleet where
  cols : List Str
  rows : List Row
deriving DecidableEq
structure Sight where
  mo : Int
  sd : Int
  cols : List Str
deriving DecidableEq
def Lamp.d (l : Lamp) : D := .tup [.str l.col, .int l.fst, .int l.lst]
def Row.d (r : Row) : D := .tup [.str r.kind, .int r.turn, .tup (r.lamps.map Lamp.d)]
def Fleet.d (f : Fleet) : D := .tup [.tup (f.cols.map D.str), .tup (f.rows.map Row.d)]
def Sight.d (s : Sight) : D := .tup [.int s.mo, .int s.sd, .tup (s.cols.map D.str)]
def Nm (x : Str) : Prop := (1 ≤ x.length ∧ x.length ≤ 7) ∧ ∀ c ∈ x.cps.toList, 97 ≤ c ∧ c ≤ 122
def bars : List Str := ["colours", "kind", "lamp", "sight"]
structure Nms (xs : List Str) : Prop where
  len : xs.length = 6
  nd : xs.Nodup
  nm : ∀ x ∈ xs, Nm x
  bar : ∀ x ∈ xs, x ∉ bars
structure Lamp.ok (cols : List Str) (l : Lamp) : Prop where
  col : l.col ∈ cols
  f0 : 0 ≤ l.fst
  f1 : l.fst < 32
  l0 : 0 ≤ l.lst
  l1 : l.lst < 32
structure Row.ok (cols : List Str) (r : Row) : Prop where
  t0 : 0 ≤ r.turn
  t1 : r.turn ≤ 16
  n0 : 1 ≤ r.lamps.length
  n1 : r.lamps.length ≤ 6
  lamps : ∀ l ∈ r.lamps, l.ok cols
structure Fleet.ok (f : Fleet) : Prop where
  c0 : 1 ≤ f.cols.length
  c1 : f.cols.length ≤ 6
  cnd : f.cols.Nodup
  cnm : ∀ x ∈ f.cols, Nm x ∧ x ∉ bars
  r0 : 1 ≤ f.rows.length
  r1 : f.rows.length ≤ 6
  knd : (f.rows.map Row.kind).Nodup
  knm : ∀ r ∈ f.rows, Nm r.kind ∧ r.kind ∉ bars
  rows : ∀ r ∈ f.rows, r.ok f.cols
structure Sight.ok (f : Fleet) (s : Sight) : Prop where
  m0 : 0 ≤ s.mo
  m1 : s.mo ≤ 99
  s0 : 0 ≤ s.sd
  s1 : s.sd < 32
  cn : s.cols.length ≤ 6
  cs : ∀ x ∈ s.cols, x ∈ f.cols
structure Dm (h : Hd) (a c d x y : Addr) (ns ks : List Str) (n : Nat) : Prop where
  w : Dw h a c d [(.inr "colours", .ref x), (.inr "kinds", .ref y)] n
  hx : h x = some (.lst (ns.map D.str))
  hy : h y = some (.lst (ks.map D.str))
  xd : x ≠ d
  yd : y ≠ d
  n1 : Nms ns
  n2 : Nms ks
theorem Dm.less {h : Hd} {a c d x y : Addr} {ns ks : List Str} {n m : Nat} (w : Dm h a c d x y ns ks n) (l : m ≤ n) : Dm h a c d x y ns ks m := ⟨w.w.less l, w.hx, w.hy, w.xd, w.yd, w.n1, w.n2⟩
theorem Dm.keep {h h' : Hd} {a c d x y : Addr} {ns ks : List Str} {n : Nat} (w : Dm h a c d x y ns ks n) (k : Keep h h') : Dm h' a c d x y ns ks n := ⟨w.w.keep k, k _ _ w.hx, k _ _ w.hy, w.xd, w.yd, w.n1, w.n2⟩
theorem Dw.xa {h : Hd} {a c d x : Addr} {more : List (Key × D)} {n : Nat} {ds : List D} (w : Dw h a c d more n) (e : h x = some (.lst ds)) : x ≠ a := by
  rintro rfl
  obtain ⟨k, cs, ds, e1, _⟩ := w.ex
  rw [e1] at e; cases e
theorem Dm.draw {h h' : Hd} {a c d x y : Addr} {ns ks : List Str} {n m : Nat} (w : Dm h a c d x y ns ks n) (w' : Dw h' a c d [(.inr "colours", .ref x), (.inr "kinds", .ref y)] m) (k : Keep2 a d h h') : Dm h' a c d x y ns ks m :=
  ⟨w', k _ _ (w.w.xa w.hx) w.xd w.hx, k _ _ (w.w.xa w.hy) w.yd w.hy, w.xd, w.yd, w.n1, w.n2⟩
theorem drawm_ {ca : CA} {a c d x y : Addr} {ns ks : List Str} {n : Nat} {many : Int} {h : Hd} {Q : DK} {E : DXK} (w : Dm h a c d x y ns ks (n + 1)) (m : 1 ≤ many ∧ many ≤ 1000000)
    (q : ∀ h' (r : Int), Dm h' a c d x y ns ks n → Keep2 a d h h' → 0 ≤ r → r < many → Q (.int r) h') : sp_Ldraw ca [.ref a, .int many] h Q E := draw_ w.w m fun h' r w' k r0 r1 => q h' r (w.draw w' k) k r0 r1
theorem Dw.fa {h : Hd} {a c d p : Addr} {more : List (Key × D)} {n : Nat} (w : Dw h a c d more n) (e : h p = none) : p ≠ a ∧ p ≠ d := by
  obtain ⟨k, cs, ds, e1, e2, e3, _⟩ := w.ex
  exact ⟨(by rintro rfl; rw [e1] at e; cases e), (by rintro rfl; rw [e3] at e; cases e)⟩
theorem Dm.fa {h : Hd} {a c d x y p : Addr} {ns ks : List Str} {n : Nat} (w : Dm h a c d x y ns ks n) (e : h p = none) : p ≠ a ∧ p ≠ d := w.w.fa e
structure Own (h : Hd) (a d p : Addr) (ds : List D) : Prop where
  e : h p = some (.lst ds)
  pa : p ≠ a
  pd : p ≠ d
theorem Own.keep {h h' : Hd} {a d p : Addr} {ds : List D} (o : Own h a d p ds) (k : Keep2 a d h h') : Own h' a d p ds := ⟨k _ _ o.pa o.pd o.e, o.pa, o.pd⟩
theorem Own.kp {h h' : Hd} {a d p : Addr} {ds : List D} (o : Own h a d p ds) (k : Keep h h') : Own h' a d p ds := ⟨k _ _ o.e, o.pa, o.pd⟩
@[irreducible] def sp_Lfolded (_ : CA) : DSp := fun vs h Q _ => ∃ ns : List Int, vs = [.sc (ns.map D.int)] ∧ ns.length ≤ 63 ∧
  ∀ p h' (cs : List Int), h p = none → Keep h h' → h' p = some (.lst (cs.map D.int)) → cs.length = 64 → Q (.ref p) h'
@[irreducible] def sp_Lnames (_ : CA) : DSp := fun vs h Q _ => ∃ c : Int, vs = [.int c, .int 6] ∧ (0 ≤ c ∧ c < 1000000) ∧
  ∀ p h' (ns : List Str), h p = none → Keep h h' → h' p = some (.lst (ns.map D.str)) → Nms ns → Q (.ref p) h'
@[irreducible] def sp_Llamp (_ : CA) : DSp := fun vs h Q _ => ∃ (a c d x y : Addr) (ns ks : List Str) (n : Nat) (cols : List Str), vs = [.ref a, .tup (cols.map D.str)] ∧ Dm h a c d x y ns ks (n + 4) ∧ (1 ≤ cols.length ∧ cols.length ≤ 6) ∧
  ∀ h' (l : Lamp), Dm h' a c d x y ns ks n → Keep2 a d h h' → l.ok cols → Q l.d h'
@[irreducible] def sp_Llamps (_ : CA) : DSp := fun vs h Q _ => ∃ (a c d x y p : Addr) (ns ks : List Str) (n : Nat) (cols : List Str) (rows : List Row), vs = [.ref a, .tup (cols.map D.str), .ref p] ∧ Dm h a c d x y ns ks (n + 20) ∧ Own h a d p (rows.map Row.d) ∧ (1 ≤ cols.length ∧ cols.length ≤ 6) ∧ rows.length ≤ 6 ∧ (∀ r ∈ rows, r.ok cols) ∧
  ∀ h' (ls : List Lamp), Dm h' a c d x y ns ks n → Keep2 a d h h' → (1 ≤ ls.length ∧ ls.length ≤ 6) → (∀ l ∈ ls, l.ok cols) → Q (.tup (ls.map Lamp.d)) h'
@[irreducible] def sp_Lfleet (_ : CA) : DSp := fun vs h Q _ => ∃ (a c d x y : Addr) (ns ks : List Str) (n : Nat), vs = [.ref a] ∧ Dm h a c d x y ns ks (n + 140) ∧
  ∀ h' (f : Fleet), Dm h' a c d x y ns ks n → Keep2 a d h h' → f.ok → Q f.d h'
@[irreducible] def sp_Lbegun (_ : CA) : DSp := fun vs h Q _ => ∃ ns : List Int, vs = [.sc (ns.map D.int)] ∧ ns.length ≤ 63 ∧
  ∀ (a c d x y : Addr) (ns ks : List Str) h', h a = none → Keep h h' → Dm h' a c d x y ns ks (2 ^ 39) → Q (.ref a) h'
def Lamp.at_ (l : Lamp) (b : Int) : Bool := decide ((b - l.fst) % 32 ≤ (l.lst - l.fst) % 32)
def Row.shown (r : Row) (b : Int) : List Str := (r.lamps.filter fun l => l.at_ b).map Lamp.col
def Fleet.row (f : Fleet) (k : Str) : Option Row := f.rows.find? fun r => r.kind == k
def Fleet.column (f : Fleet) (k : Str) (co sd : Int) : List Str := match f.row k with
  | some r => r.shown ((sd - co) % 32)
  | none => []
@[irreducible] def sp_Lcolumn (_ : CA) : DSp := fun vs h Q _ => ∃ (f : Fleet) (k : Str) (co sd : Int), vs = [f.d, .tup [.str k, .int co], .int sd] ∧ f.ok ∧
  ∀ h', Keep h h' → Q (.tup ((f.column k co sd).map D.str)) h'
@[irreducible] def sp_Lsights (_ : CA) : DSp := fun vs h Q _ => ∃ (a c d x y : Addr) (ns ks : List Str) (n : Nat) (f : Fleet) (most : Int), vs = [.ref a, f.d, .int most] ∧ Dm h a c d x y ns ks (n + 4000) ∧ f.ok ∧ (0 ≤ most ∧ most ≤ 60) ∧
  ∀ p h' (ss : List Sight), h p = none → Dm h' a c d x y ns ks n → Keep2 a d h h' → h' p = some (.lst (ss.map Sight.d)) → (ss.length : Int) ≤ most → (∀ s ∈ ss, s.ok f) → Q (.ref p) h'

def Lamp.pd (l : Lamp) : PyData := .tuple [.str l.col, .int l.fst, .int l.lst]
def Row.pd (r : Row) : PyData := .tuple [.str r.kind, .int r.turn, .tuple (r.lamps.map Lamp.pd)]
def Fleet.pd (f : Fleet) : PyData := .tuple [.tuple (f.cols.map PyData.str), .tuple (f.rows.map Row.pd)]
def Sight.pd (s : Sight) : PyData := .tuple [.int s.mo, .int s.sd, .tuple (s.cols.map PyData.str)]
theorem mapO_map {α β γ : Type} {f : β → Option γ} {g : α → β} {k : α → γ} : ∀ {xs : List α}, (∀ x ∈ xs, f (g x) = some (k x)) → mapO f (xs.map g) = some (xs.map k)
  | [], _ => rfl
  | x :: r, e => by simp only [List.map_cons, mapO, e x List.mem_cons_self, mapO_map fun y m => e y (List.mem_cons_of_mem _ m)]
theorem toP_int (h : Hd) (n : Nat) (i : Int) : toP h n (.int i) = some (.int i) := by cases n <;> rfl
theorem toP_str (h : Hd) (n : Nat) (i : Str) : toP h n (.str i) = some (.str i) := by cases n <;> rfl
theorem toP_non (h : Hd) (n : Nat) : toP h n .non = some .none := by cases n <;> rfl
theorem toP_bl (h : Hd) (n : Nat) (b : Bool) : toP h n (.bl b) = some (.bool b) := by cases n <;> rfl
theorem toP_tup {h : Hd} {n : Nat} {ds : List D} {ps : List PyData} (m : mapO (toP h n) ds = some ps) : toP h (n + 1) (.tup ds) = some (.tuple ps) := by
  simp only [toP, m, Option.map_some]
theorem toP_strs (h : Hd) (n : Nat) (xs : List Str) : mapO (toP h n) (xs.map D.str) = some (xs.map PyData.str) := mapO_map fun x _ => toP_str h n x
theorem Lamp.toP (h : Hd) (n : Nat) (l : Lamp) : toP h (n + 1) l.d = some l.pd := toP_tup (by simp only [mapO, toP_int, toP_str])
theorem Row.toP (h : Hd) (n : Nat) (r : Row) : toP h (n + 3) r.d = some r.pd := toP_tup (by simp only [mapO, toP_int, toP_str, toP_tup (mapO_map fun l _ => Lamp.toP h n l)])
theorem Fleet.toP (h : Hd) (n : Nat) (f : Fleet) : toP h (n + 5) f.d = some f.pd := toP_tup (by simp only [mapO, toP_tup (toP_strs h _ _), toP_tup (mapO_map fun r _ => Row.toP h n r)])
theorem Sight.toP (h : Hd) (n : Nat) (s : Sight) : toP h (n + 2) s.d = some s.pd := toP_tup (by simp only [mapO, toP_int, toP_tup (toP_strs h _ _)])
theorem eqvAll_nil {ps : List PyData} : PyData.eqvAll ps [] = ps.isEmpty := by cases ps <;> rfl
theorem eqvAll_strs : ∀ xs ys : List Str, PyData.eqvAll (xs.map PyData.str) (ys.map PyData.str) = decide (xs = ys)
  | [], [] => rfl
  | [], _ :: _ => rfl
  | _ :: _, [] => rfl
  | x :: xs, y :: ys => by
    simp only [List.map_cons, PyData.eqvAll, eqvAll_strs xs ys, PyData.eqv]
    by_cases e : x = y <;> simp [e]
theorem eqvAll_map {α : Type} [DecidableEq α] {g : α → PyData} (hg : ∀ x y, PyData.eqv (g x) (g y) = decide (x = y)) : ∀ xs ys : List α, PyData.eqvAll (xs.map g) (ys.map g) = decide (xs = ys)
  | [], [] => rfl
  | [], _ :: _ => rfl
  | _ :: _, [] => rfl
  | x :: xs, y :: ys => by
    simp only [List.map_cons, PyData.eqvAll, eqvAll_map hg xs ys, hg]
    by_cases e : x = y <;> simp [e]
theorem Lamp.eqv (x y : Lamp) : PyData.eqv x.pd y.pd = decide (x = y) := by
  obtain ⟨a, b, c⟩ := x; obtain ⟨a', b', c'⟩ := y
  simp only [Lamp.pd, PyData.eqv, PyData.eqvAll, Lamp.mk.injEq]
  by_cases e1 : a = a' <;> by_cases e2 : b = b' <;> by_cases e3 : c = c' <;> simp [e1, e2, e3]
theorem Row.eqv (x y : Row) : PyData.eqv x.pd y.pd = decide (x = y) := by
  obtain ⟨a, b, c⟩ := x; obtain ⟨a', b', c'⟩ := y
  simp only [Row.pd, PyData.eqv, PyData.eqvAll, Row.mk.injEq, eqvAll_map Lamp.eqv]
  by_cases e1 : a = a' <;> by_cases e2 : b = b' <;> by_cases e3 : c = c' <;> simp [e1, e2, e3]
theorem Fleet.eqv (x y : Fleet) : PyData.eqv x.pd y.pd = decide (x = y) := by
  obtain ⟨a, b⟩ := x; obtain ⟨a', b'⟩ := y
  simp only [Fleet.pd, PyData.eqv, PyData.eqvAll, Fleet.mk.injEq, eqvAll_map Row.eqv, eqvAll_strs]
  by_cases e1 : a = a' <;> by_cases e2 : b = b' <;> simp [e1, e2]
theorem Sight.eqv (x y : Sight) : PyData.eqv x.pd y.pd = decide (x = y) := by
  obtain ⟨a, b, c⟩ := x; obtain ⟨a', b', c'⟩ := y
  simp only [Sight.pd, PyData.eqv, PyData.eqvAll, Sight.mk.injEq, eqvAll_strs]
  by_cases e1 : a = a' <;> by_cases e2 : b = b' <;> by_cases e3 : c = c' <;> simp [e1, e2, e3]
theorem eqvAll_empty {α : Type} {g : α → PyData} (xs : List α) : PyData.eqvAll (xs.map g) [] = xs.isEmpty := by cases xs <;> rfl
theorem But.trans {p : Addr} {h h1 h2 : Hd} (a : But p h h1) (b : But p h1 h2) : But p h h2 := fun c z => by rw [b c z, a c z]
theorem Keep2.fresh {a d p : Addr} {h h1 : Hd} (k : Keep2 a d h h1) (n : h1 p = none) (f : p ≠ a ∧ p ≠ d) : h p = none := by
  cases e : h p with
  | none => rfl
  | some o => rw [k p o f.1 f.2 e] at n; cases n
theorem Keep2.but {a d p : Addr} {h h2 h3 : Hd} (k : Keep2 a d h h2) (n : h p = none) (b : But p h2 h3) : Keep2 a d h h3 := fun c o x y e => by
  rw [b c (by rintro rfl; rw [n] at e; cases e)]; exact k c o x y e
theorem Dw.ne {h : Hd} {a c d p : Addr} {more : List (Key × D)} {n : Nat} (w : Dw h a c d more n) (e : h p = none) : p ≠ a ∧ p ≠ c ∧ p ≠ d := by
  obtain ⟨k, cs, ds, e1, e2, e3, _⟩ := w.ex
  exact ⟨(by rintro rfl; rw [e1] at e; cases e), (by rintro rfl; rw [e2] at e; cases e), (by rintro rfl; rw [e3] at e; cases e)⟩
theorem Dw.but {h h' : Hd} {a c d p : Addr} {more : List (Key × D)} {n : Nat} (w : Dw h a c d more n) (z : p ≠ a ∧ p ≠ c ∧ p ≠ d) (b : But p h h') : Dw h' a c d more n := by
  obtain ⟨j, cs, ds, e1, e2, e3, l1, l2, k0, k1⟩ := w.ex
  exact ⟨⟨j, cs, ds, by rw [b _ z.1.symm]; exact e1, by rw [b _ z.2.1.symm]; exact e2, by rw [b _ z.2.2.symm]; exact e3, l1, l2, k0, k1⟩, w.ac, w.ad, w.cd, w.few, w.nd⟩
structure Nw (a c d x y p : Addr) : Prop where
  a : p ≠ a
  c : p ≠ c
  d : p ≠ d
  x : p ≠ x
  y : p ≠ y
theorem Dm.ne {h : Hd} {a c d x y p : Addr} {ns ks : List Str} {n : Nat} (w : Dm h a c d x y ns ks n) (e : h p = none) : Nw a c d x y p :=
  ⟨(w.w.ne e).1, (w.w.ne e).2.1, (w.w.ne e).2.2, (by rintro rfl; rw [w.hx] at e; cases e), (by rintro rfl; rw [w.hy] at e; cases e)⟩
theorem Dm.but {h h' : Hd} {a c d x y p : Addr} {ns ks : List Str} {n : Nat} (w : Dm h a c d x y ns ks n) (z : Nw a c d x y p) (b : But p h h') : Dm h' a c d x y ns ks n :=
  ⟨w.w.but ⟨z.a, z.c, z.d⟩ b, by rw [b _ z.x.symm]; exact w.hx, by rw [b _ z.y.symm]; exact w.hy, w.xd, w.yd, w.n1, w.n2⟩
theorem Nw.ad {a c d x y p : Addr} (z : Nw a c d x y p) : p ≠ a ∧ p ≠ d := ⟨z.a, z.d⟩
theorem lamp_ {ca : CA} {a c d x y : Addr} {ns ks : List Str} {n : Nat} {cols : List Str} {h : Hd} {Q : DK} {E : DXK} (w : Dm h a c d x y ns ks (n + 4)) (cl : 1 ≤ cols.length ∧ cols.length ≤ 6)
    (q : ∀ h' (l : Lamp), Dm h' a c d x y ns ks n → Keep2 a d h h' → l.ok cols → Q l.d h') : sp_Llamp ca [.ref a, .tup (cols.map D.str)] h Q E := by
  unfold sp_Llamp; exact ⟨a, c, d, x, y, ns, ks, n, cols, rfl, w, cl, q⟩
theorem lamps_ {ca : CA} {a c d x y p : Addr} {ns ks : List Str} {n : Nat} {cols : List Str} {rows : List Row} {h : Hd} {Q : DK} {E : DXK} (w : Dm h a c d x y ns ks (n + 20)) (o : Own h a d p (rows.map Row.d)) (cl : 1 ≤ cols.length ∧ cols.length ≤ 6) (rl : rows.length ≤ 6) (rok : ∀ r ∈ rows, r.ok cols)
    (q : ∀ h' (ls : List Lamp), Dm h' a c d x y ns ks n → Keep2 a d h h' → (1 ≤ ls.length ∧ ls.length ≤ 6) → (∀ l ∈ ls, l.ok cols) → Q (.tup (ls.map Lamp.d)) h') : sp_Llamps ca [.ref a, .tup (cols.map D.str), .ref p] h Q E := by
  unfold sp_Llamps; exact ⟨a, c, d, x, y, p, ns, ks, n, cols, rows, rfl, w, o, cl, rl, rok, q⟩
theorem fleet_ {ca : CA} {a c d x y : Addr} {ns ks : List Str} {n : Nat} {h : Hd} {Q : DK} {E : DXK} (w : Dm h a c d x y ns ks (n + 140)) (q : ∀ h' (f : Fleet), Dm h' a c d x y ns ks n → Keep2 a d h h' → f.ok → Q f.d h') : sp_Lfleet ca [.ref a] h Q E := by
  unfold sp_Lfleet; exact ⟨a, c, d, x, y, ns, ks, n, rfl, w, q⟩
theorem begun_ {ca : CA} {ns : List Int} {h : Hd} {Q : DK} {E : DXK} (l : ns.length ≤ 63) (q : ∀ (a c d x y : Addr) (ns ks : List Str) h', h a = none → Keep h h' → Dm h' a c d x y ns ks (2 ^ 39) → Q (.ref a) h') : sp_Lbegun ca [.sc (ns.map D.int)] h Q E := by
  unfold sp_Lbegun; exact ⟨ns, rfl, l, q⟩
theorem names_ {ca : CA} {c : Int} {h : Hd} {Q : DK} {E : DXK} (l : 0 ≤ c ∧ c < 1000000) (q : ∀ p h' (ns : List Str), h p = none → Keep h h' → h' p = some (.lst (ns.map D.str)) → Nms ns → Q (.ref p) h') : sp_Lnames ca [.int c, .int 6] h Q E := by
  unfold sp_Lnames; exact ⟨c, rfl, l, q⟩
theorem folded_ {ca : CA} {ns : List Int} {h : Hd} {Q : DK} {E : DXK} (l : ns.length ≤ 63) (q : ∀ p h' (cs : List Int), h p = none → Keep h h' → h' p = some (.lst (cs.map D.int)) → cs.length = 64 → Q (.ref p) h') : sp_Lfolded ca [.sc (ns.map D.int)] h Q E := by
  unfold sp_Lfolded; exact ⟨ns, rfl, l, q⟩
theorem lcolumn_ {ca : CA} {f : Fleet} {k : Str} {co sd : Int} {h : Hd} {Q : DK} {E : DXK} (ok : f.ok) (q : ∀ h', Keep h h' → Q (.tup ((f.column k co sd).map D.str)) h') : sp_Lcolumn ca [f.d, .tup [.str k, .int co], .int sd] h Q E := by
  unfold sp_Lcolumn; exact ⟨f, k, co, sd, rfl, ok, q⟩
theorem lsights_ {ca : CA} {a c d x y : Addr} {ns ks : List Str} {n : Nat} {f : Fleet} {most : Int} {h : Hd} {Q : DK} {E : DXK} (w : Dm h a c d x y ns ks (n + 4000)) (ok : f.ok) (m : 0 ≤ most ∧ most ≤ 60)
    (q : ∀ p h' (ss : List Sight), h p = none → Dm h' a c d x y ns ks n → Keep2 a d h h' → h' p = some (.lst (ss.map Sight.d)) → (ss.length : Int) ≤ most → (∀ s ∈ ss, s.ok f) → Q (.ref p) h') : sp_Lsights ca [.ref a, f.d, .int most] h Q E := by
  unfold sp_Lsights; exact ⟨a, c, d, x, y, ns, ks, n, f, most, rfl, w, ok, m, q⟩
end Dl
end
section
namespace Dl
open PySem PySem.Spec PyProof.Rows L2
def t_Lfolded (ca : CA) (E : DXK) : DTS := (dSeq (dAsg (dLc (dRng1 (dCons (dC (.int 64)) dNil)) (.one 2) dYes (dOp addD (dC (.int 17)) (dVar 2))) (dgName 1))
    (dSeq (dFor (dEnum (dCons (dVar 0) dNil)) (dgTup fun ds ρ h Q => ds.length = 2 ∧ (dgCons (dgName 2) (dgCons (dgName 3) dgNil)) ds ρ h Q)
    (dAsg (dOp modD (dOp addD (dOp mulD (dOp ixD (dVar 1) (dOp modD (dVar 2) (dC (.int 64)))) (dC (.int 48271))) (dVar 3)) (dC (.int 2147483647))) (dgSub (dVar 1) (dOp modD (dVar 2) (dC (.int 64))))))
    (dSeq (dFor (dRng2 (dCons (dC (.int 1)) (dCons (dC (.int 64)) dNil))) (dgName 2)
    (dAsg (dOp modD (dOp addD (dOp ixD (dVar 1) (dVar 2)) (dOp mulD (dOp ixD (dVar 1) (dOp subD (dVar 2) (dC (.int 1)))) (dC (.int 16807)))) (dC (.int 2147483647))) (dgSub (dVar 1) (dVar 2))))
    (dRet (dVar 1)))))
def t_Lnames (ca : CA) (E : DXK) : DTS := (dSeq (dAsg (dC (.str "abcdefghijklmnopqrstuvwxyz")) (dgName 2))
    (dSeq (dIfS (dB (dOp eqD (dOp modD (dVar 0) (dC (.int 4))) (dC (.int 3))))
    (dRet (dLc (dRng1 (dCons (dVar 1) dNil)) (.one 7) dYes (dOp mulD (dOp ixD (dVar 2) (dOp modD (dOp subD (dOp fdivD (dVar 0) (dC (.int 4))) (dVar 7)) (dC (.int 26)))) (dOp addD (dC (.int 1)) (dVar 7)))))
    dNext)
    (dSeq (dAsg (dOp addD (dC (.int 1)) (dOp modD (dOp fdivD (dVar 0) (dC (.int 3))) (dC (.int 6)))) (dgName 3))
    (dSeq (dAsg (dOp ixD (dLst (dCons (dOp modD (dOp fdivD (dVar 0) (dC (.int 18))) (dVar 3)) (dCons (dC (.int 0)) (dCons (dOp subD (dVar 3) (dC (.int 1))) dNil)))) (dOp modD (dVar 0) (dC (.int 3)))) (dgName 4))
    (dSeq (dAsg (dLc (dRng1 (dCons (dC (.int 6)) dNil)) (.one 10) dYes (dOp ixD (dVar 2) (dOp modD (dOp addD (dOp fdivD (dVar 0) (dC (.int 7))) (dOp mulD (dC (.int 5)) (dVar 10))) (dC (.int 26))))) (dgName 5))
    (dSeq (dAsg (dLst dNil) (dgName 6))
    (dSeq (dFor (dRng1 (dCons (dVar 1) dNil)) (dgName 7)
    (dSeq (dAsg (dOp ixD (dVar 2) (dOp modD (dOp addD (dOp fdivD (dVar 0) (dC (.int 11))) (dVar 7)) (dC (.int 26)))) (dgName 8))
    (dDrop (dBM "list" appendD (dVar 6) (dCons (dBM "str" joinD (dC (.str "")) (dCons (dOp addD (dOp addD (dSl (dVar 5) dNoP (dP (dVar 4))) (dLst (dCons (dVar 8) dNil))) (dSl (dVar 5) (dP (dOp addD (dVar 4) (dC (.int 1)))) (dP (dVar 3)))) dNil)) dNil)))))
    (dSeq (dAsg (dLst (dCons (dC (.str "colours")) (dCons (dC (.str "kind")) (dCons (dC (.str "lamp")) (dCons (dC (.str "sight")) dNil))))) (dgName 9))
    (dSeq (dIfS (dB (dOp neD (dLc (dSeqI (dVar 6)) (.one 11) (dB (dOp (inD false) (dVar 11) (dVar 9))) (dVar 11)) (dLst dNil)))
    (dRet (dLc (dRng1 (dCons (dVar 1) dNil)) (.one 7) dYes (dOp addD (dC (.str "f")) (dOp ixD (dVar 2) (dVar 7)))))
    dNext)
    (dRet (dVar 6)))))))))))
def t_Llamp (ca : CA) (E : DXK) : DTS := (dSeq (dAsg (dCall (sp_Ldraw ca) (fun cls fs _ h => E cls fs h) (dCons (dVar 0) (dCons (dC (.int 32)) dNil))) (dgName 2))
    (dSeq (dAsg (dOp ixD (dLst (dCons (dC (.int 0)) (dCons (dC (.int 3)) (dCons (dC (.int 9)) (dCons (dC (.int 11)) (dCons (dC (.int 19)) (dCons (dC (.int 31)) (dCons (dCall (sp_Ldraw ca) (fun cls fs _ h => E cls fs h) (dCons (dVar 0) (dCons (dC (.int 32)) dNil))) dNil)))))))) (dCall (sp_Ldraw ca) (fun cls fs _ h => E cls fs h) (dCons (dVar 0) (dCons (dC (.int 7)) dNil)))) (dgName 3))
    (dRet (dTup (dCons (dOp ixD (dVar 1) (dCall (sp_Ldraw ca) (fun cls fs _ h => E cls fs h) (dCons (dVar 0) (dCons (dCB lenD (dCons (dVar 1) dNil)) dNil)))) (dCons (dVar 2) (dCons (dOp modD (dOp addD (dVar 2) (dVar 3)) (dC (.int 32))) dNil)))))))
def t_Llamps (ca : CA) (E : DXK) : DTS := (dSeq (dIfS (dOrT (dB (dOp eqD (dVar 2) (dLst dNil))) (dB (dOp ltD (dCall (sp_Ldraw ca) (fun cls fs _ h => E cls fs h) (dCons (dVar 0) (dCons (dC (.int 5)) dNil))) (dC (.int 2)))))
    (dRet (dCB tupleD (dCons (dLc (dRng1 (dCons (dOp addD (dC (.int 1)) (dCall (sp_Ldraw ca) (fun cls fs _ h => E cls fs h) (dCons (dVar 0) (dCons (dC (.int 4)) dNil)))) dNil)) (.one 9) dYes (dCall (sp_Llamp ca) W0 (dCons (dVar 0) (dCons (dVar 1) dNil)))) dNil)))
    dNext)
    (dSeq (dAsg (dCB listD (dCons (dOp ixD (dOp ixD (dVar 2) (dCall (sp_Ldraw ca) (fun cls fs _ h => E cls fs h) (dCons (dVar 0) (dCons (dCB lenD (dCons (dVar 2) dNil)) dNil)))) (dC (.int 2))) dNil)) (dgName 3))
    (dSeq (dAsg (dCall (sp_Ldraw ca) (fun cls fs _ h => E cls fs h) (dCons (dVar 0) (dCons (dCB lenD (dCons (dVar 3) dNil)) dNil))) (dgName 4))
    (dSeq (dAsg (dCall (sp_Ldraw ca) (fun cls fs _ h => E cls fs h) (dCons (dVar 0) (dCons (dC (.int 4)) dNil))) (dgName 5))
    (dSeq (dIfS (dAndT (dB (dOp eqD (dVar 5) (dC (.int 0)))) (dB (dOp ltD (dCB lenD (dCons (dVar 3) dNil)) (dC (.int 6)))))
    (dDrop (dBM "list" insertD (dVar 3) (dCons (dVar 4) (dCons (dCall (sp_Llamp ca) (fun cls fs _ h => E cls fs h) (dCons (dVar 0) (dCons (dVar 1) dNil))) dNil))))
    (dIfS (dAndT (dB (dOp eqD (dVar 5) (dC (.int 1)))) (dB (dOp gtD (dCB lenD (dCons (dVar 3) dNil)) (dC (.int 1)))))
    (dDrop (dBM "list" popD (dVar 3) (dCons (dVar 4) dNil)))
    (dIfS (dB (dOp eqD (dVar 5) (dC (.int 2))))
    (dSeq (dAsg (dOp ixD (dVar 3) (dVar 4)) (dgTup fun ds ρ h Q => ds.length = 3 ∧ (dgCons (dgName 6) (dgCons (dgName 7) (dgCons (dgName 8) dgNil))) ds ρ h Q))
    (dAsg (dTup (dCons (dVar 6) (dCons (dVar 7) (dCons (dOp modD (dOp addD (dOp addD (dVar 8) (dC (.int 1))) (dCall (sp_Ldraw ca) (fun cls fs _ h => E cls fs h) (dCons (dVar 0) (dCons (dC (.int 3)) dNil)))) (dC (.int 32))) dNil)))) (dgSub (dVar 3) (dVar 4))))
    (dAsg (dCall (sp_Llamp ca) (fun cls fs _ h => E cls fs h) (dCons (dVar 0) (dCons (dVar 1) dNil))) (dgSub (dVar 3) (dVar 4))))))
    (dRet (dCB tupleD (dCons (dVar 3) dNil))))))))
def t_Lfleet (ca : CA) (E : DXK) : DTS := (dSeq (dAsg (dCB intD1 (dCons (dOp eqD (dCall (sp_Ldraw ca) (fun cls fs _ h => E cls fs h) (dCons (dVar 0) (dCons (dC (.int 8)) dNil))) (dC (.int 0))) dNil)) (dgName 1))
    (dSeq (dAsg (dCB tupleD (dCons (dSl (dOp dgetD (dVar 0) (dC (.str "colours"))) dNoP (dP (dOp addD (dC (.int 1)) (dCall (sp_Ldraw ca) (fun cls fs _ h => E cls fs h) (dCons (dVar 0) (dCons (dOp ixD (dLst (dCons (dC (.int 4)) (dCons (dC (.int 6)) dNil))) (dVar 1)) dNil)))))) dNil)) (dgName 2))
    (dSeq (dAsg (dLst dNil) (dgName 3))
    (dSeq (dFor (dSeqI (dSl (dOp dgetD (dVar 0) (dC (.str "kinds"))) dNoP (dP (dOp addD (dC (.int 1)) (dCall (sp_Ldraw ca) (fun cls fs _ h => E cls fs h) (dCons (dVar 0) (dCons (dOp ixD (dLst (dCons (dC (.int 4)) (dCons (dC (.int 6)) dNil))) (dVar 1)) dNil))))))) (dgName 4)
    (dSeq (dAsg (dOp ixD (dLst (dCons (dC (.int 0)) (dCons (dC (.int 1)) (dCons (dC (.int 2)) (dCons (dC (.int 4)) (dCons (dC (.int 16)) (dCons (dCall (sp_Ldraw ca) (fun cls fs _ h => E cls fs h) (dCons (dVar 0) (dCons (dC (.int 17)) dNil))) dNil))))))) (dCall (sp_Ldraw ca) (fun cls fs _ h => E cls fs h) (dCons (dVar 0) (dCons (dC (.int 6)) dNil)))) (dgName 5))
    (dDrop (dBM "list" appendD (dVar 3) (dCons (dTup (dCons (dVar 4) (dCons (dVar 5) (dCons (dCall (sp_Llamps ca) (fun cls fs _ h => E cls fs h) (dCons (dVar 0) (dCons (dVar 2) (dCons (dVar 3) dNil)))) dNil)))) dNil)))))
    (dRet (dTup (dCons (dVar 2) (dCons (dCB tupleD (dCons (dVar 3) dNil)) dNil))))))))
def t_Lbegun (ca : CA) (E : DXK) : DTS := (dSeq (dAsg (dDisp [("cells", (dCall (sp_Lfolded ca) (fun cls fs _ h => E cls fs h) (dCons (dVar 0) dNil))), ("digits", (dLst dNil)), ("at", (dC (.int 0)))]) (dgName 1))
    (dSeq (dIfS (dAndT (dB (dOp neD (dVar 0) (dLst dNil))) (dB (dOp eqD (dOp modD (dOp ixD (dVar 0) (dC (.int 0))) (dC (.int 2))) (dC (.int 1)))))
    (dputS (dVar 1) (dC (.str "digits")) (dOp addD (dLst (dCons (dOp fdivD (dOp ixD (dVar 0) (dC (.int 0))) (dC (.int 2))) dNil)) (dSl (dVar 0) (dP (dC (.int 1))) dNoP)))
    dNext)
    (dSeq (dAsg (dLc (dRng1 (dCons (dC (.int 2)) dNil)) (.one 3) dYes (dCall (sp_Ldraw ca) W0 (dCons (dVar 1) (dCons (dOp powD (dC (.int 10)) (dC (.int 6))) dNil)))) (dgName 2))
    (dSeq (dIfS (dB (dOp eqD (dCall (sp_Ldraw ca) (fun cls fs _ h => E cls fs h) (dCons (dVar 1) (dCons (dC (.int 4)) dNil))) (dC (.int 0))))
    (dAsg (dOp mulD (dSl (dVar 2) dNoP (dP (dC (.int 1)))) (dC (.int 2))) (dgName 2))
    dNext)
    (dSeq (dputS (dVar 1) (dC (.str "colours")) (dCall (sp_Lnames ca) (fun cls fs _ h => E cls fs h) (dCons (dOp ixD (dVar 2) (dC (.int 0))) (dCons (dC (.int 6)) dNil))))
    (dSeq (dputS (dVar 1) (dC (.str "kinds")) (dCall (sp_Lnames ca) (fun cls fs _ h => E cls fs h) (dCons (dOp ixD (dVar 2) (dC (.int 1))) (dCons (dC (.int 6)) dNil))))
    (dRet (dVar 1))))))))
def t_Lcolumn (ca : CA) (E : DXK) : DTS := (dSeq (dAsg (dOp modD (dOp subD (dVar 2) (dOp ixD (dVar 1) (dC (.int 1)))) (dC (.int 32))) (dgName 3))
    (dSeq (dAsg (dLst dNil) (dgName 4))
    (dSeq (dFor (dSeqI (dOp ixD (dVar 0) (dC (.int 1)))) (dgTup fun ds ρ h Q => ds.length = 3 ∧ (dgCons (dgName 5) (dgCons (dgName 6) (dgCons (dgName 7) dgNil))) ds ρ h Q)
    (dFor (dSeqI (dVar 7)) (dgTup fun ds ρ h Q => ds.length = 3 ∧ (dgCons (dgName 8) (dgCons (dgName 9) (dgCons (dgName 10) dgNil))) ds ρ h Q)
    (dIfS (dAndT (dB (dOp eqD (dVar 5) (dOp ixD (dVar 1) (dC (.int 0))))) (dB (dOp leD (dOp modD (dOp subD (dVar 3) (dVar 9)) (dC (.int 32))) (dOp modD (dOp subD (dVar 10) (dVar 9)) (dC (.int 32))))))
    (dDrop (dBM "list" appendD (dVar 4) (dCons (dVar 8) dNil)))
    dNext)))
    (dRet (dCB tupleD (dCons (dVar 4) dNil))))))
def t_Lsights (ca : CA) (E : DXK) : DTS := (dSeq (dAsg (dOp ixD (dOp ixD (dVar 1) (dC (.int 1))) (dCall (sp_Ldraw ca) (fun cls fs _ h => E cls fs h) (dCons (dVar 0) (dCons (dCB lenD (dCons (dOp ixD (dVar 1) (dC (.int 1))) dNil)) dNil)))) (dgTup fun ds ρ h Q => ds.length = 3 ∧ (dgCons (dgName 3) (dgCons (dgName 4) (dgCons (dgName 5) dgNil))) ds ρ h Q))
    (dSeq (dAsg (dCall (sp_Ldraw ca) (fun cls fs _ h => E cls fs h) (dCons (dVar 0) (dCons (dC (.int 32)) dNil))) (dgName 6))
    (dSeq (dAsg (dC (.int 0)) (dgName 7))
    (dSeq (dAsg (dLst dNil) (dgName 8))
    (dSeq (dFor (dRng1 (dCons (dCall (sp_Ldraw ca) (fun cls fs _ h => E cls fs h) (dCons (dVar 0) (dCons (dOp addD (dVar 2) (dC (.int 1))) dNil))) dNil)) (dgName 9)
    (dSeq (dFor (dRng1 (dCons (dOp ixD (dLst (dCons (dC (.int 0)) (dCons (dC (.int 0)) (dCons (dC (.int 1)) (dCons (dC (.int 1)) (dCons (dC (.int 2)) (dCons (dC (.int 5)) dNil))))))) (dCall (sp_Ldraw ca) (fun cls fs _ h => E cls fs h) (dCons (dVar 0) (dCons (dC (.int 6)) dNil)))) dNil)) (dgName 10)
    (dIfS (dB (dOp ltD (dVar 7) (dC (.int 99))))
    (dSeq (dAsg (dOp addD (dVar 7) (dC (.int 1))) (dgName 7))
    (dAsg (dOp modD (dOp subD (dOp addD (dVar 6) (dCall (sp_Ldraw ca) (fun cls fs _ h => E cls fs h) (dCons (dVar 0) (dCons (dOp addD (dOp mulD (dC (.int 2)) (dVar 4)) (dC (.int 1))) dNil)))) (dVar 4)) (dC (.int 32))) (dgName 6)))
    dNext))
    (dSeq (dAsg (dCall (sp_Ldraw ca) (fun cls fs _ h => E cls fs h) (dCons (dVar 0) (dCons (dC (.int 32)) dNil))) (dgName 11))
    (dSeq (dAsg (dCall (sp_Lcolumn ca) (fun cls fs _ h => E cls fs h) (dCons (dVar 1) (dCons (dTup (dCons (dVar 3) (dCons (dVar 6) dNil))) (dCons (dVar 11) dNil)))) (dgName 12))
    (dSeq (dIfS (dAndT (dB (dOp neD (dVar 12) (dTup dNil))) (dB (dOp eqD (dCall (sp_Ldraw ca) (fun cls fs _ h => E cls fs h) (dCons (dVar 0) (dCons (dC (.int 4)) dNil))) (dC (.int 0)))))
    (dSeq (dAsg (dCall (sp_Ldraw ca) (fun cls fs _ h => E cls fs h) (dCons (dVar 0) (dCons (dCB lenD (dCons (dVar 12) dNil)) dNil))) (dgName 13))
    (dAsg (dOp addD (dSl (dVar 12) dNoP (dP (dVar 13))) (dSl (dVar 12) (dP (dOp addD (dVar 13) (dC (.int 1)))) dNoP)) (dgName 12)))
    dNext)
    (dSeq (dIfS (dB (dOp eqD (dCall (sp_Ldraw ca) (fun cls fs _ h => E cls fs h) (dCons (dVar 0) (dCons (dC (.int 24)) dNil))) (dC (.int 0))))
    (dSeq (dAsg (dCall (sp_Ldraw ca) (fun cls fs _ h => E cls fs h) (dCons (dVar 0) (dCons (dC (.int 7)) dNil))) (dgName 14))
    (dAsg (dCB tupleD (dCons (dLc (dRng1 (dCons (dVar 14) dNil)) (.one 15) dYes (dOp ixD (dOp ixD (dVar 1) (dC (.int 0))) (dCall (sp_Ldraw ca) W0 (dCons (dVar 0) (dCons (dCB lenD (dCons (dOp ixD (dVar 1) (dC (.int 0))) dNil)) dNil))))) dNil)) (dgName 12)))
    dNext)
    (dDrop (dBM "list" insertD (dVar 8) (dCons (dCall (sp_Ldraw ca) (fun cls fs _ h => E cls fs h) (dCons (dVar 0) (dCons (dOp addD (dCB lenD (dCons (dVar 8) dNil)) (dC (.int 1))) dNil))) (dCons (dTup (dCons (dVar 7) (dCons (dVar 11) (dCons (dVar 12) dNil)))) dNil))))))))))
    (dRet (dVar 8)))))))
end Dl
end
section
namespace Dl
open PySem PySem.Spec PyProof.Rows L2
def t_Lmixed (ca : CA) (E : DXK) : DTS := (dSeq (dAsg (dOp addD (dOp addD (dOp modD (dOp mulD (dOp mulD (dVar 0) (dOp addD (dC (.int 1)) (dOp mulD (dC (.int 2)) (dVar 1)))) (dC (.int 48271))) (dC (.int 2147483647))) (dOp mulD (dOp mulD (dC (.int 7919)) (dVar 1)) (dVar 1))) (dOp mulD (dC (.int 104729)) (dVar 1))) (dgName 2))
    (dRet (dOp fdivD (dOp modD (dOp mulD (dVar 2) (dC (.int 69621))) (dC (.int 2147483629))) (dC (.int 7)))))
def t_Ldraw (ca : CA) (E : DXK) : DTS := (dSeq (dAsg (dOp dgetD (dVar 0) (dC (.str "at"))) (dgName 2))
    (dSeq (dputS (dVar 0) (dC (.str "at")) (dOp addD (dVar 2) (dC (.int 1))))
    (dSeq (dIfS (dB (dOp neD (dOp dgetD (dVar 0) (dC (.str "digits"))) (dLst dNil)))
    (dSeq (dAsg (dOp modD (dVar 2) (dCB lenD (dCons (dOp dgetD (dVar 0) (dC (.str "digits"))) dNil))) (dgName 3))
    (dSeq (dAsg (dOp ixD (dOp dgetD (dVar 0) (dC (.str "digits"))) (dVar 3)) (dgName 4))
    (dSeq (dAsg (dOp fdivD (dVar 4) (dVar 1)) (dgSub (dOp dgetD (dVar 0) (dC (.str "digits"))) (dVar 3)))
    (dRet (dOp modD (dVar 4) (dVar 1))))))
    dNext)
    (dRet (dOp modD (dCall (sp_Lmixed ca) (fun cls fs _ h => E cls fs h) (dCons (dCall (sp_Lmixed ca) (fun cls fs _ h => E cls fs h) (dCons (dOp addD (dOp ixD (dOp dgetD (dVar 0) (dC (.str "cells"))) (dOp modD (dVar 2) (dC (.int 64)))) (dOp mulD (dC (.int 31)) (dOp fdivD (dVar 2) (dC (.int 64))))) (dCons (dVar 2) dNil))) (dCons (dOp addD (dVar 2) (dC (.int 7))) dNil))) (dVar 1))))))
end Dl
end
section
local macro_rules | `(tactic| walk_at "d") => `(tactic| simp only [Dl.dstart, List.map_cons, List.map_nil, List.length_cons, List.length_nil, List.append_nil, List.cons_append, List.nil_append, List.replicate, Nat.reduceAdd, Nat.reduceSub, Dl.dSeq, Dl.dAsg, Dl.dRet, Dl.dOp, Dl.dVar, Dl.dget, Dl.dC, Dl.dgName, List.set, Dl.addD, Dl.mulD, Dl.subD, Dl.modD, Dl.fdivD, Dl.intD, Dl.intD0, Dl.dputS, Dl.dgetD, Dl.keyO, Dl.dIfS, Dl.dB, Dl.blQ, Dl.dNext, Dl.dCB, Dl.dCons, Dl.dNil, Dl.dCall, Dl.dLst, Dl.neD, Dl.eqD])
local macro_rules | `(tactic| walk_at "cmul") => `(tactic| first | exact Or.inr ⟨by decide, by decide⟩ | exact Or.inl ⟨by decide, by decide⟩ | exact Or.inr ⟨by omega, by omega⟩ | exact Or.inl ⟨by omega, by omega⟩)
local macro_rules | `(tactic| walk_at "s") => `(tactic| first | (decide) | (omega) | (dsimp only; omega))
namespace Dl
open PySem PySem.Spec PyProof.Rows L2
theorem pure_Lmixed (ca : CA) : ∀ ds h Q E, sp_Lmixed ca ds h Q E → t_Lmixed ca E { nx := fun _ h' => Q .non h', rt := Q } (dstart ["_law_cell", "_law_k", "_law_number"] ds) h := by
  intro ds h Q E hh
  unfold sp_Lmixed at hh
  obtain ⟨c, k, rfl, ⟨k0, k1⟩, q⟩ := hh
  unfold t_Lmixed
  walk_at "d"
  refine ⟨by walk_at "cmul", by walk_at "cmul", by walk_at "cmul", by decide, by walk_at "cmul", by walk_at "cmul", by walk_at "cmul", by walk_at "cmul", by decide, ⟨by decide, by decide⟩, q _ ?_ ?_⟩ <;> omega
theorem pure_Ldraw (ca : CA) : ∀ ds h Q E, sp_Ldraw ca ds h Q E → t_Ldraw ca E { nx := fun _ h' => Q .non h', rt := Q } (dstart ["_law_m", "_law_many", "_law_k", "_law_at", "_law_cell"] ds) h := by
  intro vs h Q E hh
  unfold sp_Ldraw at hh
  obtain ⟨a, c, d, more, n, many, rfl, w, ⟨m1, m2⟩, q⟩ := hh
  obtain ⟨k, cs, ds, e1, e2, e3, l1, l2, k0, k1⟩ := w.ex
  have few := w.few
  refine ⟨_, _, e1, dw_at .., ?_⟩
  refine ⟨_, e1, by simp only [dwK, szL, List.length_cons]; omega, w.nd k, ?_⟩
  rw [dw_put_at]
  have f1 : up h a (.dik (dwK c d (k + 1) more)) a = _ := up_same
  have g1 : ∀ b, b ≠ a → up h a (.dik (dwK c d (k + 1) more)) b = h b := fun b z => up_ne z
  generalize up h a (.dik (dwK c d (k + 1) more)) = h1 at f1 g1 ⊢
  have e2' : h1 c = some (.lst (cs.map D.int)) := by rw [g1 c (Ne.symm w.ac)]; exact e2
  have e3' : h1 d = some (.lst (ds.map D.int)) := by rw [g1 d (Ne.symm w.ad)]; exact e3
  have kp1 : Keep2 a d h h1 := fun b o z _ e => by rw [g1 b z]; exact e
  have w1 : Dw h1 a c d more n := ⟨⟨k + 1, cs, ds, f1, e2', e3', l1, l2, by omega, by omega⟩, w.ac, w.ad, w.cd, w.few, w.nd⟩
  refine ⟨_, _, f1, dw_digits .., Nat.zero_le _, fun p n1 => ?_⟩
  have k2 : Keep h1 (up h1 p (.lst [])) := keep_new n1
  have f2 : up h1 p (.lst []) p = _ := up_same
  generalize up h1 p (.lst []) = h2 at k2 f2 ⊢
  have e4 : toP h2 16 (.ref d) = some (.list (ds.map PyData.int)) := toP_lst (k2 _ _ e3') (mapO_int ds)
  have e5 : toP h2 16 (.ref p) = some (.list []) := toP_lst (ps := []) f2 rfl
  have w2 := w1.keep k2
  have kp2 := kp1.trans (k2.two a d)
  by_cases z : ds = []
  · refine ne_ (b := false) e4 e5 ((eqvAll_ints ds []).trans (by simp [z])) ?_
    have k64 : 0 ≤ k % 64 ∧ k % 64 < (cs.length : Int) := by omega
    obtain ⟨x, mx, ex⟩ := nth_ints k64.1 k64.2
    refine ⟨_, _, k2 _ _ f1, dw_cells .., by walk_at "s", ix_lst (k2 _ _ e2') ex ?_⟩
    refine ⟨⟨by walk_at "s", by walk_at "s"⟩, by walk_at "cmul", mixed_ ⟨k0, by omega⟩ fun r1 a1 b1 => mixed_ ⟨by omega, by omega⟩ fun r2 a2 b2 => ⟨by omega, q _ _ w2 kp2 (Int.emod_nonneg _ (by omega)) (Int.emod_lt_of_pos _ (by omega))⟩⟩
  · refine ne_ (b := true) e4 e5 ((eqvAll_ints ds []).trans (by simp [z])) ?_
    have pos : 0 < ds.length := List.length_pos_iff.mpr z
    refine ⟨_, _, k2 _ _ f1, dw_digits .., len_lst (k2 _ _ e3') ?_⟩
    rw [List.length_map]
    have kr : 0 ≤ k % (ds.length : Int) ∧ k % (ds.length : Int) < (ds.length : Int) := ⟨Int.emod_nonneg _ (by omega), Int.emod_lt_of_pos _ (by omega)⟩
    obtain ⟨x, mx, ex⟩ := nth_ints kr.1 kr.2
    refine ⟨by omega, _, _, k2 _ _ f1, dw_digits .., ix_lst (k2 _ _ e3') ex ?_⟩
    refine ⟨⟨by omega, by omega⟩, _, _, k2 _ _ f1, dw_digits .., _, _, k2 _ _ e3', ixN_of kr.1 (by rw [List.length_map]; exact kr.2), ?_⟩
    rw [show (ds.map D.int).set (k % (ds.length : Int)).toNat (.int (x / many)) = (ds.set (k % (ds.length : Int)).toNat (x / many)).map D.int from (List.map_set ..).symm]
    refine put_ fun h3 f3 b3 => ⟨by omega, q _ _ ⟨⟨k + 1, cs, _, ?_, ?_, f3, l1, by rw [List.length_set]; exact l2, by omega, by omega⟩, w.ac, w.ad, w.cd, w.few, w.nd⟩ (kp2.trans fun b o _ z e => by rw [b3 b z]; exact e) (Int.emod_nonneg _ (by omega)) (Int.emod_lt_of_pos _ (by omega))⟩
    · rw [b3 _ w.ad]; exact k2 _ _ f1
    · rw [b3 _ w.cd]; exact k2 _ _ e2'
end Dl
end
section
local macro_rules | `(tactic| walk_at "s") => `(tactic| first | (decide) | (omega) | (dsimp only; omega) | exact Dl.sz_ (Nat.le_of_ble_eq_true rfl) | (refine Dl.sz_ ?_; simp only [List.length_map, List.length_append, List.length_cons, List.length_nil]; omega))
local macro_rules | `(tactic| walk_at "cmul") => `(tactic| first | exact Or.inr ⟨by decide, by decide⟩ | exact Or.inl ⟨by decide, by decide⟩ | exact Or.inr ⟨by omega, by omega⟩ | exact Or.inl ⟨by omega, by omega⟩)
namespace Dl
open PySem PySem.Spec PyProof.Rows L2
theorem pure_Llamp (ca : CA) : ∀ ds h Q E, sp_Llamp ca ds h Q E → t_Llamp ca E { nx := fun _ h' => Q .non h', rt := Q } (dstart ["_law_m", "_law_colours", "_law_first", "_law_wide"] ds) h := by
  intro vs h Q E hh
  unfold sp_Llamp at hh
  obtain ⟨a, c, d, x, y, ns, ks, n, cols, rfl, w, ⟨c0, c1⟩, q⟩ := hh
  refine drawm_ w ⟨by decide, by decide⟩ fun h1 f w1 k1 f0 f1 => drawm_ w1 ⟨by decide, by decide⟩ fun h2 z w2 k2 z0 z1 => ?_
  refine ⟨by walk_at "s", fun p n3 => ?_⟩
  have w3 := w2.keep (keep_new (o := .lst [.int 0, .int 3, .int 9, .int 11, .int 19, .int 31, .int z]) n3)
  have k3 := (keep_new (o := .lst [.int 0, .int 3, .int 9, .int 11, .int 19, .int 31, .int z]) n3).two a d
  have e3 : up h2 p (.lst [.int 0, .int 3, .int 9, .int 11, .int 19, .int 31, .int z]) p = _ := up_same
  generalize up h2 p (.lst [.int 0, .int 3, .int 9, .int 11, .int 19, .int 31, .int z]) = h3 at w3 k3 e3 ⊢
  have fp := w2.fa n3
  refine drawm_ w3 ⟨by decide, by decide⟩ fun h4 i w4 k4 i0 i1 => ?_
  have e4 := k4 _ _ fp.1 fp.2 e3
  obtain ⟨wd, b0, b1, ew⟩ : ∃ wd : Int, 0 ≤ wd ∧ wd < 32 ∧ atI [D.int 0, .int 3, .int 9, .int 11, .int 19, .int 31, .int z] i = some (.int wd) := by
    obtain ⟨k, rfl⟩ : ∃ k : Nat, i = k := ⟨i.toNat, by omega⟩
    match k, i1 with
    | 0, _ => exact ⟨0, by decide, by decide, rfl⟩
    | 1, _ => exact ⟨3, by decide, by decide, rfl⟩
    | 2, _ => exact ⟨9, by decide, by decide, rfl⟩
    | 3, _ => exact ⟨11, by decide, by decide, rfl⟩
    | 4, _ => exact ⟨19, by decide, by decide, rfl⟩
    | 5, _ => exact ⟨31, by decide, by decide, rfl⟩
    | 6, _ => exact ⟨z, z0, z1, rfl⟩
    | k + 7, l => omega
  refine ix_lst e4 ew ?_
  refine len_tup (drawm_ w4 ⟨by rw [List.length_map]; omega, by rw [List.length_map]; omega⟩ fun h5 j w5 k5 j0 j1 => ?_)
  have lj : j.toNat < cols.length := by rw [List.length_map] at j1; omega
  refine ix_tup (at_nn (x := .str cols[j.toNat]) j0 (by rw [List.getElem?_map, List.getElem?_eq_getElem lj]; rfl)) ?_
  refine ⟨by walk_at "s", by walk_at "s", q h5 ⟨cols[j.toNat], f, (f + wd) % 32⟩ w5 ((k1.trans k2).trans (k3.trans (k4.trans k5))) ⟨List.getElem_mem lj, f0, f1, ?_, ?_⟩⟩
  · exact Int.emod_nonneg _ (by decide)
  · exact Int.emod_lt_of_pos _ (by decide)
end Dl
end
section
local macro_rules | `(tactic| walk_at "s") => `(tactic| first | (decide) | (omega) | (dsimp only; omega) | exact Dl.sz_ (Nat.le_of_ble_eq_true rfl) | (refine Dl.sz_ ?_; simp only [List.length_map, List.length_append, List.length_cons, List.length_nil]; omega))
local macro_rules | `(tactic| walk_at "cmul") => `(tactic| first | exact Or.inr ⟨by decide, by decide⟩ | exact Or.inl ⟨by decide, by decide⟩ | exact Or.inr ⟨by omega, by omega⟩ | exact Or.inl ⟨by omega, by omega⟩)
namespace Dl
open PySem PySem.Spec PyProof.Rows L2
theorem num_mem {ns : List Int} {x : D} (m : x ∈ numL (ns.map D.int)) : ∃ (i : Nat) (c : Int), x = .tup [.int (i : Int), .int c] := by
  unfold numL at m
  rw [List.mem_map] at m
  obtain ⟨⟨y, i⟩, hy, e⟩ := m
  have := List.mem_zipIdx hy
  obtain ⟨_, hi, e2⟩ := this
  have l : i < ns.length := by have := hi; simp at this; omega
  refine ⟨i, ns[i], ?_⟩
  rw [← e, e2, List.getElem_map]
  simp
theorem set_ints {p : Addr} {ns : List Int} {j : Nat} {v : Int} {h : Hd} {G : Hd → Prop} (g : ∀ h', h' p = some (.lst ((ns.set j v).map D.int)) → But p h h' → G h') : G (up h p (.lst ((ns.map D.int).set j (.int v)))) := by
  rw [← List.map_set]; exact put_ g
theorem pure_Lfolded (ca : CA) : ∀ ds h Q E, sp_Lfolded ca ds h Q E → t_Lfolded ca E { nx := fun _ h' => Q .non h', rt := Q } (dstart ["_law_script", "_law_found", "_law_k", "_law_cell"] ds) h := by
  intro vs h Q E hh
  unfold sp_Lfolded at hh
  obtain ⟨ns, rfl, ln, q⟩ := hh
  refine ⟨⟨by decide, by decide⟩, fun p n0 => lcp_ (h0 := h) (fun x => match x with | .int i => some (.int (17 + i)) | _ => none) (fun x m h1 A S b ha hs => ?_) (fun h1 b1 e1 => ⟨trivial, ?_⟩) _ (But.refl p h).up up_same⟩
  · obtain ⟨k, lk, rfl⟩ := rng_mem m
    exact ⟨trivial, ha (.int (17 + (0 + k))) rfl⟩
  have ez : ∃ cs : List Int, h1 p = some (.lst (cs.map D.int)) ∧ cs.length = 64 := ⟨(List.range 64).map fun k : Nat => 17 + (0 + (k : Int)), by rw [e1]; rfl, by rw [List.length_map, List.length_range]⟩
  clear e1
  refine loop_ (fun xs ρ h' => (∀ x ∈ xs, ∃ (i : Nat) (c : Int), x = .tup [.int (i : Int), .int c]) ∧ ∃ (o1 o2 : Option D) (cs : List Int), ρ = [some (.sc (ns.map D.int)), some (.ref p), o1, o2] ∧ But p h h' ∧ h' p = some (.lst (cs.map D.int)) ∧ cs.length = 64) ?_ ?_ _ _ _ ⟨fun x m => num_mem m, none, none, _, rfl, b1, ez.choose_spec.1, ez.choose_spec.2⟩
  · rintro x xs ρ h2 N ⟨hx, o1, o2, cs, rfl, b2, e2, l2⟩ hN
    obtain ⟨i, c, rfl⟩ := hx _ List.mem_cons_self
    have r : 0 ≤ (i : Int) % 64 ∧ (i : Int) % 64 < cs.length := by omega
    obtain ⟨y, my, ey⟩ := nth_ints r.1 r.2
    refine ⟨trivial, rfl, by walk_at "s", ix_lst e2 ey ⟨by walk_at "cmul", by walk_at "s", by walk_at "s", _, _, e2, ixN_of r.1 (by rw [List.length_map]; exact r.2), ?_⟩⟩
    exact set_ints fun h3 e3 b3 => hN _ _ ⟨fun x m => hx x (List.mem_cons_of_mem _ m), _, _, _, rfl, b2.trans b3, e3, by rw [List.length_set]; exact l2⟩
  · rintro ρ h2 ⟨_, o1, o2, cs, rfl, b2, e2, l2⟩
    refine ⟨trivial, ⟨⟨by decide, by decide, by decide, by decide⟩, by decide⟩, ?_⟩
    refine loop_ (fun xs ρ h' => (∀ x ∈ xs, ∃ i : Int, x = .int i ∧ 1 ≤ i ∧ i < 64) ∧ ∃ (o1 o2 : Option D) (cs : List Int), ρ = [some (.sc (ns.map D.int)), some (.ref p), o1, o2] ∧ But p h h' ∧ h' p = some (.lst (cs.map D.int)) ∧ cs.length = 64) ?_ ?_ _ _ _ ⟨fun x m => ?_, o1, o2, cs, rfl, b2, e2, l2⟩
    · rintro x xs ρ h3 N ⟨hx, o1, o2, cs, rfl, b3, e3, l3⟩ hN
      obtain ⟨i, rfl, i0, i1⟩ := hx _ List.mem_cons_self
      obtain ⟨y, my, ey⟩ := nth_ints (ns := cs) (i := i) (by omega) (by omega)
      obtain ⟨z, mz, ez⟩ := nth_ints (ns := cs) (i := i - 1) (by omega) (by omega)
      refine ⟨trivial, ix_lst e3 ey (ix_lst e3 ez ⟨by walk_at "cmul", by walk_at "s", _, _, e3, ixN_of (by omega) (by rw [List.length_map]; omega), ?_⟩)⟩
      exact set_ints fun h4 e4 b4 => hN _ _ ⟨fun x m => hx x (List.mem_cons_of_mem _ m), _, _, _, rfl, b3.trans b4, e4, by rw [List.length_set]; exact l3⟩
    · rintro ρ h3 ⟨_, o1, o2, cs, rfl, b3, e3, l3⟩
      exact ⟨trivial, q p h3 cs n0 (b3.keep n0) e3 l3⟩
    · obtain ⟨k, lk, rfl⟩ := rng_mem m
      have : ((64 : Int) - 1).toNat = 63 := rfl
      exact ⟨_, rfl, by omega, by omega⟩
end Dl
end
section
local macro_rules | `(tactic| walk_at "s") => `(tactic| first | (decide) | (omega) | (dsimp only; omega) | exact Dl.sz_ (Nat.le_of_ble_eq_true rfl) | (refine Dl.sz_ ?_; simp only [List.length_map, List.length_append, List.length_cons, List.length_nil]; omega))
local macro_rules | `(tactic| walk_at "cmul") => `(tactic| first | exact Or.inr ⟨by decide, by decide⟩ | exact Or.inl ⟨by decide, by decide⟩ | exact Or.inr ⟨by omega, by omega⟩ | exact Or.inl ⟨by omega, by omega⟩)
namespace Dl
open PySem PySem.Spec PyProof.Rows L2
theorem ers_map {α β : Type} {f : α → β} : ∀ (l : List α) (i : Nat), (l.map f).eraseIdx i = (l.eraseIdx i).map f
  | [], _ => rfl
  | _ :: _, 0 => rfl
  | x :: r, i + 1 => by simp only [List.map_cons, List.eraseIdx_cons_succ, ers_map r i]
theorem lst_upd {l : List D} {i : Nat} {v : D} {ls : List Lamp} {x : Lamp} (e : l = ls.map Lamp.d) (v' : v = x.d) : l.set i v = (ls.set i x).map Lamp.d := by subst e; subst v'; exact (List.map_set ..).symm
theorem pure_Llamps (ca : CA) : ∀ ds h Q E, sp_Llamps ca ds h Q E → t_Llamps ca E { nx := fun _ h' => Q .non h', rt := Q } (dstart ["_law_m", "_law_colours", "_law_rows", "_law_lamps_here", "_law_at", "_law_way", "_law_colour", "_law_first", "_law_last", "_law_k"] ds) h := by
  intro vs h Q E hh
  unfold sp_Llamps at hh
  obtain ⟨a, c, d, x, y, p, ns, ks, n, cols, rows, rfl, w, o, cl, rl, rok, q⟩ := hh
  have A : ∀ h1, Dm h1 a c d x y ns ks (n + 19) → Keep2 a d h h1 → (dRet (dCB tupleD (dCons (dLc (dRng1 (dCons (dOp addD (dC (.int 1)) (dCall (sp_Ldraw ca) (fun cls fs _ h => E cls fs h) (dCons (dVar 0) (dCons (dC (.int 4)) dNil)))) dNil)) (.one 9) dYes (dCall (sp_Llamp ca) W0 (dCons (dVar 0) (dCons (dVar 1) dNil)))) dNil)))
      { nx := fun _ _ => False, rt := Q } [some (.ref a), some (.tup (cols.map D.str)), some (.ref p), none, none, none, none, none, none, none] h1 := by
    intro h1 w1 k1
    refine drawm_ w1 ⟨by decide, by decide⟩ fun h2 r w2 k2 r0 r1 => ⟨⟨by omega, by omega⟩, fun pl nl => ?_⟩
    have zl := w2.ne nl
    have fl := (k1.trans k2).fresh nl zl.ad
    refine lc_ (fun xs acc h' => ∃ ls : List Lamp, acc = ls.map Lamp.d ∧ Dm h' a c d x y ns ks (n + 4 * xs.length) ∧ Keep2 a d h h' ∧ ((ls.length : Int) + xs.length = 1 + r) ∧ ∀ l ∈ ls, l.ok cols) ?_ ?_ _ _ _ ⟨[], rfl, ?_, ?_, ?_, by simp⟩ up_same
    · rintro xx xs acc h3 Ak Sk ⟨ls, rfl, w3, k3, l3, ok3⟩ e3 hA hS
      refine ⟨trivial, lamp_ (n := n + 4 * xs.length) (w3.less (by rw [List.length_cons]; omega)) cl fun h4 l w4 k4 lok => ?_⟩
      have e4 := k4 _ _ zl.a zl.d e3
      refine ⟨e4, hA _ _ _ ⟨ls ++ [l], by rw [List.map_append]; rfl, w4.but zl fun b z => up_ne z, (k3.trans k4).but fl fun b z => up_ne z, by rw [List.length_append]; simp only [List.length_cons, List.length_nil] at l3 ⊢; omega, fun l' m => ?_⟩ up_same rfl⟩
      rcases List.mem_append.mp m with m | m
      · exact ok3 _ m
      · obtain rfl := List.mem_singleton.mp m; exact lok
    · rintro acc h3 ⟨ls, rfl, w3, k3, l3, ok3⟩ e3
      exact ⟨trivial, tuple_lst e3 (q h3 ls (w3.less (by omega)) k3 (by simp only [List.length_nil] at l3; omega) ok3)⟩
    · have lr : (rngL 0 (1 + r).toNat).length = (1 + r).toNat := by unfold rngL; rw [List.length_map, List.length_range]
      rw [lr]
      exact (w2.but zl fun b z => up_ne z).less (by omega)
    · exact (k1.trans k2).but fl fun b z => up_ne z
    · have lr : (rngL 0 (1 + r).toNat).length = (1 + r).toNat := by unfold rngL; rw [List.length_map, List.length_range]
      rw [lr, List.length_nil]; omega
  refine ⟨by walk_at "s", fun pe ne => ?_⟩
  generalize eh : up h pe _ = h1
  obtain ⟨k1, ee, b1⟩ := newf_ ne eh
  refine eq_ (b := rows.isEmpty) (toP_lst (k1 _ _ o.e) (mapO_map fun r _ => Row.toP h1 _ r)) (toP_lst (ps := []) ee rfl) (eqvAll_empty rows) ?_
  have w1 := w.keep k1
  refine if_b (fun z => A h1 (w1.less (by omega)) (k1.two a d)) fun z => drawm_ w1 ⟨by decide, by decide⟩ fun h2 r w2 k2 r0 r1 => ?_
  have kk2 := (k1.two a d).trans k2
  refine if_b (fun z => A h2 w2 kk2) fun _ => ?_
  have rpos : 0 < rows.length := by cases rows with | nil => cases z | cons _ _ => simp
  refine len_lst (kk2 _ _ o.pa o.pd o.e) (drawm_ w2 ⟨by rw [List.length_map]; omega, by rw [List.length_map]; omega⟩ fun h3 i w3 k3 i0 i1 => ?_)
  have kk3 := kk2.trans k3
  have li : i.toNat < rows.length := by rw [List.length_map] at i1; omega
  refine ix_lst (kk3 _ _ o.pa o.pd o.e) (at_nn (x := (rows[i.toNat]).d) i0 (by rw [List.getElem?_map, List.getElem?_eq_getElem li]; rfl)) ?_
  have rk := rok _ (List.getElem_mem li)
  generalize rows[i.toNat] = row at rk ⊢
  refine ix_tup (at_nn (x := .tup (row.lamps.map Lamp.d)) (by decide) rfl) ?_
  unfold listD itemsD
  intro pl nl
  generalize eh4 : up h3 pl _ = h4
  obtain ⟨k4, el, b4⟩ := newf_ nl eh4
  have zl := w3.ne nl
  have fl := kk3.fresh nl zl.ad
  have w4 := w3.keep k4
  have kk4 := kk3.trans (k4.two a d)
  have q1 := rk.n0
  have q2 := rk.n1
  refine len_lst el (drawm_ w4 ⟨by rw [List.length_map]; omega, by rw [List.length_map]; omega⟩ fun h5 j w5 k5 j0 j1 => ?_)
  rw [List.length_map] at j1
  refine drawm_ w5 ⟨by decide, by decide⟩ fun h6 v w6 k6 v0 v1 => ?_
  have kk6 := (kk4.trans k5).trans k6
  have el6 : h6 pl = some (.lst (row.lamps.map Lamp.d)) := k6 _ _ zl.a zl.d (k5 _ _ zl.a zl.d el)
  have lj : j.toNat < row.lamps.length := by omega
  have B : ∀ h7 h8 (l' : List D) (ls : List Lamp), up h7 pl (.lst l') = h8 → l' = ls.map Lamp.d → Dm h7 a c d x y ns ks n → Keep2 a d h h7 → (1 ≤ ls.length ∧ ls.length ≤ 6) → (∀ l ∈ ls, l.ok cols) → tupleD [.ref pl] h8 Q := by
    intro h7 h8 l' ls e8 el w7 kk7 nls oks
    obtain ⟨e, b⟩ := putf_ e8
    rw [el] at e
    exact tuple_lst e (q h8 ls (w7.but zl b) (kk7.but fl b) nls oks)
  have R : (dIfS (dAndT (dB (dOp eqD (dVar 5) (dC (.int 1)))) (dB (dOp gtD (dCB lenD (dCons (dVar 3) dNil)) (dC (.int 1)))))
    (dDrop (dBM "list" popD (dVar 3) (dCons (dVar 4) dNil)))
    (dIfS (dB (dOp eqD (dVar 5) (dC (.int 2))))
    (dSeq (dAsg (dOp ixD (dVar 3) (dVar 4)) (dgTup fun ds ρ h Q => ds.length = 3 ∧ (dgCons (dgName 6) (dgCons (dgName 7) (dgCons (dgName 8) dgNil))) ds ρ h Q))
    (dAsg (dTup (dCons (dVar 6) (dCons (dVar 7) (dCons (dOp modD (dOp addD (dOp addD (dVar 8) (dC (.int 1))) (dCall (sp_Ldraw ca) (fun cls fs _ h => E cls fs h) (dCons (dVar 0) (dCons (dC (.int 3)) dNil)))) (dC (.int 32))) dNil)))) (dgSub (dVar 3) (dVar 4))))
    (dAsg (dCall (sp_Llamp ca) (fun cls fs _ h => E cls fs h) (dCons (dVar 0) (dCons (dVar 1) dNil))) (dgSub (dVar 3) (dVar 4)))))
      { nx := dRet (dCB tupleD (dCons (dVar 3) dNil)) { nx := fun _ _ => False, rt := Q }, rt := Q } [some (.ref a), some (.tup (cols.map D.str)), some (.ref p), some (.ref pl), some (.int j), some (.int v), none, none, none, none] h6 := by
    have S : ∀ l' : Lamp, ∀ h7, l'.ok cols → Dm h7 a c d x y ns ks n → Keep2 a d h h7 → ∀ h8, up h7 pl (.lst ((row.lamps.map Lamp.d).set j.toNat l'.d)) = h8 → tupleD [.ref pl] h8 Q := by
      intro l' h7 lok w7 kk7 h8 e8
      refine B _ _ _ (row.lamps.set j.toNat l') e8 (by rw [List.map_set]) w7 kk7 (by rw [List.length_set]; omega) fun l2 m => ?_
      rcases List.mem_or_eq_of_mem_set m with m | m
      · exact rk.lamps _ m
      · rw [m]; exact lok
    have lj' : j < ((row.lamps.map Lamp.d).length : Int) := by rw [List.length_map]; exact j1
    refine eq_int (if_b (fun z5 => len_lst el6 (if_b (fun z6 => ?_) fun z6 => eq_int (if_b (fun z7 => ?_) fun z7 => ?_))) fun z5 => eq_int (if_b (fun z7 => ?_) fun z7 => ?_))
    · have z8 : 1 < row.lamps.length := by have := of_decide_eq_true z6; rw [List.length_map] at this; omega
      refine ⟨⟨rfl, _, el6⟩, _, (row.lamps[j.toNat]).d, el6, ⟨j0, by omega⟩, by rw [List.getElem?_map, List.getElem?_eq_getElem lj]; rfl, ?_⟩
      refine B _ _ _ (row.lamps.eraseIdx j.toNat) rfl (by rw [ers_map]) (w6.less (by omega)) kk6 (by rw [List.length_eraseIdx]; split <;> omega) fun l2 m => rk.lamps _ (List.mem_of_mem_eraseIdx m)
    · have a1 := of_decide_eq_true z5
      have a2 := of_decide_eq_true z7
      omega
    · exact lamp_ (n := n) (w6.less (by omega)) cl fun h7 l w7 k7 lok => ⟨_, _, k7 _ _ zl.a zl.d el6, ixN_of j0 lj', S l h7 lok w7 (kk6.trans k7) _ rfl⟩
    · have lk := rk.lamps _ (List.getElem_mem lj)
      refine ix_lst el6 (at_nn (x := (row.lamps[j.toNat]).d) j0 (by rw [List.getElem?_map, List.getElem?_eq_getElem lj]; rfl)) ?_
      generalize row.lamps[j.toNat] = lm at lk ⊢
      refine ⟨rfl, ?_⟩
      refine drawm_ (w6.less (m := n + 1) (by omega)) ⟨by decide, by decide⟩ fun h7 r w7 k7 r0 r1 => ⟨by walk_at "s", by walk_at "s", _, _, k7 _ _ zl.a zl.d el6, ixN_of j0 lj', S ⟨lm.col, lm.fst, (lm.lst + 1 + r) % 32⟩ h7 ⟨lk.col, lk.f0, lk.f1, ?_, ?_⟩ w7 (kk6.trans k7) _ rfl⟩
      · exact Int.emod_nonneg _ (by decide)
      · exact Int.emod_lt_of_pos _ (by decide)
    · exact lamp_ (n := n) (w6.less (by omega)) cl fun h7 l w7 k7 lok => ⟨_, _, k7 _ _ zl.a zl.d el6, ixN_of j0 lj', S l h7 lok w7 (kk6.trans k7) _ rfl⟩
  refine eq_int (if_b (fun z5 => len_lst el6 (if_b (fun z6 => ?_) fun z6 => R)) fun z5 => R)
  · have z7 : row.lamps.length < 6 := by have := of_decide_eq_true z6; rw [List.length_map] at this; omega
    refine ⟨⟨rfl, _, el6⟩, lamp_ (n := n) (w6.less (by omega)) cl fun h7 l w7 k7 lok => ⟨_, k7 _ _ zl.a zl.d el6, by rw [List.length_map, szL]; omega, ⟨j0, by omega⟩, ?_⟩⟩
    refine B _ _ _ (row.lamps.take j.toNat ++ [l] ++ row.lamps.drop j.toNat) rfl (by simp [List.map_take, List.map_drop]) w7 (kk6.trans k7) (by simp; omega) fun l' m => ?_
    rcases List.mem_append.mp m with m | m
    · rcases List.mem_append.mp m with m | m
      · exact rk.lamps _ (List.mem_of_mem_take m)
      · obtain rfl := List.mem_singleton.mp m; exact lok
    · exact rk.lamps _ (List.mem_of_mem_drop m)
end Dl
end
section
local macro_rules | `(tactic| walk_at "s") => `(tactic| first | (decide) | (omega) | (dsimp only; omega) | exact Dl.sz_ (Nat.le_of_ble_eq_true rfl) | (refine Dl.sz_ ?_; simp only [List.length_map, List.length_append, List.length_cons, List.length_nil]; omega))
local macro_rules | `(tactic| walk_at "cmul") => `(tactic| first | exact Or.inr ⟨by decide, by decide⟩ | exact Or.inl ⟨by decide, by decide⟩ | exact Or.inr ⟨by omega, by omega⟩ | exact Or.inl ⟨by omega, by omega⟩)
namespace Dl
open PySem PySem.Spec PyProof.Rows L2
theorem flat_le {α β : Type} {g : α → List β} {n : Nat} : ∀ {xs : List α}, (∀ x ∈ xs, (g x).length ≤ n) → (xs.flatMap g).length ≤ n * xs.length
  | [], _ => by simp
  | x :: r, e => by
    have := flat_le (xs := r) fun y m => e y (List.mem_cons_of_mem _ m)
    have h := e x List.mem_cons_self
    rw [List.flatMap_cons, List.length_append, List.length_cons, Nat.mul_add]
    omega
theorem pure_Lcolumn (ca : CA) : ∀ ds h Q E, sp_Lcolumn ca ds h Q E → t_Lcolumn ca E { nx := fun _ h' => Q .non h', rt := Q } (dstart ["_law_fleet_here", "_law_boat", "_law_side", "_law_bearing", "_law_found", "_law_kind", "_law_turn", "_law_lamps_here", "_law_colour", "_law_first", "_law_last"] ds) h := by
  intro vs h Q E hh
  unfold sp_Lcolumn at hh
  obtain ⟨f, k, co, sd, rfl, ok, q⟩ := hh
  refine ix_tup (at_nn (x := .int co) (by decide) rfl) ?_
  refine ⟨by walk_at "s", by walk_at "s", fun p np => ?_⟩
  generalize eh : up h p _ = h1
  obtain ⟨k1, e1, b1⟩ := newf_ np eh
  refine ix_tup (at_nn (x := .tup (f.rows.map Row.d)) (by decide) rfl) ?_
  have fin : ∀ rows : List Row, (rows.map Row.kind).Nodup → (rows.flatMap fun r => if r.kind = k then r.shown ((sd - co) % 32) else []) = (match rows.find? fun r => r.kind == k with | some r => r.shown ((sd - co) % 32) | none => []) := by
    intro rows
    induction rows with
    | nil => intro _; rfl
    | cons r rs ih =>
      intro nd
      rw [List.map_cons, List.nodup_cons] at nd
      rw [List.flatMap_cons, List.find?_cons]
      by_cases z : r.kind = k
      · rw [if_pos z]
        have z' : (r.kind == k) = true := by rw [z]; exact beq_self_eq_true k
        rw [z']
        have e : (rs.flatMap fun r => if r.kind = k then r.shown ((sd - co) % 32) else []) = [] := by
          rw [List.flatMap_eq_nil_iff]
          intro r' m
          rw [if_neg]
          rintro rfl
          exact nd.1 (z ▸ List.mem_map_of_mem m)
        rw [e, List.append_nil]
      · rw [if_neg z]
        have z' : (r.kind == k) = false := by simpa using z
        rw [z', List.nil_append]
        exact ih nd.2
  refine loop_ (fun xs ρ h' => ∃ (done rest : List Row) (o1 o2 o3 o4 o5 o6 : Option D), f.rows = done ++ rest ∧ xs = rest.map Row.d ∧ ρ = [some f.d, some (.tup [.str k, .int co]), some (.int sd), some (.int ((sd - co) % 32)), some (.ref p), o1, o2, o3, o4, o5, o6] ∧ But p h h' ∧ h' p = some (.lst ((done.flatMap fun r => if r.kind = k then r.shown ((sd - co) % 32) else []).map D.str))) ?_ ?_ _ _ _ ⟨[], f.rows, none, none, none, none, none, none, rfl, rfl, rfl, b1, e1⟩
  · rintro x xs ρ h2 N ⟨done, rest, o1, o2, o3, o4, o5, o6, er, ex, rfl, b2, e2⟩ hN
    cases rest with
    | nil => cases ex
    | cons r rest =>
    rw [List.map_cons] at ex
    obtain ⟨rfl, rfl⟩ := List.cons.inj ex
    refine ⟨trivial, rfl, ?_⟩
    refine loop_ (fun xs ρ h' => ∃ (dn rs : List Lamp) (o4 o5 o6 : Option D), r.lamps = dn ++ rs ∧ xs = rs.map Lamp.d ∧ ρ = [some f.d, some (.tup [.str k, .int co]), some (.int sd), some (.int ((sd - co) % 32)), some (.ref p), some (.str r.kind), some (.int r.turn), some (.tup (r.lamps.map Lamp.d)), o4, o5, o6] ∧ But p h h' ∧ h' p = some (.lst (((done.flatMap fun r => if r.kind = k then r.shown ((sd - co) % 32) else []) ++ if r.kind = k then (dn.filter fun l => l.at_ ((sd - co) % 32)).map Lamp.col else []).map D.str))) ?_ ?_ _ _ _ ⟨[], r.lamps, o4, o5, o6, rfl, rfl, rfl, b2, by rw [e2]; simp⟩
    · rintro x xs ρ h3 N' ⟨dn, rs, o4, o5, o6, er', ex, rfl, b3, e3⟩ hN'
      cases rs with
      | nil => cases ex
      | cons l rs =>
      rw [List.map_cons] at ex
      obtain ⟨rfl, rfl⟩ := List.cons.inj ex
      refine ⟨trivial, rfl, ix_tup (at_nn (x := .str k) (by decide) rfl) ?_⟩
      refine eq_str ?_
      refine if_b (fun z => ?_) fun z => ?_
      · have zk : r.kind = k := of_decide_eq_true z
        refine ⟨by walk_at "s", by walk_at "s", ?_⟩
        refine if_b (fun z2 => ⟨⟨rfl, _, e3⟩, _, e3, ?_, ?_⟩) fun z2 => ?_
        · refine Nat.lt_of_lt_of_le (m := 100) ?_ (sz_ (by decide))
          have l1 : (done.flatMap fun r => if r.kind = k then r.shown ((sd - co) % 32) else []).length ≤ 6 * done.length := flat_le fun r' m' => by
            split
            · unfold Row.shown; rw [List.length_map]
              exact Nat.le_trans (List.length_filter_le ..) ((ok.rows r' (by rw [er]; exact List.mem_append_left _ m')).n1)
            · simp
          have l2 := ok.r1
          have l3 := (ok.rows r (by rw [er]; simp)).n1
          rw [er] at l2
          rw [er'] at l3
          have l4 := List.length_filter_le (fun l => l.at_ ((sd - co) % 32)) dn
          simp only [List.length_append, List.length_cons] at l2 l3
          rw [List.length_map, List.length_append, if_pos zk, List.length_map]
          omega
        · generalize eh4 : up h3 p _ = h4
          obtain ⟨e4, b4⟩ := putf_ eh4
          refine hN' _ _ ⟨dn ++ [l], rs, _, _, _, by rw [er']; simp, rfl, rfl, b3.trans b4, ?_⟩
          have z2' : l.at_ ((sd - co) % 32) = true := z2
          rw [e4, if_pos zk, if_pos zk, List.filter_append]
          simp [z2']
        · refine hN' _ _ ⟨dn ++ [l], rs, _, _, _, by rw [er']; simp, rfl, rfl, b3, ?_⟩
          have z2' : l.at_ ((sd - co) % 32) = false := z2
          rw [e3, if_pos zk, if_pos zk, List.filter_append]
          simp [z2']
      · have zk : ¬ r.kind = k := of_decide_eq_false z
        refine hN' _ _ ⟨dn ++ [l], rs, _, _, _, by rw [er']; simp, rfl, rfl, b3, ?_⟩
        rw [e3, if_neg zk, if_neg zk]
    · rintro ρ h3 ⟨dn, rs, o4, o5, o6, er', ex, rfl, b3, e3⟩
      cases rs with
      | cons _ _ => cases ex
      | nil =>
      rw [List.append_nil] at er'
      subst er'
      refine ⟨trivial, hN _ _ ⟨done ++ [r], rest, _, _, _, _, _, _, by rw [er]; simp, rfl, rfl, b3, ?_⟩⟩
      rw [e3]; simp only [List.flatMap_append, List.flatMap_cons, List.flatMap_nil, List.append_nil]; rfl
  · rintro ρ h2 ⟨done, rest, o1, o2, o3, o4, o5, o6, er, ex, rfl, b2, e2⟩
    cases rest with
    | cons _ _ => cases ex
    | nil =>
    rw [List.append_nil] at er
    refine ⟨trivial, tuple_lst e2 ?_⟩
    rw [← er, fin _ ok.knd]
    exact q h2 (b2.keep np)
end Dl
end
section
local macro_rules | `(tactic| walk_at "s") => `(tactic| first | (decide) | (omega) | (dsimp only; omega) | exact Dl.sz_ (Nat.le_of_ble_eq_true rfl) | (refine Dl.sz_ ?_; simp only [List.length_map, List.length_append, List.length_cons, List.length_nil]; omega))
local macro_rules | `(tactic| walk_at "cmul") => `(tactic| first | exact Or.inr ⟨by decide, by decide⟩ | exact Or.inl ⟨by decide, by decide⟩ | exact Or.inr ⟨by omega, by omega⟩ | exact Or.inl ⟨by omega, by omega⟩)
namespace Dl
open PySem PySem.Spec PyProof.Rows L2
theorem dw_colours (c d : Addr) (k : Int) (x y : D) : valD (dwK c d k [(.inr "colours", x), (.inr "kinds", y)]) (.inr "colours") = some x := by
  unfold dwK valD; rw [if_neg (by decide +kernel)]; unfold valD; rw [if_neg (by decide +kernel)]; unfold valD; rw [if_neg (by decide +kernel)]; unfold valD; rw [if_pos rfl]
theorem dw_kinds (c d : Addr) (k : Int) (x y : D) : valD (dwK c d k [(.inr "colours", x), (.inr "kinds", y)]) (.inr "kinds") = some y := by
  unfold dwK valD; rw [if_neg (by decide +kernel)]; unfold valD; rw [if_neg (by decide +kernel)]; unfold valD; rw [if_neg (by decide +kernel)]; unfold valD; rw [if_neg (by decide +kernel)]; unfold valD; rw [if_pos rfl]
theorem two_ {b : Bool} : ∃ m : Int, (m = 4 ∨ m = 6) ∧ atI [D.int 4, .int 6] (if b then 1 else 0) = some (.int m) := by
  cases b
  · exact ⟨4, .inl rfl, rfl⟩
  · exact ⟨6, .inr rfl, rfl⟩
theorem cut_to {α : Type} {f : α → D} {xs : List α} {r : Int} (r0 : 0 ≤ r) : cutD (xs.map f) none (some r) = (xs.take r.toNat).map f := by
  obtain ⟨k, rfl⟩ : ∃ k : Nat, r = k := ⟨r.toNat, by omega⟩
  rw [cutD_to, List.map_take]; rfl
theorem pure_Lfleet (ca : CA) : ∀ ds h Q E, sp_Lfleet ca ds h Q E → t_Lfleet ca E { nx := fun _ h' => Q .non h', rt := Q } (dstart ["_law_m", "_law_great", "_law_colours", "_law_rows", "_law_name", "_law_turn"] ds) h := by
  intro vs h Q E hh
  unfold sp_Lfleet at hh
  obtain ⟨a, c, d, x, y, ns, ks, n, rfl, w, q⟩ := hh
  refine drawm_ w ⟨by decide, by decide⟩ fun h1 g w1 k1 g0 g1 => eq_int ?_
  generalize decide (g = 0) = b
  obtain ⟨kk, cs, ds, e1, _⟩ := w1.w.ex
  refine ⟨_, _, e1, dw_colours .., ?_⟩
  clear e1
  refine ⟨by walk_at "s", fun p np => ?_⟩
  generalize eh : up h1 p _ = h2
  obtain ⟨k2, e2, b2⟩ := newf_ np eh
  have w2 := w1.keep k2
  have z2 := w1.ne np
  obtain ⟨m, hm, em⟩ := two_ (b := b)
  refine ix_lst e2 em (drawm_ w2 ⟨by omega, by omega⟩ fun h3 r w3 k3 r0 r1 => ?_)
  have kk3 := k1.trans ((k2.two a d).trans k3)
  refine sl_lst w3.hx fun pc nc => ?_
  rw [cut_to (by omega)]
  generalize eh4 : up h3 pc _ = h4
  obtain ⟨k4, e4, b4⟩ := newf_ nc eh4
  have w4 := w3.keep k4
  have z4 := w3.ne nc
  have kk4 := kk3.trans (k4.two a d)
  refine tuple_lst e4 ?_
  have cl : 1 ≤ (ns.take (1 + r).toNat).length ∧ (ns.take (1 + r).toNat).length ≤ 6 := by
    rw [List.length_take, w.n1.len]; omega
  have cnd : (ns.take (1 + r).toNat).Nodup := w.n1.nd.sublist (List.take_sublist ..)
  have cnm : ∀ x ∈ ns.take (1 + r).toNat, Nm x ∧ x ∉ bars := fun x m => ⟨w.n1.nm x (List.mem_of_mem_take m), w.n1.bar x (List.mem_of_mem_take m)⟩
  generalize ns.take (1 + r).toNat = cols at cl cnd cnm ⊢
  refine ⟨by walk_at "s", fun pr nr => ?_⟩
  generalize eh5 : up h4 pr _ = h5
  obtain ⟨k5, e5, b5⟩ := newf_ nr eh5
  have w5 := w4.keep k5
  have z5 := w4.ne nr
  have kk5 := kk4.trans (k5.two a d)
  obtain ⟨kk, cs, ds, e1, _⟩ := w5.w.ex
  refine ⟨_, _, e1, dw_kinds .., ?_⟩
  clear e1
  refine ⟨by walk_at "s", fun p' np' => ?_⟩
  generalize eh6 : up h5 p' _ = h6
  obtain ⟨k6, e6, b6⟩ := newf_ np' eh6
  have w6 := w5.keep k6
  obtain ⟨m', hm', em'⟩ := two_ (b := b)
  refine ix_lst e6 em' (drawm_ w6 ⟨by omega, by omega⟩ fun h7 r' w7 k7 r0' r1' => ?_)
  have kk7 := kk5.trans ((k6.two a d).trans k7)
  have e7 : h7 pr = some (.lst []) := k7 _ _ z5.a z5.d (k6 _ _ e5)
  refine sl_lst w7.hy fun pk nk => ?_
  rw [cut_to (by omega)]
  generalize eh8 : up h7 pk _ = h8
  obtain ⟨k8, e8, b8⟩ := newf_ nk eh8
  have w8 := w7.keep k8
  have z8 := w7.ne nk
  have kk8 := kk7.trans (k8.two a d)
  have fpr : h pr = none := kk4.fresh nr z5.ad
  have fpk : h pk = none := kk7.fresh nk z8.ad
  have prk : pr ≠ pk := by rintro rfl; rw [e7] at nk; cases nk
  have kl : 1 ≤ (ks.take (1 + r').toNat).length ∧ (ks.take (1 + r').toNat).length ≤ 6 := by
    rw [List.length_take, w.n2.len]; omega
  have knd : (ks.take (1 + r').toNat).Nodup := w.n2.nd.sublist (List.take_sublist ..)
  have knm : ∀ x ∈ ks.take (1 + r').toNat, Nm x ∧ x ∉ bars := fun x m => ⟨w.n2.nm x (List.mem_of_mem_take m), w.n2.bar x (List.mem_of_mem_take m)⟩
  generalize ks.take (1 + r').toNat = kinds at kl knd knm e8 ⊢
  refine ⟨_, e8, ?_⟩
  refine loop_ (fun xs ρ h' => ∃ (rest : List Str) (rows : List Row) (o1 o2 : Option D), xs = rest.map D.str ∧ rows.map Row.kind ++ rest = kinds ∧ (∀ r ∈ rows, r.ok cols) ∧ ρ = [some (.ref a), some (.int (if b then 1 else 0)), some (.tup (cols.map D.str)), some (.ref pr), o1, o2] ∧ Dm h' a c d x y ns ks (n + 22 * rest.length) ∧ Keep2 a d h h' ∧ h' pr = some (.lst (rows.map Row.d)) ∧ h' pk = some (.lst (kinds.map D.str))) ?_ ?_ _ _ _ ⟨kinds, [], none, none, rfl, rfl, by simp, rfl, w8.less (by omega), kk8, k8 _ _ e7, e8⟩
  · rintro xx xs ρ h9 N ⟨rest, rows, o1, o2, ex, er, rok, rfl, w9, k9, er9, ek9⟩ hN
    cases rest with
    | nil => cases ex
    | cons s rest =>
    rw [List.map_cons] at ex
    obtain ⟨rfl, rfl⟩ := List.cons.inj ex
    have rl : rows.length + (rest.length + 1) = kinds.length := by rw [← er]; simp
    rw [List.length_cons] at w9
    refine ⟨ek9, drawm_ (w9.less (m := n + 22 * rest.length + 21 + 1) (by omega)) ⟨by decide, by decide⟩ fun h10 z w10 k10 z0 z1 => ?_⟩
    refine ⟨by walk_at "s", fun pt nt => ?_⟩
    generalize eh11 : up h10 pt _ = h11
    obtain ⟨k11, e11, b11⟩ := newf_ nt eh11
    have w11 := w10.keep k11
    have z11 := w10.ne nt
    refine drawm_ w11 ⟨by decide, by decide⟩ fun h12 i w12 k12 i0 i1 => ?_
    obtain ⟨t, t0, t1, et⟩ : ∃ t : Int, 0 ≤ t ∧ t ≤ 16 ∧ atI [D.int 0, .int 1, .int 2, .int 4, .int 16, .int z] i = some (.int t) := by
      obtain ⟨k, rfl⟩ : ∃ k : Nat, i = k := ⟨i.toNat, by omega⟩
      match k, i1 with
      | 0, _ => exact ⟨0, by decide, by decide, rfl⟩
      | 1, _ => exact ⟨1, by decide, by decide, rfl⟩
      | 2, _ => exact ⟨2, by decide, by decide, rfl⟩
      | 3, _ => exact ⟨4, by decide, by decide, rfl⟩
      | 4, _ => exact ⟨16, by decide, by decide, rfl⟩
      | 5, _ => exact ⟨z, z0, by omega, rfl⟩
      | k + 6, l => omega
    have k12' : Keep2 a d h9 h12 := k10.trans ((k11.two a d).trans k12)
    refine ix_lst (k12 _ _ z11.a z11.d e11) et ?_
    refine ⟨⟨rfl, _, k12' _ _ z5.a z5.d er9⟩, lamps_ (n := n + 22 * rest.length) w12 ⟨k12' _ _ z5.a z5.d er9, z5.a, z5.d⟩ cl (by omega) rok fun h13 ls w13 k13 ln lok => ?_⟩
    have k13' := k12'.trans k13
    refine ⟨by walk_at "s", _, k13' _ _ z5.a z5.d er9, by rw [List.length_map, szL]; omega, ?_⟩
    generalize eh14 : up h13 pr _ = h14
    obtain ⟨e14, b14⟩ := putf_ eh14
    refine hN _ _ ⟨rest, rows ++ [⟨s, t, ls⟩], _, _, rfl, by rw [← er]; simp, fun r m => ?_, rfl, w13.but z5 b14, (k9.trans k13').but fpr b14, by rw [e14, List.map_append]; rfl, by rw [b14 _ prk.symm]; exact k13' _ _ z8.a z8.d ek9⟩
    rcases List.mem_append.mp m with m | m
    · exact rok _ m
    · obtain rfl := List.mem_singleton.mp m
      exact ⟨t0, t1, ln.1, ln.2, lok⟩
  · rintro ρ h9 ⟨rest, rows, o1, o2, ex, er, rok, rfl, w9, k9, er9, ek9⟩
    cases rest with
    | cons _ _ => cases ex
    | nil =>
    rw [List.append_nil] at er
    have rl : rows.length = kinds.length := by rw [← er, List.length_map]
    refine ⟨ek9, tuple_lst er9 ⟨by walk_at "s", q h9 ⟨cols, rows⟩ (w9.less (by omega)) k9 ⟨cl.1, cl.2, cnd, cnm, by show 1 ≤ rows.length; omega, by show rows.length ≤ 6; omega, by show (rows.map Row.kind).Nodup; rw [er]; exact knd, fun r m => ?_, rok⟩⟩⟩
    exact knm r.kind (by rw [← er]; exact List.mem_map_of_mem m)
end Dl
end
section
local macro_rules | `(tactic| walk_at "s") => `(tactic| first | (decide) | (omega) | (dsimp only; omega) | exact Dl.sz_ (Nat.le_of_ble_eq_true rfl) | (refine Dl.sz_ ?_; simp only [List.length_map, List.length_append, List.length_cons, List.length_nil]; omega))
local macro_rules | `(tactic| walk_at "cmul") => `(tactic| first | exact Or.inr ⟨by decide, by decide⟩ | exact Or.inl ⟨by decide, by decide⟩ | exact Or.inr ⟨by omega, by omega⟩ | exact Or.inl ⟨by omega, by omega⟩)
namespace Dl
open PySem PySem.Spec PyProof.Rows L2
theorem keep_of2 {h h1 h2 : Hd} {a d : Addr} (k : Keep h h1) (k2 : Keep2 a d h1 h2) (na : h a = none) (nd : h d = none) : Keep h h2 := fun b o e =>
  k2 b o (by rintro rfl; rw [na] at e; cases e) (by rintro rfl; rw [nd] at e; cases e) (k b o e)
theorem keep_but {h h1 h2 : Hd} {a : Addr} (k : Keep h h1) (b : But a h1 h2) (na : h a = none) : Keep h h2 := fun c o e => by
  rw [b c (by rintro rfl; rw [na] at e; cases e)]; exact k c o e
theorem keep_none {h h1 : Hd} {p : Addr} (k : Keep h h1) (n : h1 p = none) : h p = none := by
  cases e : h p with
  | none => rfl
  | some o => rw [k _ _ e] at n; cases n
theorem put_colours (c d : Addr) (k : Int) (x : D) : putKD (dwK c d k []) (.inr "colours") x = dwK c d k [(.inr "colours", x)] := by
  unfold dwK putKD; rw [if_neg (by decide +kernel)]; unfold putKD; rw [if_neg (by decide +kernel)]; unfold putKD; rw [if_neg (by decide +kernel)]; rfl
theorem put_kinds (c d : Addr) (k : Int) (x y : D) : putKD (dwK c d k [(.inr "colours", x)]) (.inr "kinds") y = dwK c d k [(.inr "colours", x), (.inr "kinds", y)] := by
  unfold dwK putKD; rw [if_neg (by decide +kernel)]; unfold putKD; rw [if_neg (by decide +kernel)]; unfold putKD; rw [if_neg (by decide +kernel)]; unfold putKD; rw [if_neg (by decide +kernel)]; rfl
theorem nd0 (c d : Addr) (k : Int) : ((dwK c d k []).map (·.1)).Nodup := by
  show List.Nodup [(.inr "cells" : Key), .inr "digits", .inr "at"]; decide +kernel
theorem nd1 (c d : Addr) (k : Int) (x : D) : ((dwK c d k [(.inr "colours", x)]).map (·.1)).Nodup := by
  show List.Nodup [(.inr "cells" : Key), .inr "digits", .inr "at", .inr "colours"]; decide +kernel
theorem nd2 (c d : Addr) (k : Int) (x y : D) : ((dwK c d k [(.inr "colours", x), (.inr "kinds", y)]).map (·.1)).Nodup := by
  show List.Nodup [(.inr "cells" : Key), .inr "digits", .inr "at", .inr "colours", .inr "kinds"]; decide +kernel
theorem toP_sc {h : Hd} {n : Nat} {ds : List D} {ps : List PyData} (m : mapO (toP h n) ds = some ps) : toP h (n + 1) (.sc ds) = some (.list ps) := by
  simp only [toP, m, Option.map_some]
theorem pure_Lbegun (ca : CA) : ∀ ds h Q E, sp_Lbegun ca ds h Q E → t_Lbegun ca E { nx := fun _ h' => Q .non h', rt := Q } (dstart ["_law_script", "_law_m", "_law_seeds", "_law_k"] ds) h := by
  intro vs h Q E hh
  unfold sp_Lbegun at hh
  obtain ⟨ns, rfl, ln, q⟩ := hh
  intro a na
  generalize eh1 : up h a _ = h1
  obtain ⟨k1, e1, b1⟩ := newf_ na eh1
  refine folded_ ln fun pc h2 cs npc k2 ec lc => ?_
  refine ⟨by walk_at "s", fun pd npd => ?_⟩
  generalize eh3 : up h2 pd _ = h3
  obtain ⟨k3, e3, b3⟩ := newf_ npd eh3
  refine ⟨k3 _ _ (k2 _ _ e1), rfl, ?_⟩
  generalize eh4 : up h3 a _ = h4
  obtain ⟨e4', b4⟩ := putf_ eh4
  have e4 : h4 a = some (.dik (dwK pc pd 0 [])) := e4'
  have pca : pc ≠ a := by rintro rfl; rw [e1] at npc; cases npc
  have pda : pd ≠ a := by rintro rfl; rw [k2 _ _ e1] at npd; cases npd
  have pcd : pc ≠ pd := by rintro rfl; rw [ec] at npd; cases npd
  have nc : h pc = none := keep_none k1 npc
  have nd : h pd = none := keep_none (k1.trans k2) npd
  have kk4 : Keep h h4 := keep_but (k1.trans (k2.trans k3)) b4 na
  have ec4 : h4 pc = some (.lst (cs.map D.int)) := by rw [b4 _ pca]; exact k3 _ _ ec
  have w4 : Dw h4 a pc pd [] (2 ^ 40) := ⟨⟨0, cs, [], e4, ec4, by rw [b4 _ pda]; exact e3, lc, by simp, by decide, by decide⟩, pca.symm, pda.symm, pcd, by simp, nd0 pc pd⟩
  clear e1 b1 k2 ec k3 e3 b3 e4' b4 eh1 eh3 eh4
  have REST2 : ∀ h7 (d ps : Addr) (s0 s1 : Int) o, h d = none → Dw h7 a pc d [] (2 ^ 39) → Keep h h7 → h7 ps = some (.lst [.int s0, .int s1]) → ps ≠ a → (0 ≤ s0 ∧ s0 < 1000000) → (0 ≤ s1 ∧ s1 < 1000000) → (dSeq (dputS (dVar 1) (dC (.str "colours")) (dCall (sp_Lnames ca) (fun cls fs _ h => E cls fs h) (dCons (dOp ixD (dVar 2) (dC (.int 0))) (dCons (dC (.int 6)) dNil))))
    (dSeq (dputS (dVar 1) (dC (.str "kinds")) (dCall (sp_Lnames ca) (fun cls fs _ h => E cls fs h) (dCons (dOp ixD (dVar 2) (dC (.int 1))) (dCons (dC (.int 6)) dNil))))
    (dRet (dVar 1)))) { nx := fun _ h' => Q .non h', rt := Q } [some (.sc (ns.map D.int)), some (.ref a), some (.ref ps), o] h7 := by
    intro h7 d ps s0 s1 o nd7 w7 kk7 es psa b0 b1
    refine ix_lst es (at_nn (x := .int s0) (by decide) rfl) ?_
    refine names_ b0 fun x h8 xs nx k8 ex n8 => ?_
    have w8 := w7.keep k8
    obtain ⟨k, cs', ds, f1, f2, f3, l1, l2, l3, l4⟩ := w8.ex
    refine ⟨_, f1, by walk_at "s", nd0 .., ?_⟩
    rw [put_colours]
    generalize eh9 : up h8 a _ = h9
    obtain ⟨e9, b9⟩ := putf_ eh9
    have xa : x ≠ a := (w7.ne nx).1
    have xc := (w7.ne nx).2.1
    have xd := (w7.ne nx).2.2
    refine ix_lst (by rw [b9 _ psa]; exact k8 _ _ es) (at_nn (x := .int s1) (by decide) rfl) ?_
    refine names_ b1 fun y h10 ys ny k10 ey n10 => ?_
    refine ⟨_, k10 _ _ e9, by walk_at "s", nd1 .., ?_⟩
    rw [put_kinds]
    generalize eh11 : up h10 a _ = h11
    obtain ⟨e11, b11⟩ := putf_ eh11
    have ya : y ≠ a := by rintro rfl; rw [e9] at ny; cases ny
    have yd : y ≠ d := by rintro rfl; rw [b9 _ w7.ad.symm, f3] at ny; cases ny
    refine q a pc d x y xs ys h11 na (keep_but (keep_but (kk7.trans k8) b9 na |>.trans k10) b11 na) ⟨⟨⟨k, cs', ds, e11, ?_, ?_, l1, l2, l3, l4⟩, w7.ac, w7.ad, w7.cd, by simp, fun k => nd2 ..⟩, ?_, ?_, xd, yd, n8, n10⟩
    · rw [b11 _ w7.ac.symm]; exact k10 _ _ (by rw [b9 _ w7.ac.symm]; exact f2)
    · rw [b11 _ w7.ad.symm]; exact k10 _ _ (by rw [b9 _ w7.ad.symm]; exact f3)
    · rw [b11 _ xa]; exact k10 _ _ (by rw [b9 _ xa]; exact ex)
    · rw [b11 _ ya]; exact ey
  have REST : ∀ h5 (d : Addr), h d = none → Dw h5 a pc d [] (2 ^ 40) → Keep h h5 → (dSeq (dAsg (dLc (dRng1 (dCons (dC (.int 2)) dNil)) (.one 3) dYes (dCall (sp_Ldraw ca) W0 (dCons (dVar 1) (dCons (dOp powD (dC (.int 10)) (dC (.int 6))) dNil)))) (dgName 2))
    (dSeq (dIfS (dB (dOp eqD (dCall (sp_Ldraw ca) (fun cls fs _ h => E cls fs h) (dCons (dVar 1) (dCons (dC (.int 4)) dNil))) (dC (.int 0))))
    (dAsg (dOp mulD (dSl (dVar 2) dNoP (dP (dC (.int 1)))) (dC (.int 2))) (dgName 2))
    dNext)
    (dSeq (dputS (dVar 1) (dC (.str "colours")) (dCall (sp_Lnames ca) (fun cls fs _ h => E cls fs h) (dCons (dOp ixD (dVar 2) (dC (.int 0))) (dCons (dC (.int 6)) dNil))))
    (dSeq (dputS (dVar 1) (dC (.str "kinds")) (dCall (sp_Lnames ca) (fun cls fs _ h => E cls fs h) (dCons (dOp ixD (dVar 2) (dC (.int 1))) (dCons (dC (.int 6)) dNil))))
    (dRet (dVar 1)))))) { nx := fun _ h' => Q .non h', rt := Q } [some (.sc (ns.map D.int)), some (.ref a), none, none] h5 := by
    intro h5 d nd5 w5 kk5
    refine ⟨⟨by decide, by decide⟩, fun ps nps => ?_⟩
    have zs := w5.ne nps
    have fs := keep_none kk5 nps
    have w5' : Dw (up h5 ps (.lst [])) a pc d [] (2 ^ 40) := w5.keep (keep_new nps)
    refine lc_ (fun xs acc h' => ∃ ss : List Int, acc = ss.map D.int ∧ ss.length + xs.length = 2 ∧ (∀ s ∈ ss, 0 ≤ s ∧ s < 1000000) ∧ Dw h' a pc d [] (2 ^ 40 - 2 + xs.length) ∧ Keep h h') ?_ ?_ _ _ _ ⟨[], rfl, rfl, by simp, w5', kk5.trans (keep_new nps)⟩ up_same
    · rintro xx xs acc h6 Ak Sk ⟨ss, rfl, l6, b6, w6, k6⟩ e6 hA hS
      refine ⟨trivial, ⟨by decide, by decide, by decide⟩, draw_ (n := 2 ^ 40 - 2 + xs.length) w6 ⟨by decide, by decide⟩ fun h7 r w7 k7 r0 r1 => ?_⟩
      refine ⟨k7 _ _ zs.1 zs.2.2 e6, hA _ _ _ ⟨ss ++ [r], by rw [List.map_append]; rfl, by rw [List.length_append]; simp only [List.length_cons, List.length_nil] at l6 ⊢; omega, fun s m => ?_, w7.but zs fun b z => up_ne z, keep_but (keep_of2 k6 k7 na nd5) (fun b z => up_ne z) fs⟩ up_same rfl⟩
      rcases List.mem_append.mp m with m | m
      · exact b6 _ m
      · obtain rfl := List.mem_singleton.mp m; exact ⟨r0, r1⟩
    · rintro acc h6 ⟨ss, rfl, l6, b6, w6, k6⟩ e6
      obtain ⟨s0, s1, rfl⟩ : ∃ s0 s1, ss = [s0, s1] := by
        match ss, l6 with
        | [s0, s1], _ => exact ⟨s0, s1, rfl⟩
      have h0 := b6 s0 (by simp)
      have h1 := b6 s1 (by simp)
      refine ⟨trivial, draw_ (n := 2 ^ 40 - 3) (w6.less (by decide)) ⟨by decide, by decide⟩ fun h7 r w7 k7 r0 r1 => eq_int ?_⟩
      have e7 := k7 _ _ zs.1 zs.2.2 e6
      have kk7 := keep_of2 k6 k7 na nd5
      refine if_b (fun z => ?_) fun z => REST2 h7 d ps s0 s1 _ nd5 (w7.less (by decide)) kk7 e7 zs.1 h0 h1
      refine sl_lst e7 fun p8 np8 => ?_
      generalize eh8 : up h7 p8 _ = h8
      obtain ⟨k8, e8, b8⟩ := newf_ np8 eh8
      refine ⟨_, e8, ⟨by decide, by decide⟩, by walk_at "s", fun p9 np9 => ?_⟩
      generalize eh9 : up h8 p9 _ = h9
      obtain ⟨k9, e9, b9⟩ := newf_ np9 eh9
      exact REST2 h9 d p9 s0 s0 _ nd5 ((w7.keep (k8.trans k9)).less (by decide)) (kk7.trans (k8.trans k9)) e9 (w7.keep k8 |>.ne np9).1 h0 h0
  refine ⟨by walk_at "s", fun pe npe => ?_⟩
  generalize eh5 : up h4 pe _ = h5
  obtain ⟨k5, e5, b5⟩ := newf_ npe eh5
  have w5 := w4.keep k5
  refine ne_ (b := !(ns.isEmpty)) (p := .list (ns.map PyData.int)) (q := .list []) (toP_sc (mapO_int ns)) (toP_lst (ps := []) e5 rfl) (by rw [Bool.not_not]; exact eqvAll_empty ns) ?_
  refine if_b (fun z => ?_) fun z => REST h5 pd nd w5 (kk4.trans k5)
  obtain ⟨n0, nr, rfl⟩ : ∃ n0 nr, ns = n0 :: nr := by cases ns with | nil => cases z | cons a b => exact ⟨a, b, rfl⟩
  refine ix_sc (at_nn (x := .int n0) (by decide) rfl) ?_
  refine ⟨by walk_at "s", eq_int (if_b (fun z2 => ?_) fun z2 => REST h5 pd nd w5 (kk4.trans k5))⟩
  refine ix_sc (at_nn (x := .int n0) (by decide) rfl) ?_
  refine ⟨⟨by decide, by decide⟩, by walk_at "s", fun p6 n6 => ?_⟩
  generalize eh6 : up h5 p6 _ = h6
  obtain ⟨k6, e6, b6⟩ := newf_ n6 eh6
  refine sl_sc fun p7 n7 => ?_
  generalize eh7 : up h6 p7 _ = h7
  obtain ⟨k7, e7', b7⟩ := newf_ n7 eh7
  have e7 : h7 p7 = some (.lst (nr.map D.int)) := by rw [e7', show cutD ((n0 :: nr).map D.int) (some 1) none = _ from cutD_from _ 1]; rfl
  refine ⟨_, _, k7 _ _ e6, e7, by rw [List.length_map, szL]; simp at ln ⊢; omega, fun p8 n8 => ?_⟩
  generalize eh8 : up h7 p8 _ = h8
  obtain ⟨k8, e8, b8⟩ := newf_ n8 eh8
  have kk8 := k5.trans (k6.trans (k7.trans k8))
  have w8 := w4.keep kk8
  have zz := (w4.keep (k5.trans (k6.trans k7))).ne n8
  refine ⟨_, kk8 _ _ e4, by walk_at "s", nd0 .., ?_⟩
  rw [dw_put_digits]
  generalize eh9 : up h8 a _ = h9
  obtain ⟨e9, b9⟩ := putf_ eh9
  refine REST h9 p8 (keep_none (kk4.trans (k5.trans (k6.trans k7))) n8) ⟨⟨0, cs, n0 / 2 :: nr, e9, by rw [b9 _ pca]; exact kk8 _ _ ec4, by rw [b9 _ zz.1]; exact e8, lc, by simp at ln ⊢; omega, by decide, by decide⟩, pca.symm, zz.1.symm, zz.2.1.symm, by simp, nd0 pc p8⟩ (keep_but (kk4.trans kk8) b9 na)
end Dl
end
section
local macro_rules | `(tactic| walk_at "s") => `(tactic| first | (decide) | (omega) | (dsimp only; omega) | exact Dl.sz_ (Nat.le_of_ble_eq_true rfl) | (refine Dl.sz_ ?_; simp only [List.length_map, List.length_append, List.length_cons, List.length_nil]; omega))
local macro_rules | `(tactic| walk_at "cmul") => `(tactic| first | exact Or.inr ⟨by decide, by decide⟩ | exact Or.inl ⟨by decide, by decide⟩ | exact Or.inr ⟨by omega, by omega⟩ | exact Or.inl ⟨by omega, by omega⟩)
namespace Dl
open PySem PySem.Spec PyProof.Rows L2
def ch (i : Int) : Nat := 97 + (i % 26).toNat
abbrev sg (c : Nat) : Str := ⟨#[c]⟩
theorem ch_lo (i : Int) : 97 ≤ ch i := by unfold ch; omega
theorem ch_hi (i : Int) : ch i ≤ 122 := by unfold ch; omega
theorem ltr_ix : ∀ k : Nat, k < 26 → ("abcdefghijklmnopqrstuvwxyz" : Str).cps.toList[k]? = some (97 + k) := by decide +kernel
theorem ltr_at (i : Int) : atI ("abcdefghijklmnopqrstuvwxyz" : Str).cps.toList (i % 26) = some (ch i) := by
  refine at_nn (by omega) ?_
  rw [ltr_ix _ (by omega)]; rfl
theorem ltr_at' {i : Int} (h0 : 0 ≤ i) (h1 : i < 26) : atI ("abcdefghijklmnopqrstuvwxyz" : Str).cps.toList i = some (97 + i.toNat) := by
  refine at_nn h0 ?_
  rw [ltr_ix _ (by omega)]
theorem join_sg : ∀ cs : List Nat, Str.join "" (cs.map sg) = ⟨cs.toArray⟩
  | [] => rfl
  | [c] => rfl
  | c :: d :: r => by
    have e : Str.join "" ((c :: d :: r).map sg) = sg c ++ "" ++ Str.join "" ((d :: r).map sg) := rfl
    rw [e, join_sg (d :: r)]
    show (⟨(#[c] ++ #[]) ++ (d :: r).toArray⟩ : Str) = _
    simp
theorem bars_len : ∀ b ∈ bars, 4 ≤ b.length ∧ b.cps.toList[0]? ≠ b.cps.toList[1]? := by decide +kernel
theorem nodup_range {α : Type} {g : Nat → α} (inj : ∀ i j, i < 6 → j < 6 → g i = g j → i = j) : ((List.range 6).map g).Nodup := by
  rw [List.nodup_iff_pairwise_ne, List.pairwise_map]
  exact List.Pairwise.imp_of_mem (fun {i j} mi mj l e => by
    have := inj i j (List.mem_range.mp mi) (List.mem_range.mp mj) e
    omega) (List.pairwise_lt_range (n := 6))
theorem rep_list (c k : Nat) : (strRep (sg c) k).cps.toList = List.replicate k c := by
  show ((List.replicate k [c]).flatten.toArray).toList = _
  rw [List.toList_toArray]
  induction k with
  | zero => rfl
  | succ k ih => rw [List.replicate_succ, List.flatten_cons, ih]; rfl
theorem str_len (x : Str) : x.length = x.cps.toList.length := (Array.length_toList).symm
theorem namesA (c : Int) : Nms ((List.range 6).map fun k : Nat => strRep (sg (ch (c / 4 - k))) (1 + k)) := by
  have ln : ∀ (d k : Nat), (strRep (sg d) k).length = k := fun d k => by rw [str_len, rep_list, List.length_replicate]
  refine ⟨by simp, nodup_range fun i j _ _ e => ?_, fun x m => ?_, fun x m => ?_⟩
  · have := congrArg Str.length e
    rw [ln, ln] at this; omega
  · obtain ⟨k, hk, rfl⟩ := List.mem_map.mp m
    have := List.mem_range.mp hk
    refine ⟨by rw [ln]; omega, fun d hd => ?_⟩
    rw [rep_list] at hd
    rw [(List.mem_replicate.mp hd).2]
    exact ⟨ch_lo _, ch_hi _⟩
  · obtain ⟨k, hk, rfl⟩ := List.mem_map.mp m
    intro mb
    obtain ⟨l4, ne⟩ := bars_len _ mb
    rw [ln] at l4
    apply ne
    rw [rep_list, List.getElem?_replicate, List.getElem?_replicate, if_pos (by omega), if_pos (by omega)]
def nmB (rc : List Nat) (at_ size : Nat) (c : Nat) : Str := ⟨(rc.take at_ ++ [c] ++ (rc.drop (at_ + 1)).take (size - (at_ + 1))).toArray⟩
theorem namesB {rc : List Nat} {at_ size : Nat} {c : Int} (l : rc.length = 6) (hc : ∀ d ∈ rc, 97 ≤ d ∧ d ≤ 122) (ha : at_ < size) (hs : size ≤ 6) (nb : ∀ x ∈ (List.range 6).map fun k : Nat => nmB rc at_ size (ch (c + k)), x ∉ bars) :
    Nms ((List.range 6).map fun k : Nat => nmB rc at_ size (ch (c + k))) := by
  refine ⟨by simp, nodup_range fun i j hi hj e => ?_, fun x m => ?_, nb⟩
  · have e1 := congrArg (fun s : Str => s.cps.toList) e
    simp only [nmB, List.append_assoc] at e1
    have e2 := List.append_cancel_left e1
    have e3 := (List.cons.inj e2).1
    unfold ch at e3; omega
  · obtain ⟨k, hk, rfl⟩ := List.mem_map.mp m
    refine ⟨?_, fun d hd => ?_⟩
    · rw [str_len]
      simp only [nmB, List.length_append, List.length_take, List.length_drop, List.length_cons, List.length_nil, l]
      omega
    · simp only [nmB] at hd
      rcases List.mem_append.mp hd with hd | hd
      · rcases List.mem_append.mp hd with hd | hd
        · exact hc _ (List.mem_of_mem_take hd)
        · rw [List.mem_singleton.mp hd]; exact ⟨ch_lo _, ch_hi _⟩
      · exact hc _ (List.mem_of_mem_drop (List.mem_of_mem_take hd))
theorem namesF : Nms ((List.range 6).map fun k : Nat => ("f" : Str) ++ sg (97 + k)) := by
  refine ⟨by decide +kernel, by decide +kernel, ?_, by decide +kernel⟩
  unfold Nm
  decide +kernel
theorem bar_filter : ∀ found : List Str, (found.map D.str).filterMap (fun x => match x with | .str s => if s ∈ bars then some (D.str s) else none | _ => none) = (found.filter fun s => decide (s ∈ bars)).map D.str
  | [] => rfl
  | s :: r => by
    rw [List.map_cons, List.filterMap_cons, List.filter_cons]
    by_cases z : s ∈ bars
    · simp only [if_pos z, decide_true, if_true, List.map_cons, bar_filter r, z]
    · simp only [if_neg z, z, decide_false, bar_filter r]; rfl
theorem pure_Lnames (ca : CA) : ∀ ds h Q E, sp_Lnames ca ds h Q E → t_Lnames ca E { nx := fun _ h' => Q .non h', rt := Q } (dstart ["_law_cell", "_law_many", "_law_letters", "_law_size", "_law_at", "_law_row", "_law_found", "_law_k", "_law_sign", "_law_bars", "_law_j", "_law_name"] ds) h := by
  intro vs h Q E hh
  unfold sp_Lnames at hh
  obtain ⟨c, rfl, ⟨c0, c1⟩, q⟩ := hh
  refine ⟨by walk_at "s", eq_int (if_b (fun z => ?_) fun z => ?_)⟩
  · refine ⟨⟨by decide, by decide⟩, fun p np => lcp_ (h0 := h) (fun x => match x with | .int i => some (.str (strRep (sg (ch (c / 4 - i))) (1 + i).toNat)) | _ => none) (fun x m h1 A S b ha hs => ?_) (fun h1 b1 e1 => ?_) _ (But.refl p h).up up_same⟩
    · obtain ⟨k, lk, rfl⟩ := rng_mem m
      refine ⟨trivial, ⟨by decide, by decide⟩, by walk_at "s", ?_⟩
      refine ix_str (ltr_at _) ?_
      exact ⟨⟨by omega, by omega, Nat.le_of_ble_eq_true rfl⟩, ha _ rfl⟩
    · exact ⟨trivial, q p h1 _ np (b1.keep np) (by rw [e1]; rfl) (namesA c)⟩
  refine ⟨⟨by decide, by decide⟩, by walk_at "s", ⟨by decide, by decide⟩, by walk_at "s", by walk_at "s", fun p1 np1 => ?_⟩
  generalize eh1 : up h p1 _ = h1
  obtain ⟨k1, e1, b1⟩ := newf_ np1 eh1
  obtain ⟨at_, a0, a1, ea⟩ : ∃ t : Int, 0 ≤ t ∧ t < 1 + c / 3 % 6 ∧ atI [D.int (c / 18 % (1 + c / 3 % 6)), .int 0, .int (1 + c / 3 % 6 - 1)] (c % 3) = some (.int t) := by
    obtain ⟨k, hk⟩ : ∃ k : Nat, c % 3 = k := ⟨(c % 3).toNat, by omega⟩
    rw [hk]
    match k, (show (k : Int) < 3 by omega) with
    | 0, _ => exact ⟨_, Int.emod_nonneg _ (by omega), Int.emod_lt_of_pos _ (by omega), rfl⟩
    | 1, _ => exact ⟨0, by decide, by omega, rfl⟩
    | 2, _ => exact ⟨_, by omega, by omega, rfl⟩
    | k + 3, l => omega
  refine ⟨by walk_at "s", ix_lst e1 ea ?_⟩
  have z0 : 1 ≤ 1 + c / 3 % 6 ∧ 1 + c / 3 % 6 ≤ 6 := by omega
  generalize 1 + c / 3 % 6 = size at a1 z0 ⊢
  clear ea eh1 e1
  refine ⟨⟨by decide, by decide⟩, fun p2 np2 => lcp_ (h0 := h1) (fun x => match x with | .int i => some (.str (sg (ch (c / 7 + 5 * i)))) | _ => none) (fun x m h2 A S b ha hs => ?_) (fun h2 b2 e2' => ?_) _ (But.refl p2 h1).up up_same⟩
  · obtain ⟨k, lk, rfl⟩ := rng_mem m
    refine ⟨trivial, ⟨by decide, by decide⟩, by walk_at "cmul", by walk_at "s", ?_⟩
    exact ix_str (ltr_at _) (ha _ rfl)
  obtain ⟨rc, l6, hc, e2⟩ : ∃ rc : List Nat, rc.length = 6 ∧ (∀ d ∈ rc, 97 ≤ d ∧ d ≤ 122) ∧ h2 p2 = some (.lst (rc.map fun d => D.str (sg d))) := by
    refine ⟨(List.range 6).map fun k : Nat => ch (c / 7 + 5 * (0 + (k : Int))), by simp, fun d m => ?_, by rw [e2']; rfl⟩
    obtain ⟨k, _, rfl⟩ := List.mem_map.mp m
    exact ⟨ch_lo _, ch_hi _⟩
  have k2 : Keep h h2 := k1.trans (b2.keep np2)
  refine ⟨trivial, by walk_at "s", fun p3 np3 => ?_⟩
  generalize eh3 : up h2 p3 _ = h3
  obtain ⟨k3, e3, b3⟩ := newf_ np3 eh3
  have p32 : p3 ≠ p2 := by rintro rfl; rw [e2] at np3; cases np3
  have fp3 := keep_none k2 np3
  refine ⟨⟨by decide, by decide⟩, ?_⟩
  obtain ⟨an, rfl⟩ : ∃ an : Nat, at_ = an := ⟨at_.toNat, by omega⟩
  obtain ⟨sz, rfl⟩ : ∃ sz : Nat, size = sz := ⟨size.toNat, by omega⟩
  clear b1 np1 k1 e2' b2 np2 eh3
  refine loop_ (fun xs ρ h' => ∃ (n : Nat) (o1 o2 : Option D), xs = rngL n (6 - n) ∧ n ≤ 6 ∧ ρ = [some (.int c), some (.int 6), some (.str "abcdefghijklmnopqrstuvwxyz"), some (.int sz), some (.int an), some (.ref p2), some (.ref p3), o1, o2, none, none, none] ∧ Keep h h' ∧ h' p2 = some (.lst (rc.map fun d => D.str (sg d))) ∧ h' p3 = some (.lst (((List.range n).map fun k : Nat => nmB rc an sz (ch (c / 11 + k))).map D.str))) ?_ ?_ _ _ _ ⟨0, none, none, rfl, by decide, rfl, k2.trans k3, k3 _ _ e2, e3⟩
  · rintro x xs ρ h4 N ⟨n, o1, o2, ex, ln, rfl, k4, e42, e43⟩ hN
    obtain ⟨m, hm⟩ : ∃ m, 6 - n = m + 1 := by
      cases h6 : 6 - n with
      | zero => rw [h6] at ex; cases ex
      | succ m => exact ⟨m, rfl⟩
    rw [hm, rng_cons] at ex
    obtain ⟨rfl, rfl⟩ := List.cons.inj ex
    refine ⟨trivial, ⟨by decide, by decide⟩, by walk_at "s", ?_⟩
    refine ix_str (ltr_at _) ?_
    refine ⟨⟨rfl, _, e43⟩, ?_⟩
    refine ⟨rfl, sl_lst e42 fun p5 np5 => ?_⟩
    rw [cutD_to]
    generalize eh5 : up h4 p5 _ = h5
    obtain ⟨k5, e5, b5⟩ := newf_ np5 eh5
    refine ⟨by walk_at "s", fun p6 np6 => ?_⟩
    generalize eh6 : up h5 p6 _ = h6
    obtain ⟨k6, e6, b6⟩ := newf_ np6 eh6
    refine ⟨_, _, k6 _ _ e5, e6, by rw [List.length_take, List.length_map, szL]; simp; omega, fun p7 np7 => ?_⟩
    generalize eh7 : up h6 p7 _ = h7
    obtain ⟨k7, e7, b7⟩ := newf_ np7 eh7
    refine sl_lst (k7 _ _ (k6 _ _ (k5 _ _ e42))) fun p8 np8 => ?_
    rw [show (an : Int) + 1 = ((an + 1 : Nat) : Int) from by push_cast; rfl, cutD_mid _ _ _ (by rw [List.length_map]; omega) (by omega)]
    generalize eh8 : up h7 p8 _ = h8
    obtain ⟨k8, e8, b8⟩ := newf_ np8 eh8
    refine ⟨_, _, k8 _ _ e7, e8, by simp only [List.length_append, List.length_take, List.length_drop, List.length_map, List.length_cons, List.length_nil, szL]; omega, fun p9 np9 => ?_⟩
    generalize eh9 : up h8 p9 _ = h9
    obtain ⟨k9, e9, b9⟩ := newf_ np9 eh9
    have e9' : h9 p9 = some (.lst (((rc.take an ++ [ch (c / 11 + n)] ++ (rc.drop (an + 1)).take (sz - (an + 1))).map sg).map D.str)) := by
      rw [e9]; simp [List.map_take, List.map_drop]; rfl
    have kk := k5.trans (k6.trans (k7.trans (k8.trans k9)))
    refine join_lst e9' ?_ ?_
    · have : ∀ l : List Nat, ((l.map sg).map (·.length)).sum = l.length := by
        intro l
        induction l with
        | nil => rfl
        | cons a l ih => rw [List.map_cons, List.map_cons, List.sum_cons, ih, List.length_cons]; show 1 + l.length = _; omega
      rw [this]
      show _ + _ * 0 ≤ _
      simp only [List.length_append, List.length_take, List.length_drop, List.length_cons, List.length_nil]; omega
    rw [join_sg]
    refine ⟨_, kk _ _ e43, by rw [List.length_map, List.length_map, List.length_range, szL]; omega, ?_⟩
    generalize eh10 : up h9 p3 _ = h10
    obtain ⟨e10, b10⟩ := putf_ eh10
    refine hN _ _ ⟨n + 1, _, _, by rw [show 6 - (n + 1) = m by omega]; push_cast; rfl, by omega, rfl, keep_but (k4.trans kk) b10 fp3, by rw [b10 _ p32.symm]; exact kk _ _ e42, ?_⟩
    rw [e10, List.range_succ, List.map_append, List.map_append]; rfl
  · rintro ρ h4 ⟨n, o1, o2, ex, ln, rfl, k4, e42, e43⟩
    obtain rfl : n = 6 := by
      have : 6 - n = 0 := by
        cases h6 : 6 - n with
        | zero => rfl
        | succ m => rw [h6, rng_cons] at ex; cases ex
      omega
    refine ⟨trivial, by walk_at "s", fun p5 np5 => ?_⟩
    generalize eh5 : up h4 p5 _ = h5
    obtain ⟨k5, e5, b5⟩ := newf_ np5 eh5
    have p53 : p5 ≠ p3 := by rintro rfl; rw [e43] at np5; cases np5
    have NB := namesB (c := c / 11) l6 hc (by omega : an < sz) (by omega)
    generalize hfound : (List.range 6).map (fun k : Nat => nmB rc an sz (ch (c / 11 + k))) = found at e43 NB
    have lf : found.length = 6 := by rw [← hfound]; simp
    refine ⟨_, k5 _ _ e43, fun p6 np6 => ?_⟩
    refine lcp_ (h0 := h5) (fun x => match x with | .str s => if s ∈ bars then some (.str s) else none | _ => none) (fun x m h6 A S b ha hs => ?_) (fun h6 b6 e6 => ?_) _ (But.refl p6 h5).up up_same
    · obtain ⟨s, ms, rfl⟩ := List.mem_map.mp m
      have p63 : p6 ≠ p3 := by rintro rfl; rw [k5 _ _ e43] at np6; cases np6
      have p65 : p6 ≠ p5 := by rintro rfl; rw [e5] at np6; cases np6
      refine ⟨(b _ p63.symm).trans (k5 _ _ e43), in_lst (zs := bars) (by rw [b _ p65.symm]; exact e5) (if_b (fun z => ha _ ?_) fun z => hs ?_)⟩
      · simp only [if_pos (of_decide_eq_true z)]
      · simp only [if_neg (of_decide_eq_false z)]
    have k6 := b6.keep np6
    refine ⟨k6 _ _ (k5 _ _ e43), by walk_at "s", fun p7 np7 => ?_⟩
    generalize eh7 : up h6 p7 _ = h7
    obtain ⟨k7, e7, b7⟩ := newf_ np7 eh7
    have ef := bar_filter found
    rw [ef] at e6
    refine ne_ (b := !(found.filter fun s => decide (s ∈ bars)).isEmpty) (toP_lst (k7 _ _ e6) (toP_strs h7 _ _)) (toP_lst (ps := []) e7 rfl) (by rw [Bool.not_not]; exact eqvAll_empty _) ?_
    have kk7 := k4.trans (k5.trans (k6.trans k7))
    refine if_b (fun z => ?_) fun z => ?_
    · refine ⟨⟨by decide, by decide⟩, fun p8 np8 => lcp_ (h0 := h7) (fun x => match x with | .int i => some (.str (("f" : Str) ++ sg (97 + i.toNat))) | _ => none) (fun x m h8 A S b ha hs => ?_) (fun h8 b8 e8 => ?_) _ (But.refl p8 h7).up up_same⟩
      · obtain ⟨k, lk, rfl⟩ := rng_mem m
        have lk6 : (k : Int) < 6 := by have : ((6 : Int)).toNat = 6 := rfl; omega
        refine ⟨trivial, ?_⟩
        refine ix_str (ltr_at' (by omega) (by omega)) ⟨by walk_at "s", ha _ rfl⟩
      · exact ⟨trivial, q p8 h8 _ (keep_none kk7 np8) (kk7.trans (b8.keep np8)) (by rw [e8]; rfl) namesF⟩
    · have nb : ∀ x ∈ found, x ∉ bars := fun x m mb => by
        have : x ∈ found.filter fun s => decide (s ∈ bars) := List.mem_filter.mpr ⟨m, by simpa using mb⟩
        rw [Bool.not_eq_false'] at z
        rw [List.isEmpty_iff.mp z] at this; cases this
      exact q p3 h7 found fp3 kk7 (k7 _ _ (k6 _ _ (k5 _ _ e43))) (NB nb)
end Dl
end
section
local macro_rules | `(tactic| walk_at "s") => `(tactic| first | (decide) | (omega) | (dsimp only; omega) | exact Dl.sz_ (Nat.le_of_ble_eq_true rfl) | (refine Dl.sz_ ?_; simp only [List.length_map, List.length_append, List.length_cons, List.length_nil]; omega))
local macro_rules | `(tactic| walk_at "cmul") => `(tactic| first | exact Or.inr ⟨by decide, by decide⟩ | exact Or.inl ⟨by decide, by decide⟩ | exact Or.inr ⟨by omega, by omega⟩ | exact Or.inl ⟨by omega, by omega⟩)
namespace Dl
open PySem PySem.Spec PyProof.Rows L2
theorem col_ok {f : Fleet} (ok : f.ok) (k : Str) (co sd : Int) : (f.column k co sd).length ≤ 6 ∧ ∀ x ∈ f.column k co sd, x ∈ f.cols := by
  unfold Fleet.column
  cases e : f.row k with
  | none => exact ⟨by simp, fun x m => by cases m⟩
  | some r =>
    have mr : r ∈ f.rows := List.mem_of_find?_eq_some e
    have rk := ok.rows r mr
    refine ⟨?_, fun x m => ?_⟩
    · show (r.shown _).length ≤ 6
      unfold Row.shown; rw [List.length_map]
      exact Nat.le_trans (List.length_filter_le ..) rk.n1
    · have m' : x ∈ r.shown ((sd - co) % 32) := m
      unfold Row.shown at m'
      obtain ⟨l, ml, rfl⟩ := List.mem_map.mp m'
      exact (rk.lamps l (List.mem_filter.mp ml).1).col
theorem rng_len (i : Int) (n : Nat) : (rngL i n).length = n := by unfold rngL; rw [List.length_map, List.length_range]
theorem keep2_fresh {h h1 : Hd} {a d p : Addr} (k : Keep2 a d h h1) (n : h1 p = none) (f : p ≠ a ∧ p ≠ d) : h p = none := k.fresh n f
theorem pure_Lsights (ca : CA) : ∀ ds h Q E, sp_Lsights ca ds h Q E → t_Lsights ca E { nx := fun _ h' => Q .non h', rt := Q } (dstart ["_law_m", "_law_fleet_here", "_law_most", "_law_kind", "_law_turn", "_law_lamps_here", "_law_course", "_law_moment", "_law_found", "_law_k", "_law_step", "_law_side", "_law_some", "_law_at", "_law_many", "_law_j"] ds) h := by
  intro vs h Q E hh
  unfold sp_Lsights at hh
  obtain ⟨a, c, d, x, y, ns, ks, n, f, most, rfl, w, ok, ⟨m0, m1⟩, q⟩ := hh
  have r0 := ok.r0
  have r1 := ok.r1
  refine ix_tup (at_nn (x := .tup (f.rows.map Row.d)) (by decide) rfl) ?_
  refine ix_tup (at_nn (x := .tup (f.rows.map Row.d)) (by decide) rfl) ?_
  refine len_tup (drawm_ w ⟨by rw [List.length_map]; omega, by rw [List.length_map]; omega⟩ fun h1 i w1 k1 i0 i1 => ?_)
  rw [List.length_map] at i1
  have li : i.toNat < f.rows.length := by omega
  refine ix_tup (at_nn (x := (f.rows[i.toNat]).d) i0 (by rw [List.getElem?_map, List.getElem?_eq_getElem li]; rfl)) ?_
  have rk := ok.rows _ (List.getElem_mem li)
  generalize f.rows[i.toNat] = row at rk ⊢
  have t0 := rk.t0
  have t1 := rk.t1
  refine ⟨rfl, drawm_ w1 ⟨by decide, by decide⟩ fun h2 co w2 k2 co0 co1 => ⟨by walk_at "s", fun pf npf => ?_⟩⟩
  generalize eh3 : up h2 pf _ = h3
  obtain ⟨k3, e3, b3⟩ := newf_ npf eh3
  have w3 := w2.keep k3
  have zf := w2.ne npf
  have kk2 := k1.trans k2
  have ff := kk2.fresh npf zf.ad
  have kk3 := kk2.trans (k3.two a d)
  refine drawm_ w3 ⟨by omega, by omega⟩ fun h4 mm w4 k4 mm0 mm1 => ⟨⟨by omega, by omega⟩, ?_⟩
  have Z : ∀ (N : DEnv → Hd → Prop) (rest : Nat) (ss : List Sight), (∀ (ss' : List Sight) (mo' co' : Int) (o9 o10 o11 o12 o13 o14 : Option D) (h' : Hd), ss'.length = ss.length + 1 → (0 ≤ mo' ∧ mo' ≤ 99) → (∀ s ∈ ss', s.ok f) → Dm h' a c d x y ns ks (n + 20 * rest) → Keep2 a d h h' → h' pf = some (.lst (ss'.map Sight.d)) →
      N [some (.ref a), some f.d, some (.int most), some (.str row.kind), some (.int row.turn), some (.tup (row.lamps.map Lamp.d)), some (.int co'), some (.int mo'), some (.ref pf), o9, o10, o11, o12, o13, o14, none] h') →
      ∀ (mo' co' : Int) (o9 o10 : Option D) (h5 : Hd), ss.length ≤ 60 → (0 ≤ mo' ∧ mo' ≤ 99) → (∀ s ∈ ss, s.ok f) → Dm h5 a c d x y ns ks (n + 20 * rest + 14) → Keep2 a d h h5 → h5 pf = some (.lst (ss.map Sight.d)) → ∀ (o11 o12 o13 o14 : Option D),
      (dSeq (dAsg (dCall (sp_Ldraw ca) (fun cls fs _ h => E cls fs h) (dCons (dVar 0) (dCons (dC (.int 32)) dNil))) (dgName 11))
    (dSeq (dAsg (dCall (sp_Lcolumn ca) (fun cls fs _ h => E cls fs h) (dCons (dVar 1) (dCons (dTup (dCons (dVar 3) (dCons (dVar 6) dNil))) (dCons (dVar 11) dNil)))) (dgName 12))
    (dSeq (dIfS (dAndT (dB (dOp neD (dVar 12) (dTup dNil))) (dB (dOp eqD (dCall (sp_Ldraw ca) (fun cls fs _ h => E cls fs h) (dCons (dVar 0) (dCons (dC (.int 4)) dNil))) (dC (.int 0)))))
    (dSeq (dAsg (dCall (sp_Ldraw ca) (fun cls fs _ h => E cls fs h) (dCons (dVar 0) (dCons (dCB lenD (dCons (dVar 12) dNil)) dNil))) (dgName 13))
    (dAsg (dOp addD (dSl (dVar 12) dNoP (dP (dVar 13))) (dSl (dVar 12) (dP (dOp addD (dVar 13) (dC (.int 1)))) dNoP)) (dgName 12)))
    dNext)
    (dSeq (dIfS (dB (dOp eqD (dCall (sp_Ldraw ca) (fun cls fs _ h => E cls fs h) (dCons (dVar 0) (dCons (dC (.int 24)) dNil))) (dC (.int 0))))
    (dSeq (dAsg (dCall (sp_Ldraw ca) (fun cls fs _ h => E cls fs h) (dCons (dVar 0) (dCons (dC (.int 7)) dNil))) (dgName 14))
    (dAsg (dCB tupleD (dCons (dLc (dRng1 (dCons (dVar 14) dNil)) (.one 15) dYes (dOp ixD (dOp ixD (dVar 1) (dC (.int 0))) (dCall (sp_Ldraw ca) W0 (dCons (dVar 0) (dCons (dCB lenD (dCons (dOp ixD (dVar 1) (dC (.int 0))) dNil)) dNil))))) dNil)) (dgName 12)))
    dNext)
    (dDrop (dBM "list" insertD (dVar 8) (dCons (dCall (sp_Ldraw ca) (fun cls fs _ h => E cls fs h) (dCons (dVar 0) (dCons (dOp addD (dCB lenD (dCons (dVar 8) dNil)) (dC (.int 1))) dNil))) (dCons (dTup (dCons (dVar 7) (dCons (dVar 11) (dCons (dVar 12) dNil)))) dNil))))))))
        { nx := N, rt := Q, bk := fun _ _ => False, ct := N } [some (.ref a), some f.d, some (.int most), some (.str row.kind), some (.int row.turn), some (.tup (row.lamps.map Lamp.d)), some (.int co'), some (.int mo'), some (.ref pf), o9, o10, o11, o12, o13, o14, none] h5 := by
    intro N rest ss hN mo co o9 o10 h5 lss mo01 sok w5 kk5 e5 o11 o12 o13 o14
    refine drawm_ (n := n + 20 * rest + 13) w5 ⟨by decide, by decide⟩ fun h6 sd w6 k6 sd0 sd1 => ⟨by walk_at "s", lcolumn_ ok fun h7 k7 => ?_⟩
    have cok := col_ok ok row.kind co sd
    have w7 := w6.keep k7
    have kk7 := (kk5.trans k6).trans (k7.two a d)
    have e7 := k7 _ _ (k6 _ _ zf.a zf.d e5)
    have INS : ∀ h8 (cs : List Str) (o13 o14 : Option D), cs.length ≤ 6 → (∀ x ∈ cs, x ∈ f.cols) → Dm h8 a c d x y ns ks (n + 20 * rest + 1) → Keep2 a d h h8 → h8 pf = some (.lst (ss.map Sight.d)) →
      (dDrop (dBM "list" insertD (dVar 8) (dCons (dCall (sp_Ldraw ca) (fun cls fs _ h => E cls fs h) (dCons (dVar 0) (dCons (dOp addD (dCB lenD (dCons (dVar 8) dNil)) (dC (.int 1))) dNil))) (dCons (dTup (dCons (dVar 7) (dCons (dVar 11) (dCons (dVar 12) dNil)))) dNil))))
        { nx := N, rt := Q, bk := fun _ _ => False, ct := N } [some (.ref a), some f.d, some (.int most), some (.str row.kind), some (.int row.turn), some (.tup (row.lamps.map Lamp.d)), some (.int co), some (.int mo), some (.ref pf), o9, o10, some (.int sd), some (.tup (cs.map D.str)), o13, o14, none] h8 := by
      intro h8 cs o13 o14 l6 cin w8 kk8 e8
      refine ⟨⟨rfl, _, e8⟩, len_lst e8 (drawm_ (n := n + 20 * rest) w8 ⟨by rw [List.length_map]; omega, by rw [List.length_map]; omega⟩ fun h9 j w9 k9 j0 j1 => ?_)⟩
      rw [List.length_map] at j1
      refine ⟨by walk_at "s", _, k9 _ _ zf.a zf.d e8, by rw [List.length_map, szL]; omega, ⟨j0, by omega⟩, ?_⟩
      generalize eh10 : up h9 pf _ = h10
      obtain ⟨e10, b10⟩ := putf_ eh10
      refine hN (ss.take j.toNat ++ [⟨mo, sd, cs⟩] ++ ss.drop j.toNat) mo co _ _ _ _ _ _ h10 (by simp; omega) mo01 (fun s m => ?_) (w9.but zf b10) ((kk8.trans k9).but ff b10) (by rw [e10]; simp [List.map_take, List.map_drop, Sight.d])
      rcases List.mem_append.mp m with m | m
      · rcases List.mem_append.mp m with m | m
        · exact sok _ (List.mem_of_mem_take m)
        · obtain rfl := List.mem_singleton.mp m
          exact ⟨mo01.1, mo01.2, sd0, sd1, l6, cin⟩
      · exact sok _ (List.mem_of_mem_drop m)
    have IF : ∀ h8 (cs : List Str) (o13 o14 : Option D), cs.length ≤ 6 → (∀ x ∈ cs, x ∈ f.cols) → Dm h8 a c d x y ns ks (n + 20 * rest + 9) → Keep2 a d h h8 → h8 pf = some (.lst (ss.map Sight.d)) →
      (dSeq (dIfS (dB (dOp eqD (dCall (sp_Ldraw ca) (fun cls fs _ h => E cls fs h) (dCons (dVar 0) (dCons (dC (.int 24)) dNil))) (dC (.int 0))))
    (dSeq (dAsg (dCall (sp_Ldraw ca) (fun cls fs _ h => E cls fs h) (dCons (dVar 0) (dCons (dC (.int 7)) dNil))) (dgName 14))
    (dAsg (dCB tupleD (dCons (dLc (dRng1 (dCons (dVar 14) dNil)) (.one 15) dYes (dOp ixD (dOp ixD (dVar 1) (dC (.int 0))) (dCall (sp_Ldraw ca) W0 (dCons (dVar 0) (dCons (dCB lenD (dCons (dOp ixD (dVar 1) (dC (.int 0))) dNil)) dNil))))) dNil)) (dgName 12)))
    dNext)
    (dDrop (dBM "list" insertD (dVar 8) (dCons (dCall (sp_Ldraw ca) (fun cls fs _ h => E cls fs h) (dCons (dVar 0) (dCons (dOp addD (dCB lenD (dCons (dVar 8) dNil)) (dC (.int 1))) dNil))) (dCons (dTup (dCons (dVar 7) (dCons (dVar 11) (dCons (dVar 12) dNil)))) dNil)))))
        { nx := N, rt := Q, bk := fun _ _ => False, ct := N } [some (.ref a), some f.d, some (.int most), some (.str row.kind), some (.int row.turn), some (.tup (row.lamps.map Lamp.d)), some (.int co), some (.int mo), some (.ref pf), o9, o10, some (.int sd), some (.tup (cs.map D.str)), o13, o14, none] h8 := by
      intro h8 cs o13 o14 l6 cin w8 kk8 e8
      refine drawm_ (n := n + 20 * rest + 8) w8 ⟨by decide, by decide⟩ fun h9 r w9 k9 r0 r1 => eq_int ?_
      have e9 := k9 _ _ zf.a zf.d e8
      have kk9 := kk8.trans k9
      refine if_b (fun z => ?_) fun z => INS h9 cs _ _ l6 cin (w9.less (by omega)) kk9 e9
      refine drawm_ (n := n + 20 * rest + 7) w9 ⟨by decide, by decide⟩ fun h10 v w10 k10 v0 v1 => ⟨⟨by omega, by omega⟩, fun pc npc => ?_⟩
      have e10 := k10 _ _ zf.a zf.d e9
      have kk10 := kk9.trans k10
      have zc := w10.ne npc
      have fc := kk10.fresh npc zc.ad
      have pcf : pc ≠ pf := by rintro rfl; rw [e10] at npc; cases npc
      refine lc_ (fun xs acc h' => ∃ cs : List Str, acc = cs.map D.str ∧ Dm h' a c d x y ns ks (n + 20 * rest + 1 + xs.length) ∧ Keep2 a d h h' ∧ (cs.length + xs.length = v.toNat) ∧ (∀ l ∈ cs, l ∈ f.cols) ∧ h' pf = some (.lst (ss.map Sight.d))) ?_ ?_ _ _ _ ⟨[], rfl, ?_, ?_, ?_, by simp, ?_⟩ up_same
      · rintro xx xs acc h11 Ak Sk ⟨cs, rfl, w11, kk11, l11, ok11, e11⟩ ec hA hS
        have c0 := ok.c0
        have c1 := ok.c1
        refine ⟨trivial, ?_⟩
        refine ix_tup (at_nn (x := .tup (f.cols.map D.str)) (by decide) rfl) ?_
        refine ix_tup (at_nn (x := .tup (f.cols.map D.str)) (by decide) rfl) ?_
        refine len_tup (drawm_ (n := n + 20 * rest + 1 + xs.length) w11 ⟨by rw [List.length_map]; omega, by rw [List.length_map]; omega⟩ fun h12 u w12 k12 u0 u1 => ?_)
        rw [List.length_map] at u1
        have lu : u.toNat < f.cols.length := by omega
        refine ix_tup (at_nn (x := .str f.cols[u.toNat]) u0 (by rw [List.getElem?_map, List.getElem?_eq_getElem lu]; rfl)) ?_
        refine ⟨k12 _ _ zc.a zc.d ec, hA _ _ _ ⟨cs ++ [f.cols[u.toNat]], by rw [List.map_append]; rfl, w12.but zc fun b z => up_ne z, (kk11.trans k12).but fc fun b z => up_ne z, by rw [List.length_append]; simp only [List.length_cons, List.length_nil] at l11 ⊢; omega, fun l m => ?_, by rw [up_ne pcf.symm]; exact k12 _ _ zf.a zf.d e11⟩ up_same rfl⟩
        rcases List.mem_append.mp m with m | m
        · exact ok11 _ m
        · obtain rfl := List.mem_singleton.mp m; exact List.getElem_mem lu
      · rintro acc h11 ⟨cs, rfl, w11, kk11, l11, ok11, e11⟩ ec
        refine ⟨trivial, tuple_lst ec (INS h11 cs _ _ (by simp only [List.length_nil] at l11; omega) ok11 (w11.less (by omega)) kk11 e11)⟩
      · rw [rng_len]; exact (w10.but zc fun b z => up_ne z).less (by omega)
      · exact kk10.but fc fun b z => up_ne z
      · rw [rng_len, List.length_nil]; omega
      · rw [up_ne pcf.symm]; exact e10
    refine ⟨by walk_at "s", ne_ (b := !(f.column row.kind co sd).isEmpty) (toP_tup (toP_strs h7 _ _)) (toP_tup (ds := []) (ps := []) rfl) (by rw [Bool.not_not]; exact eqvAll_empty _) ?_⟩
    generalize f.column row.kind co sd = cs at cok ⊢
    refine if_b (fun z => ?_) fun z => IF h7 cs _ _ cok.1 cok.2 (w7.less (by omega)) kk7 e7
    have cpos : 0 < cs.length := by cases cs with | nil => cases z | cons _ _ => simp
    refine drawm_ (n := n + 20 * rest + 12) w7 ⟨by decide, by decide⟩ fun h8 r w8 k8 r0 r1 => eq_int ?_
    refine if_b (fun z2 => ?_) fun z2 => IF h8 cs _ _ cok.1 cok.2 (w8.less (by omega)) (kk7.trans k8) (k8 _ _ zf.a zf.d e7)
    refine len_tup (drawm_ (n := n + 20 * rest + 11) w8 ⟨by rw [List.length_map]; omega, by rw [List.length_map]; omega⟩ fun h9 u w9 k9 u0 u1 => ?_)
    rw [List.length_map] at u1
    obtain ⟨un, rfl⟩ : ∃ un : Nat, u = un := ⟨u.toNat, by omega⟩
    refine sl_tup (sl_tup ?_)
    rw [cutD_to, show (un : Int) + 1 = ((un + 1 : Nat) : Int) from by push_cast; rfl, cutD_from, ← List.map_take, ← List.map_drop]
    refine ⟨by rw [List.length_map, List.length_map, List.length_take, List.length_drop, szL]; omega, ?_⟩
    rw [← List.map_append]
    refine IF h9 (cs.take un ++ cs.drop (un + 1)) _ _ (by rw [List.length_append, List.length_take, List.length_drop]; omega) (fun l m => ?_) (w9.less (by omega)) ((kk7.trans k8).trans k9) (k9 _ _ zf.a zf.d (k8 _ _ zf.a zf.d e7))
    rcases List.mem_append.mp m with m | m
    · exact cok.2 _ (List.mem_of_mem_take m)
    · exact cok.2 _ (List.mem_of_mem_drop m)
  refine loop_ (fun xs ρ h' => ∃ (ss : List Sight) (mo' co' : Int) (o9 o10 o11 o12 o13 o14 : Option D), ρ = [some (.ref a), some f.d, some (.int most), some (.str row.kind), some (.int row.turn), some (.tup (row.lamps.map Lamp.d)), some (.int co'), some (.int mo'), some (.ref pf), o9, o10, o11, o12, o13, o14, none] ∧ ss.length + xs.length = mm.toNat ∧ (0 ≤ mo' ∧ mo' ≤ 99) ∧ (∀ s ∈ ss, s.ok f) ∧ Dm h' a c d x y ns ks (n + 20 * xs.length) ∧ Keep2 a d h h' ∧ h' pf = some (.lst (ss.map Sight.d))) ?_ ?_ _ _ _ ⟨[], 0, co, none, none, none, none, none, none, rfl, by rw [rng_len]; simp, by decide, by simp, w4.less (by rw [rng_len]; omega), kk3.trans k4, k4 _ _ zf.a zf.d e3⟩
  · rintro xx xs ρ h5 N ⟨ss, mo, co, o9, o10, o11, o12, o13, o14, rfl, l5, mo01, sok, w5, kk5, e5⟩ hN
    rw [List.length_cons] at w5 l5
    refine ⟨trivial, by walk_at "s", fun pl npl => ?_⟩
    generalize eh6 : up h5 pl _ = h6
    obtain ⟨k6, e6, b6⟩ := newf_ npl eh6
    have w6 := w5.keep k6
    have zl := w5.ne npl
    refine drawm_ (w6.less (m := n + 20 * xs.length + 19 + 1) (by omega)) ⟨by decide, by decide⟩ fun h7 i w7 k7 i0 i1 => ?_
    obtain ⟨st, s0, s1, es⟩ : ∃ t : Int, 0 ≤ t ∧ t ≤ 5 ∧ atI [D.int 0, .int 0, .int 1, .int 1, .int 2, .int 5] i = some (.int t) := by
      obtain ⟨k, rfl⟩ : ∃ k : Nat, i = k := ⟨i.toNat, by omega⟩
      match k, i1 with
      | 0, _ => exact ⟨0, by decide, by decide, rfl⟩
      | 1, _ => exact ⟨0, by decide, by decide, rfl⟩
      | 2, _ => exact ⟨1, by decide, by decide, rfl⟩
      | 3, _ => exact ⟨1, by decide, by decide, rfl⟩
      | 4, _ => exact ⟨2, by decide, by decide, rfl⟩
      | 5, _ => exact ⟨5, by decide, by decide, rfl⟩
      | k + 6, l => omega
    refine ix_lst (k7 _ _ zl.a zl.d e6) es ⟨⟨by omega, by omega⟩, ?_⟩
    have kk7 := kk5.trans ((k6.two a d).trans k7)
    refine loop_ (fun xs' ρ h' => ∃ (mo' co' : Int) (o9 o10 : Option D), ρ = [some (.ref a), some f.d, some (.int most), some (.str row.kind), some (.int row.turn), some (.tup (row.lamps.map Lamp.d)), some (.int co'), some (.int mo'), some (.ref pf), o9, o10, o11, o12, o13, o14, none] ∧ (0 ≤ mo' ∧ mo' ≤ 99) ∧ Dm h' a c d x y ns ks (n + 20 * xs.length + 14 + xs'.length) ∧ Keep2 a d h h' ∧ h' pf = some (.lst (ss.map Sight.d))) ?_ ?_ _ _ _ ⟨mo, co, _, o10, rfl, mo01, w7.less (by rw [rng_len]; omega), kk7, k7 _ _ zf.a zf.d (k6 _ _ e5)⟩
    · rintro xx' xs' ρ h8 N' ⟨mo, co, o9, o10, rfl, mo01, w8, kk8, e8⟩ hN'
      rw [List.length_cons] at w8
      refine ⟨trivial, if_b (fun z => ?_) fun z => ?_⟩
      · have z := of_decide_eq_true z
        refine ⟨by walk_at "cmul", drawm_ (n := n + 20 * xs.length + 14 + xs'.length) w8 ⟨by omega, by omega⟩ fun h9 r w9 k9 r0 r1 => ⟨by walk_at "s", ?_⟩⟩
        exact hN' _ _ ⟨_, _, _, _, rfl, by omega, w9, kk8.trans k9, k9 _ _ zf.a zf.d e8⟩
      · exact hN' _ _ ⟨_, _, _, _, rfl, mo01, w8.less (by omega), kk8, e8⟩
    · rintro ρ h8 ⟨mo, co, o9, o10, rfl, mo01, w8, kk8, e8⟩
      refine ⟨trivial, Z N xs.length ss (fun ss' mo' co' o9 o10 o11 o12 o13 o14 h' l' mo01' sok' w' kk' e' => hN _ _ ⟨ss', mo', co', o9, o10, o11, o12, o13, o14, rfl, by omega, mo01', sok', w', kk', e'⟩) mo co o9 o10 h8 (by omega) mo01 sok w8 kk8 e8 _ _ _ _⟩
  · rintro ρ h5 ⟨ss, mo, co, o9, o10, o11, o12, o13, o14, rfl, l5, mo01, sok, w5, kk5, e5⟩
    refine ⟨trivial, q pf h5 ss ff (w5.less (by omega)) kk5 e5 (by simp only [List.length_nil] at l5; omega) sok⟩
end Dl
end
section
namespace Dl
open PySem PySem.Spec PyProof.Rows L2
def Kn (h : Hd) (d : D) : Prop := ∃ T, tyO h d = some T
theorem Kn.keep {h h' : Hd} {d : D} (k : Keep h h') (x : Kn h d) : Kn h' d := by
  obtain ⟨T, e⟩ := x
  cases d <;> first | exact ⟨_, rfl⟩ | exact ⟨T, e⟩ | skip
  case ref a =>
  cases z : h a with
  | none => simp [tyO, z] at e
  | some o =>
    refine ⟨T, ?_⟩
    simp only [tyO, z] at e
    simp only [tyO, k _ _ z]
    exact e
def isI : D → Bool
  | .int _ => true
  | .bl _ => true
  | _ => false
def isB : D → Bool
  | .bl _ => true
  | _ => false
def isS : D → Bool
  | .str _ => true
  | _ => false
def isT : D → Bool
  | .tup _ => true
  | _ => false
theorem isi_of {h : Hd} {d : D} {n : String} {b : Bool} {Q : DK} (x : Kn h d) (hb : ∀ T, tyO h d = some T → isiB T n = some b) (k : Q (.bl b) h) : isiD [d, .ty n] h Q := by
  obtain ⟨T, e⟩ := x
  unfold isiD
  simp only [e, hb T e]
  exact k
theorem tyO_ref {h : Hd} {a : Addr} {T : String} (e : tyO h (.ref a) = some T) : T = "list" ∨ T = "dict" := by
  cases z : h a with
  | none => simp [tyO, z] at e
  | some o =>
    cases o with
    | lst ds => left; simpa [tyO, z] using e.symm
    | dik kv => right; simpa [tyO, z] using e.symm
    | ins C fs => simp [tyO, z] at e
    | xfs fs => simp [tyO, z] at e
theorem isi_int {h : Hd} {d : D} {Q : DK} (x : Kn h d) (k : Q (.bl (isI d)) h) : isiD [d, .ty "int"] h Q := isi_of x (fun T e => by
  cases d <;> first | (rcases tyO_ref e with rfl | rfl <;> first | exact (show isiB _ _ = some true from by decide +kernel) | exact (show isiB _ _ = some false from by decide +kernel)) | (simp only [tyO, Option.some.injEq] at e; subst e; first | exact (show isiB _ _ = some true from by decide +kernel) | exact (show isiB _ _ = some false from by decide +kernel)) | (simp [tyO] at e)) k
theorem isi_bool {h : Hd} {d : D} {Q : DK} (x : Kn h d) (k : Q (.bl (isB d)) h) : isiD [d, .ty "bool"] h Q := isi_of x (fun T e => by
  cases d <;> first | (rcases tyO_ref e with rfl | rfl <;> first | exact (show isiB _ _ = some true from by decide +kernel) | exact (show isiB _ _ = some false from by decide +kernel)) | (simp only [tyO, Option.some.injEq] at e; subst e; first | exact (show isiB _ _ = some true from by decide +kernel) | exact (show isiB _ _ = some false from by decide +kernel)) | (simp [tyO] at e)) k
theorem isi_str {h : Hd} {d : D} {Q : DK} (x : Kn h d) (k : Q (.bl (isS d)) h) : isiD [d, .ty "str"] h Q := isi_of x (fun T e => by
  cases d <;> first | (rcases tyO_ref e with rfl | rfl <;> first | exact (show isiB _ _ = some true from by decide +kernel) | exact (show isiB _ _ = some false from by decide +kernel)) | (simp only [tyO, Option.some.injEq] at e; subst e; first | exact (show isiB _ _ = some true from by decide +kernel) | exact (show isiB _ _ = some false from by decide +kernel)) | (simp [tyO] at e)) k
theorem isi_tup {h : Hd} {d : D} {Q : DK} (x : Kn h d) (k : Q (.bl (isT d)) h) : isiD [d, .ty "tuple"] h Q := isi_of x (fun T e => by
  cases d <;> first | (rcases tyO_ref e with rfl | rfl <;> first | exact (show isiB _ _ = some true from by decide +kernel) | exact (show isiB _ _ = some false from by decide +kernel)) | (simp only [tyO, Option.some.injEq] at e; subst e; first | exact (show isiB _ _ = some true from by decide +kernel) | exact (show isiB _ _ = some false from by decide +kernel)) | (simp [tyO] at e)) k
def amD (d : D) (lo hi : Int) : Bool := match d with
  | .int i => decide (lo ≤ i) && decide (i ≤ hi)
  | _ => false
@[irreducible] def sp_is_among (_ : CA) : DSp := fun vs h Q _ => ∃ (d : D) (lo hi : Int), vs = [d, .int lo, .int hi] ∧ Kn h d ∧ Q (.bl (amD d lo hi)) h
@[irreducible] def sp_is_point (_ : CA) : DSp := fun vs h Q _ => ∃ d : D, vs = [d] ∧ Kn h d ∧ Q (.bl (amD d 0 31)) h
@[irreducible] def sp_need_point (ca : CA) : DSp := fun vs h Q E => ∃ d : D, vs = [d] ∧ Kn h d ∧ (amD d 0 31 = true → Q .non h) ∧ (amD d 0 31 = false → E (.ref ca.BadPoint) [] h)
@[irreducible] def sp_shows (_ : CA) : DSp := fun vs h Q _ => ∃ (l : Lamp) (b : Int), vs = [l.d, .int b] ∧ Q (.bl (l.at_ b)) h
structure FlI (ca : CA) (h : Hd) (a r : Addr) (F : Fleet) : Prop where
  e : h a = some (.ins ca.Fleet [("told", F.d), ("rows", .ref r)])
  er : h r = some (.dik (F.rows.map fun w => (.inr w.kind, w.d)))
theorem FlI.keep {ca : CA} {h h' : Hd} {a r : Addr} {F : Fleet} (x : FlI ca h a r F) (k : Keep h h') : FlI ca h' a r F := ⟨k _ _ x.e, k _ _ x.er⟩
@[irreducible] def sp_Fleet_init (ca : CA) : DSp := fun vs h Q _ => ∃ (a : Addr) (F : Fleet), vs = [.ref a, F.d] ∧ h a = some (.ins ca.Fleet []) ∧ F.ok ∧
  ∀ r h', FlI ca h' a r F → h r = none → (∀ b o, b ≠ a → h b = some o → h' b = some o) → Q .non h'
@[irreducible] def sp_Fleet_plain (ca : CA) : DSp := fun vs h Q _ => ∃ (a r : Addr) (F : Fleet), vs = [.ref a] ∧ FlI ca h a r F ∧ Q F.d h
@[irreducible] def sp_Fleet_kinds (ca : CA) : DSp := fun vs h Q _ => ∃ (a r : Addr) (F : Fleet), vs = [.ref a] ∧ FlI ca h a r F ∧
  ∀ p h', h p = none → Keep h h' → h' p = some (.lst ((F.rows.map Row.kind).map D.str)) → Q (.ref p) h'
def Fleet.rowD (F : Fleet) : D → Option Row
  | .str k => F.row k
  | _ => none
@[irreducible] def sp_Fleet_row_of (ca : CA) : DSp := fun vs h Q E => ∃ (a r : Addr) (F : Fleet) (d : D), vs = [.ref a, d] ∧ FlI ca h a r F ∧ Kn h d ∧ (∀ w, F.rowD d = some w → Q w.d h) ∧ (F.rowD d = none → E (.ref ca.NoKind) [] h)
@[irreducible] def sp_Fleet_turn (ca : CA) : DSp := fun vs h Q E => ∃ (a r : Addr) (F : Fleet) (d : D), vs = [.ref a, d] ∧ FlI ca h a r F ∧ Kn h d ∧ (∀ w, F.rowD d = some w → Q (.int w.turn) h) ∧ (F.rowD d = none → E (.ref ca.NoKind) [] h)
@[irreducible] def sp_Fleet_lamps (ca : CA) : DSp := fun vs h Q E => ∃ (a r : Addr) (F : Fleet) (d : D), vs = [.ref a, d] ∧ FlI ca h a r F ∧ Kn h d ∧
  (∀ w, F.rowD d = some w → ∀ p h', h p = none → Keep h h' → h' p = some (.lst (w.lamps.map Lamp.d)) → Q (.ref p) h') ∧ (F.rowD d = none → E (.ref ca.NoKind) [] h)
@[irreducible] def sp_column (ca : CA) : DSp := fun vs h Q E => ∃ (a r : Addr) (F : Fleet) (d b : D), vs = [.ref a, d, b] ∧ FlI ca h a r F ∧ Kn h d ∧ Kn h b ∧ (F.rowD d = none → E (.ref ca.NoKind) [] h) ∧
  (∀ w, F.rowD d = some w → (amD b 0 31 = false → ∀ h', Keep h h' → E (.ref ca.BadPoint) [] h') ∧ ∀ i, b = .int i → (0 ≤ i ∧ i ≤ 31) → ∀ h', Keep h h' → Q (.tup ((w.shown i).map D.str)) h')
@[irreducible] def sp_seen (ca : CA) : DSp := fun vs h Q E => ∃ (a r : Addr) (F : Fleet) (d b c : D), vs = [.ref a, d, b, c] ∧ FlI ca h a r F ∧ Kn h d ∧ Kn h b ∧ Kn h c ∧ (F.rowD d = none → E (.ref ca.NoKind) [] h) ∧
  (∀ w, F.rowD d = some w → (amD b 0 31 = false → E (.ref ca.BadPoint) [] h) ∧ (amD b 0 31 = true → amD c 0 31 = false → E (.ref ca.BadPoint) [] h) ∧
    ∀ i j, b = .int i → c = .int j → (0 ≤ i ∧ i ≤ 31) → (0 ≤ j ∧ j ≤ 31) → ∀ h', Keep h h' → Q (.tup ((w.shown ((j - i) % 32)).map D.str)) h')
theorem amD_true {d : D} {lo hi : Int} (e : amD d lo hi = true) : ∃ i, d = .int i ∧ lo ≤ i ∧ i ≤ hi := by
  cases d <;> first | cases e | skip
  case int i =>
    simp only [amD, Bool.and_eq_true, decide_eq_true_eq] at e
    exact ⟨i, rfl, e.1, e.2⟩
theorem amD_int {i lo hi : Int} (a : lo ≤ i) (b : i ≤ hi) : amD (.int i) lo hi = true := by simp [amD, a, b]
end Dl
end
section
namespace Dl
open PySem PySem.Spec PyProof.Rows L2
def t_is_among (ca : CA) (E : DXK) : DTS := (dRet (dAnd (dCB isiD (dCons (dVar 0) (dCons (dC (.ty "int")) dNil))) (dAnd (dNot (dCB isiD (dCons (dVar 0) (dCons (dC (.ty "bool")) dNil)))) (dChain leD leD (dVar 1) (dVar 0) (dVar 2)))))
def t_is_point (ca : CA) (E : DXK) : DTS := (dRet (dCall (sp_is_among ca) (fun cls fs _ h => E cls fs h) (dCons (dVar 0) (dCons (dC (.int 0)) (dCons (dOp subD (dC (.int 32)) (dC (.int 1))) dNil)))))
def t_need_point (ca : CA) (E : DXK) : DTS := (dIfS (dNotT (dB (dCall (sp_is_point ca) (fun cls fs _ h => E cls fs h) (dCons (dVar 0) dNil))))
    (dRaise ca.BadPoint (fun cls fs _ h => E cls fs h))
    dNext)
def t_shows (ca : CA) (E : DXK) : DTS := (dSeq (dAsg (dVar 0) (dgTup fun ds ρ h Q => ds.length = 3 ∧ (dgCons (dgName 2) (dgCons (dgName 3) (dgCons (dgName 4) dgNil))) ds ρ h Q))
    (dRet (dOp leD (dOp modD (dOp subD (dVar 1) (dVar 3)) (dC (.int 32))) (dOp modD (dOp subD (dVar 4) (dVar 3)) (dC (.int 32))))))
def t_column (ca : CA) (E : DXK) : DTS := (dSeq (dAsg (dMeth ca.Fleet "lamps" (sp_Fleet_lamps ca) (fun cls fs _ h => E cls fs h) (dVar 0) (dCons (dVar 1) dNil)) (dgName 3))
    (dSeq (dDrop (dCall (sp_need_point ca) (fun cls fs _ h => E cls fs h) (dCons (dVar 2) dNil)))
    (dRet (dCB tupleD (dCons (dLc (dSeqI (dVar 3)) (.one 4) (dB (dCall (sp_shows ca) W0 (dCons (dVar 4) (dCons (dVar 2) dNil)))) (dOp ixD (dVar 4) (dC (.int 0)))) dNil)))))
def t_seen (ca : CA) (E : DXK) : DTS := (dSeq (dDrop (dMeth ca.Fleet "turn" (sp_Fleet_turn ca) (fun cls fs _ h => E cls fs h) (dVar 0) (dCons (dVar 1) dNil)))
    (dSeq (dDrop (dCall (sp_need_point ca) (fun cls fs _ h => E cls fs h) (dCons (dVar 2) dNil)))
    (dSeq (dDrop (dCall (sp_need_point ca) (fun cls fs _ h => E cls fs h) (dCons (dVar 3) dNil)))
    (dRet (dCall (sp_column ca) (fun cls fs _ h => E cls fs h) (dCons (dVar 0) (dCons (dVar 1) (dCons (dOp modD (dOp subD (dVar 3) (dVar 2)) (dC (.int 32))) dNil))))))))
def t_Fleet_init (ca : CA) (E : DXK) : DTS := (dSeq (dFldS ca.Fleet (dVar 0) (dVar 1) "told")
    (dFldS ca.Fleet (dVar 0) (dCB dictPD (dCons (dLc (dSeqI (dOp ixD (dVar 1) (dC (.int 1)))) (.one 2) dYes (dTup (dCons (dOp ixD (dVar 2) (dC (.int 0))) (dCons (dVar 2) dNil)))) dNil)) "rows"))
def t_Fleet_plain (ca : CA) (E : DXK) : DTS := (dRet (dFld ca.Fleet (dVar 0) "told"))
def t_Fleet_kinds (ca : CA) (E : DXK) : DTS := (dRet (dLc (dSeqI (dOp ixD (dFld ca.Fleet (dVar 0) "told") (dC (.int 1)))) (.one 1) dYes (dOp ixD (dVar 1) (dC (.int 0)))))
def t_Fleet_row_of (ca : CA) (E : DXK) : DTS := (dSeq (dIfS (dOrT (dNotT (dB (dCB isiD (dCons (dVar 1) (dCons (dC (.ty "str")) dNil))))) (dB (dOp (dinD true) (dVar 1) (dFld ca.Fleet (dVar 0) "rows"))))
    (dRaise ca.NoKind (fun cls fs _ h => E cls fs h))
    dNext)
    (dRet (dOp dgetD (dFld ca.Fleet (dVar 0) "rows") (dVar 1))))
def t_Fleet_turn (ca : CA) (E : DXK) : DTS := (dRet (dOp ixD (dMeth ca.Fleet "row_of" (sp_Fleet_row_of ca) (fun cls fs _ h => E cls fs h) (dVar 0) (dCons (dVar 1) dNil)) (dC (.int 1))))
def t_Fleet_lamps (ca : CA) (E : DXK) : DTS := (dRet (dCB listD (dCons (dOp ixD (dMeth ca.Fleet "row_of" (sp_Fleet_row_of ca) (fun cls fs _ h => E cls fs h) (dVar 0) (dCons (dVar 1) dNil)) (dC (.int 2))) dNil)))
end Dl
end
section
local macro_rules | `(tactic| walk_at "s") => `(tactic| first | (decide) | (omega) | (dsimp only; omega) | exact Dl.sz_ (Nat.le_of_ble_eq_true rfl) | (refine Dl.sz_ ?_; simp only [List.length_map, List.length_append, List.length_cons, List.length_nil]; omega))
local macro_rules | `(tactic| walk_at "cmul") => `(tactic| first | exact Or.inr ⟨by decide, by decide⟩ | exact Or.inl ⟨by decide, by decide⟩ | exact Or.inr ⟨by omega, by omega⟩ | exact Or.inl ⟨by omega, by omega⟩)
namespace Dl
open PySem PySem.Spec PyProof.Rows L2
theorem lk_told {x y : D} : List.lookup ("told" : Str) [(("told" : Str), x), (("rows" : Str), y)] = some x := by
  unfold List.lookup; rw [show (("told" : Str) == ("told" : Str)) = true by decide +kernel]
theorem lk_rows {x y : D} : List.lookup ("rows" : Str) [(("told" : Str), x), (("rows" : Str), y)] = some y := by
  unfold List.lookup; rw [show (("rows" : Str) == ("told" : Str)) = false by decide +kernel]; unfold List.lookup; rw [show (("rows" : Str) == ("rows" : Str)) = true by decide +kernel]
theorem lk_non (m : Str) {x y : D} (h1 : (m == ("told" : Str)) = false) (h2 : (m == ("rows" : Str)) = false) : List.lookup m [(("told" : Str), x), (("rows" : Str), y)] = none := by
  unfold List.lookup; rw [h1]; unfold List.lookup; rw [h2]; rfl
theorem val_rows : ∀ (rs : List Row) (k : Str), valD (rs.map fun w => ((.inr w.kind : Key), w.d)) (.inr k) = (rs.find? fun w => w.kind == k).map Row.d
  | [], _ => rfl
  | w :: rs, k => by
    rw [List.map_cons, List.find?_cons]
    unfold valD
    by_cases e : w.kind = k
    · rw [if_pos (by rw [e]), show (w.kind == k) = true by rw [e]; exact beq_self_eq_true k]; rfl
    · rw [if_neg (fun z => e (Sum.inr.inj z)), show (w.kind == k) = false by simpa using e]; exact val_rows rs k
theorem rows_kinds : ∀ rs : List Row, (rs.map Row.d).filterMap (fun x => match x with | .tup [k, t, l] => some k | _ => none) = (rs.map Row.kind).map D.str
  | [] => rfl
  | w :: rs => by rw [List.map_cons, List.map_cons, List.map_cons, ← rows_kinds rs]; rfl
theorem rows_pairs : ∀ rs : List Row, pairsO ((rs.map Row.d).filterMap (fun x => match x with | .tup [k, t, l] => some (.tup [k, .tup [k, t, l]]) | _ => none)) = some (rs.map fun w => ((.inr w.kind : Key), w.d))
  | [] => rfl
  | w :: rs => by
    have e : (Row.d w :: rs.map Row.d).filterMap (fun x => match x with | .tup [k, t, l] => some (D.tup [k, .tup [k, t, l]]) | _ => none) = .tup [.str w.kind, w.d] :: (rs.map Row.d).filterMap (fun x => match x with | .tup [k, t, l] => some (D.tup [k, .tup [k, t, l]]) | _ => none) := rfl
    rw [List.map_cons, e]
    simp only [pairsO, keyO, rows_pairs rs, List.map_cons]
theorem put_new : ∀ (kvs : List (Key × D)) (k : Key) (d : D), k ∉ kvs.map (·.1) → putKD kvs k d = kvs ++ [(k, d)]
  | [], _, _, _ => rfl
  | (j, x) :: r, k, d, n => by
    rw [List.map_cons, List.mem_cons, not_or] at n
    unfold putKD
    rw [if_neg (fun e => n.1 e.symm), put_new r k d n.2]; rfl
theorem merge_new : ∀ (more kvs : List (Key × D)), ((kvs ++ more).map (·.1)).Nodup → mergeD kvs more = kvs ++ more
  | [], kvs, _ => by simp [mergeD]
  | (k, d) :: r, kvs, n => by
    have hk : k ∉ kvs.map (·.1) := by
      intro m
      rw [List.map_append, List.nodup_append] at n
      exact n.2.2 k m k (by simp) rfl
    have e : mergeD kvs ((k, d) :: r) = mergeD (putKD kvs k d) r := rfl
    rw [e, put_new _ _ _ hk, merge_new r _ (by rw [List.append_assoc]; exact n), List.append_assoc]; rfl
theorem merge_rows (rs : List Row) (nd : (rs.map Row.kind).Nodup) : mergeD [] (rs.map fun w => ((.inr w.kind : Key), w.d)) = rs.map fun w => ((.inr w.kind : Key), w.d) := by
  refine merge_new _ [] ?_
  rw [List.nil_append, List.map_map]
  rw [List.nodup_iff_pairwise_ne, List.pairwise_map] at nd ⊢
  exact nd.imp fun h e => h (Sum.inr.inj e)
theorem dictP_lst {a : Addr} {xs : List D} {kvs : List (Key × D)} {h : Hd} {Q : DK} (e : h a = some (.lst xs)) (p : pairsO xs = some kvs) (k : ∀ r, h r = none → Q (.ref r) (up h r (.dik (mergeD [] kvs)))) : dictPD [.ref a] h Q := by
  unfold dictPD lstO; simp only [e, p]; exact k
def lampF (i : Int) : D → Option D := fun x => match x with
  | .tup [.str c, .int f, .int l] => if (Lamp.mk c f l).at_ i then some (.str c) else none
  | _ => none
theorem lampF_d (i : Int) (l : Lamp) : lampF i l.d = if l.at_ i then some (.str l.col) else none := rfl
theorem lamps_fm (i : Int) : ∀ ls : List Lamp, (ls.map Lamp.d).filterMap (lampF i) = ((ls.filter fun l => l.at_ i).map Lamp.col).map D.str
  | [] => rfl
  | l :: ls => by
    rw [List.map_cons, List.filterMap_cons, lampF_d, List.filter_cons]
    cases l.at_ i
    · exact lamps_fm i ls
    · show D.str l.col :: _ = _
      rw [lamps_fm i ls]; rfl
theorem pure_is_among (ca : CA) : ∀ ds h Q E, sp_is_among ca ds h Q E → t_is_among ca E { nx := fun _ h' => Q .non h', rt := Q } (dstart ["thing", "least", "most"] ds) h := by
  intro vs h Q E hh
  unfold sp_is_among at hh
  obtain ⟨d, lo, hi, rfl, kn, q⟩ := hh
  cases d with
  | int i =>
    refine isi_int kn (isi_bool kn ?_)
    refine if_b (fun z => ?_) fun z => ?_
    · have e : amD (.int i) lo hi = decide (i ≤ hi) := by simp only [amD, z, Bool.true_and]
      rw [e] at q; exact q
    · have e : amD (.int i) lo hi = false := by simp only [amD, z, Bool.false_and]
      rw [e] at q; exact q
  | bl b => exact isi_int kn (isi_bool kn q)
  | non => exact isi_int kn q
  | str x => exact isi_int kn q
  | ty n => exact isi_int kn q
  | ref a => exact isi_int kn q
  | tup ds => exact isi_int kn q
  | sc ds => exact isi_int kn q
theorem is_among_ {ca : CA} {d : D} {lo hi : Int} {h : Hd} {Q : DK} {E : DXK} (kn : Kn h d) (q : Q (.bl (amD d lo hi)) h) : sp_is_among ca [d, .int lo, .int hi] h Q E := by unfold sp_is_among; exact ⟨d, lo, hi, rfl, kn, q⟩
theorem pure_is_point (ca : CA) : ∀ ds h Q E, sp_is_point ca ds h Q E → t_is_point ca E { nx := fun _ h' => Q .non h', rt := Q } (dstart ["thing"] ds) h := by
  intro vs h Q E hh
  unfold sp_is_point at hh
  obtain ⟨d, rfl, kn, q⟩ := hh
  exact is_among_ kn q
theorem is_point_ {ca : CA} {d : D} {h : Hd} {Q : DK} {E : DXK} (kn : Kn h d) (q : Q (.bl (amD d 0 31)) h) : sp_is_point ca [d] h Q E := by unfold sp_is_point; exact ⟨d, rfl, kn, q⟩
theorem pure_need_point (ca : CA) : ∀ ds h Q E, sp_need_point ca ds h Q E → t_need_point ca E { nx := fun _ h' => Q .non h', rt := Q } (dstart ["thing"] ds) h := by
  intro vs h Q E hh
  unfold sp_need_point at hh
  obtain ⟨d, rfl, kn, q1, q2⟩ := hh
  refine is_point_ kn ?_
  cases z : amD d 0 31 with
  | true => exact q1 z
  | false => exact q2 z
theorem need_point_ {ca : CA} {d : D} {h : Hd} {Q : DK} {E : DXK} (kn : Kn h d) (q1 : amD d 0 31 = true → Q .non h) (q2 : amD d 0 31 = false → E (.ref ca.BadPoint) [] h) : sp_need_point ca [d] h Q E := by unfold sp_need_point; exact ⟨d, rfl, kn, q1, q2⟩
theorem pure_shows (ca : CA) : ∀ ds h Q E, sp_shows ca ds h Q E → t_shows ca E { nx := fun _ h' => Q .non h', rt := Q } (dstart ["lamp", "bearing", "colour", "first", "last"] ds) h := by
  intro vs h Q E hh
  unfold sp_shows at hh
  obtain ⟨l, b, rfl, q⟩ := hh
  exact ⟨rfl, by walk_at "s", by walk_at "s", q⟩
theorem shows_ {ca : CA} {l : Lamp} {b : Int} {h : Hd} {Q : DK} {E : DXK} (q : Q (.bl (l.at_ b)) h) : sp_shows ca [l.d, .int b] h Q E := by unfold sp_shows; exact ⟨l, b, rfl, q⟩
theorem pure_Fleet_plain (ca : CA) : ∀ ds h Q E, sp_Fleet_plain ca ds h Q E → t_Fleet_plain ca E { nx := fun _ h' => Q .non h', rt := Q } (dstart ["self"] ds) h := by
  intro vs h Q E hh
  unfold sp_Fleet_plain at hh
  obtain ⟨a, r, F, rfl, fl, q⟩ := hh
  exact ⟨_, _, fl.e, lk_told, q⟩
theorem pure_Fleet_init (ca : CA) : ∀ ds h Q E, sp_Fleet_init ca ds h Q E → t_Fleet_init ca E { nx := fun _ h' => Q .non h', rt := Q } (dstart ["self", "plain", "row"] ds) h := by
  intro vs h Q E hh
  unfold sp_Fleet_init at hh
  obtain ⟨a, F, rfl, e, ok, q⟩ := hh
  refine ⟨_, e, by decide, ?_⟩
  generalize eh1 : up h a _ = h1
  obtain ⟨e1, b1⟩ := putf_ eh1
  refine ix_tup (at_nn (x := .tup (F.rows.map Row.d)) (by decide) rfl) ?_
  intro p np
  refine lcp_ (h0 := h1) (fun x => match x with | .tup [k, t, l] => some (.tup [k, .tup [k, t, l]]) | _ => none) (fun x m h2 A S b ha hs => ?_) (fun h2 b2 e2 => ?_) _ (But.refl p h1).up up_same
  · obtain ⟨w, mw, rfl⟩ := List.mem_map.mp m
    refine ⟨trivial, ?_⟩
    refine ix_tup (at_nn (x := .str w.kind) (by decide) rfl) ?_
    exact ⟨by walk_at "s", ha _ rfl⟩
  refine ⟨trivial, dictP_lst (kvs := F.rows.map fun w => (.inr w.kind, w.d)) e2 (rows_pairs F.rows) fun r nr => ?_⟩
  rw [merge_rows F.rows ok.knd]
  generalize eh3 : up h2 r _ = h3
  obtain ⟨k3, e3, b3⟩ := newf_ nr eh3
  have k2 := b2.keep np
  have ra : r ≠ a := by rintro rfl; rw [k2 _ _ e1] at nr; cases nr
  refine ⟨_, k3 _ _ (k2 _ _ e1), Nat.le_of_ble_eq_true rfl, ?_⟩
  generalize eh4 : up h3 a _ = h4
  obtain ⟨e4, b4⟩ := putf_ eh4
  have nh1 : h1 r = none := keep_none k2 nr
  refine q r h4 ⟨by rw [e4]; rfl, by rw [b4 _ ra]; exact e3⟩ (by rw [← b1 _ ra]; exact nh1) fun b o z eb => ?_
  rw [b4 _ z]
  exact k3 _ _ (k2 _ _ (by rw [b1 _ z]; exact eb))
theorem pure_Fleet_kinds (ca : CA) : ∀ ds h Q E, sp_Fleet_kinds ca ds h Q E → t_Fleet_kinds ca E { nx := fun _ h' => Q .non h', rt := Q } (dstart ["self", "row"] ds) h := by
  intro vs h Q E hh
  unfold sp_Fleet_kinds at hh
  obtain ⟨a, r, F, rfl, fl, q⟩ := hh
  refine ⟨_, _, fl.e, lk_told, ?_⟩
  refine ix_tup (at_nn (x := .tup (F.rows.map Row.d)) (by decide) rfl) ?_
  intro p np
  refine lcp_ (h0 := h) (fun x => match x with | .tup [k, t, l] => some k | _ => none) (fun x m h2 A S b ha hs => ?_) (fun h2 b2 e2 => ?_) _ (But.refl p h).up up_same
  · obtain ⟨w, mw, rfl⟩ := List.mem_map.mp m
    refine ⟨trivial, ?_⟩
    exact ix_tup (at_nn (x := .str w.kind) (by decide) rfl) (ha _ rfl)
  · refine ⟨trivial, q p h2 np (b2.keep np) ?_⟩
    rw [e2, rows_kinds]
theorem pure_Fleet_row_of (ca : CA) : ∀ ds h Q E, sp_Fleet_row_of ca ds h Q E → t_Fleet_row_of ca E { nx := fun _ h' => Q .non h', rt := Q } (dstart ["self", "kind"] ds) h := by
  intro vs h Q E hh
  unfold sp_Fleet_row_of at hh
  obtain ⟨a, r, F, d, rfl, fl, kn, q1, q2⟩ := hh
  refine isi_str kn ?_
  cases d with
  | str k =>
    refine ⟨_, _, fl.e, lk_rows, _, fl.er, ?_⟩
    have vr := val_rows F.rows k
    rw [show F.rows.find? (fun w => w.kind == k) = F.row k from rfl] at vr
    cases z : F.row k with
    | none =>
      rw [vr, z]
      exact q2 z
    | some w =>
      rw [z] at vr
      rw [vr]
      exact ⟨_, _, fl.e, lk_rows, _, _, fl.er, vr, q1 w z⟩
  | int i => exact q2 rfl
  | bl b => exact q2 rfl
  | non => exact q2 rfl
  | ty n => exact q2 rfl
  | ref a => exact q2 rfl
  | tup ds => exact q2 rfl
  | sc ds => exact q2 rfl
theorem row_of_ {ca : CA} {a r : Addr} {F : Fleet} {d : D} {h : Hd} {Q : DK} {E : DXK} (fl : FlI ca h a r F) (kn : Kn h d) (q1 : ∀ w, F.rowD d = some w → Q w.d h) (q2 : F.rowD d = none → E (.ref ca.NoKind) [] h) : sp_Fleet_row_of ca [.ref a, d] h Q E := by unfold sp_Fleet_row_of; exact ⟨a, r, F, d, rfl, fl, kn, q1, q2⟩
theorem pure_Fleet_turn (ca : CA) : ∀ ds h Q E, sp_Fleet_turn ca ds h Q E → t_Fleet_turn ca E { nx := fun _ h' => Q .non h', rt := Q } (dstart ["self", "kind"] ds) h := by
  intro vs h Q E hh
  unfold sp_Fleet_turn at hh
  obtain ⟨a, r, F, d, rfl, fl, kn, q1, q2⟩ := hh
  exact ⟨_, fl.e, lk_non _ (by decide +kernel) (by decide +kernel), row_of_ fl kn (fun w e => ix_tup (at_nn (x := .int w.turn) (by decide) rfl) (q1 w e)) q2⟩
theorem turn_ {ca : CA} {a r : Addr} {F : Fleet} {d : D} {h : Hd} {Q : DK} {E : DXK} (fl : FlI ca h a r F) (kn : Kn h d) (q1 : ∀ w, F.rowD d = some w → Q (.int w.turn) h) (q2 : F.rowD d = none → E (.ref ca.NoKind) [] h) : sp_Fleet_turn ca [.ref a, d] h Q E := by unfold sp_Fleet_turn; exact ⟨a, r, F, d, rfl, fl, kn, q1, q2⟩
theorem pure_Fleet_lamps (ca : CA) : ∀ ds h Q E, sp_Fleet_lamps ca ds h Q E → t_Fleet_lamps ca E { nx := fun _ h' => Q .non h', rt := Q } (dstart ["self", "kind"] ds) h := by
  intro vs h Q E hh
  unfold sp_Fleet_lamps at hh
  obtain ⟨a, r, F, d, rfl, fl, kn, q1, q2⟩ := hh
  refine ⟨_, fl.e, lk_non _ (by decide +kernel) (by decide +kernel), row_of_ fl kn (fun w e => ?_) q2⟩
  refine ix_tup (at_nn (x := .tup (w.lamps.map Lamp.d)) (by decide) rfl) ?_
  refine list_tup fun p np => ?_
  generalize eh : up h p _ = h1
  obtain ⟨k1, e1, b1⟩ := newf_ np eh
  exact q1 w e p h1 np k1 e1
theorem lamps_of_ {ca : CA} {a r : Addr} {F : Fleet} {d : D} {h : Hd} {Q : DK} {E : DXK} (fl : FlI ca h a r F) (kn : Kn h d) (q1 : ∀ w, F.rowD d = some w → ∀ p h', h p = none → Keep h h' → h' p = some (.lst (w.lamps.map Lamp.d)) → Q (.ref p) h') (q2 : F.rowD d = none → E (.ref ca.NoKind) [] h) : sp_Fleet_lamps ca [.ref a, d] h Q E := by unfold sp_Fleet_lamps; exact ⟨a, r, F, d, rfl, fl, kn, q1, q2⟩
theorem pure_column (ca : CA) : ∀ ds h Q E, sp_column ca ds h Q E → t_column ca E { nx := fun _ h' => Q .non h', rt := Q } (dstart ["fleet", "kind", "bearing", "lamps", "lamp"] ds) h := by
  intro vs h Q E hh
  unfold sp_column at hh
  obtain ⟨a, r, F, d, b, rfl, fl, kd, kb, q0, q⟩ := hh
  refine ⟨_, fl.e, lk_non _ (by decide +kernel) (by decide +kernel), lamps_of_ fl kd (fun w e p h1 np k1 e1 => ?_) q0⟩
  obtain ⟨q1, q2⟩ := q w e
  refine need_point_ (kb.keep k1) (fun z => ?_) fun z => q1 z h1 k1
  obtain ⟨i, rfl, i0, i1⟩ := amD_true z
  refine ⟨_, e1, fun p2 np2 => ?_⟩
  have pp : p ≠ p2 := by rintro rfl; rw [e1] at np2; cases np2
  refine lcp_ (h0 := h1) (lampF i) (fun x m h2 A S b ha hs => ?_) (fun h2 b2 e2 => ?_) _ (But.refl p2 h1).up up_same
  · obtain ⟨l, ml, rfl⟩ := List.mem_map.mp m
    refine ⟨(b _ pp).trans e1, shows_ (if_b (fun z => ?_) fun z => ?_)⟩
    · exact ix_tup (at_nn (x := .str l.col) (by decide) rfl) (ha _ (by rw [lampF_d, if_pos z]))
    · exact hs (by rw [lampF_d, if_neg (by rw [z]; decide)])
  · refine ⟨(b2 _ pp).trans e1, tuple_lst e2 ?_⟩
    rw [lamps_fm]
    exact q2 i rfl ⟨i0, i1⟩ h2 (k1.trans (b2.keep np2))
theorem column_ {ca : CA} {a r : Addr} {F : Fleet} {d b : D} {h : Hd} {Q : DK} {E : DXK} (fl : FlI ca h a r F) (kd : Kn h d) (kb : Kn h b) (q0 : F.rowD d = none → E (.ref ca.NoKind) [] h)
    (q : ∀ w, F.rowD d = some w → (amD b 0 31 = false → ∀ h', Keep h h' → E (.ref ca.BadPoint) [] h') ∧ ∀ i, b = .int i → (0 ≤ i ∧ i ≤ 31) → ∀ h', Keep h h' → Q (.tup ((w.shown i).map D.str)) h') : sp_column ca [.ref a, d, b] h Q E := by unfold sp_column; exact ⟨a, r, F, d, b, rfl, fl, kd, kb, q0, q⟩
theorem pure_seen (ca : CA) : ∀ ds h Q E, sp_seen ca ds h Q E → t_seen ca E { nx := fun _ h' => Q .non h', rt := Q } (dstart ["fleet", "kind", "course", "side"] ds) h := by
  intro vs h Q E hh
  unfold sp_seen at hh
  obtain ⟨a, r, F, d, b, c, rfl, fl, kd, kb, kc, q0, q⟩ := hh
  refine ⟨_, fl.e, lk_non _ (by decide +kernel) (by decide +kernel), turn_ fl kd (fun w e => ?_) q0⟩
  obtain ⟨q1, q2, q3⟩ := q w e
  refine need_point_ kb (fun z => ?_) q1
  refine need_point_ kc (fun z2 => ?_) (q2 z)
  obtain ⟨i, rfl, i0, i1⟩ := amD_true z
  obtain ⟨j, rfl, j0, j1⟩ := amD_true z2
  refine ⟨by walk_at "s", column_ fl kd ⟨_, rfl⟩ (fun z => by rw [e] at z; cases z) fun w' e' => ?_⟩
  rw [e] at e'
  obtain rfl := Option.some.inj e'
  refine ⟨fun z => ?_, fun i' ei _ h' k' => ?_⟩
  · rw [amD_int (by omega) (by omega)] at z; cases z
  · obtain rfl : (j - i) % 32 = i' := by injection ei
    exact q3 i j rfl rfl ⟨i0, i1⟩ ⟨j0, j1⟩ h' k'
end Dl
end
section
namespace Dl
open PySem PySem.Spec PyProof.Rows L2
def colE (F : Fleet) : D → Bool
  | .str s => decide (s ∈ F.cols)
  | _ => false
def colB (F : Fleet) : D → Bool
  | .tup ds => decide (ds.length ≤ 6) && ds.all (colE F)
  | _ => false
def sigB (F : Fleet) : D → Bool
  | .tup [m, s, c] => amD m 0 99 && (amD s 0 31 && colB F c)
  | _ => false
def KnT (h : Hd) (d : D) : Prop := Kn h d ∧ ∀ es, d = .tup es → ∀ y ∈ es, Kn h y
structure KnS (h : Hd) (d : D) : Prop where
  k : Kn h d
  i : ∀ m s c, d = .tup [m, s, c] → Kn h m ∧ Kn h s ∧ KnT h c
theorem KnT.keep {h h' : Hd} {d : D} (k : Keep h h') (x : KnT h d) : KnT h' d := ⟨x.1.keep k, fun es e y m => (x.2 es e y m).keep k⟩
theorem KnS.keep {h h' : Hd} {d : D} (k : Keep h h') (x : KnS h d) : KnS h' d := ⟨x.k.keep k, fun m s c e => ⟨(x.i m s c e).1.keep k, (x.i m s c e).2.1.keep k, (x.i m s c e).2.2.keep k⟩⟩
theorem Sight.kn (h : Hd) (s : Sight) : KnS h s.d := ⟨⟨_, rfl⟩, fun m t c e => by
  unfold Sight.d at e
  injection e with e
  injection e with e1 e
  injection e with e2 e
  injection e with e3 _
  subst e1; subst e2; subst e3
  refine ⟨⟨_, rfl⟩, ⟨_, rfl⟩, ⟨_, rfl⟩, fun es ee y my => ?_⟩
  injection ee with ee
  subst ee
  obtain ⟨z, _, rfl⟩ := List.mem_map.mp my
  exact ⟨_, rfl⟩⟩
theorem colE_all {F : Fleet} : ∀ {ds : List D}, ds.all (colE F) = true → ∃ cs : List Str, ds = cs.map D.str ∧ ∀ c ∈ cs, c ∈ F.cols
  | [], _ => ⟨[], rfl, fun c m => by cases m⟩
  | d :: ds, e => by
    rw [List.all_cons, Bool.and_eq_true] at e
    obtain ⟨cs, rfl, hc⟩ := colE_all e.2
    cases d <;> first | (have z : false = true := e.1; cases z) | skip
    case str s =>
    exact ⟨s :: cs, rfl, fun c m => by
      rcases List.mem_cons.mp m with rfl | m
      · exact of_decide_eq_true e.1
      · exact hc c m⟩
theorem sig_of {F : Fleet} {d : D} (e : sigB F d = true) : ∃ s : Sight, d = s.d ∧ s.ok F := by
  unfold sigB at e
  split at e
  · rename_i m s c
    rw [Bool.and_eq_true, Bool.and_eq_true] at e
    obtain ⟨e1, e2, e3⟩ := e
    obtain ⟨i, rfl, i0, i1⟩ := amD_true e1
    obtain ⟨j, rfl, j0, j1⟩ := amD_true e2
    unfold colB at e3
    split at e3
    · rename_i ds
      rw [Bool.and_eq_true] at e3
      obtain ⟨cs, rfl, hc⟩ := colE_all e3.2
      have l := of_decide_eq_true e3.1
      rw [List.length_map] at l
      exact ⟨⟨i, j, cs⟩, rfl, ⟨i0, i1, j0, by show j < 32; omega, l, hc⟩⟩
    · cases e3
  · cases e
theorem sig_ok {F : Fleet} {s : Sight} (o : s.ok F) : sigB F s.d = true := by
  have a := o.m0; have b := o.m1; have c := o.s0; have d := o.s1
  show (amD (.int s.mo) 0 99 && (amD (.int s.sd) 0 31 && (decide ((s.cols.map D.str).length ≤ 6) && (s.cols.map D.str).all (colE F)))) = true
  rw [amD_int a b, amD_int c (by omega), decide_eq_true (by rw [List.length_map]; exact o.cn), Bool.true_and, Bool.true_and, Bool.true_and]
  rw [List.all_map, List.all_eq_true]
  intro x m
  exact decide_eq_true (o.cs x m)
@[irreducible] def sp_is_moment (_ : CA) : DSp := fun vs h Q _ => ∃ d : D, vs = [d] ∧ Kn h d ∧ Q (.bl (amD d 0 99)) h
@[irreducible] def sp_is_column (ca : CA) : DSp := fun vs h Q _ => ∃ (a r : Addr) (F : Fleet) (d : D), vs = [.ref a, d] ∧ FlI ca h a r F ∧ KnT h d ∧ ∀ h', Keep h h' → Q (.bl (colB F d)) h'
@[irreducible] def sp_is_sight (ca : CA) : DSp := fun vs h Q _ => ∃ (a r : Addr) (F : Fleet) (d : D), vs = [.ref a, d] ∧ FlI ca h a r F ∧ KnS h d ∧ ∀ h', Keep h h' → Q (.bl (sigB F d)) h'
@[irreducible] def sp_need_sight (ca : CA) : DSp := fun vs h Q E => ∃ (a r : Addr) (F : Fleet) (d : D), vs = [.ref a, d] ∧ FlI ca h a r F ∧ KnS h d ∧ (sigB F d = true → ∀ h', Keep h h' → Q .non h') ∧ (sigB F d = false → ∀ h', Keep h h' → E (.ref ca.BadSight) [] h')
structure WaI (ca : CA) (h : Hd) (w f r k : Addr) (F : Fleet) (ss : List Sight) : Prop where
  e : h w = some (.ins ca.Watch [("ships", .ref f), ("kept", .ref k)])
  fl : FlI ca h f r F
  ek : h k = some (.lst (ss.map Sight.d))
  ok : ∀ s ∈ ss, s.ok F
  few : ss.length ≤ 200
theorem WaI.keep {ca : CA} {h h' : Hd} {w f r k : Addr} {F : Fleet} {ss : List Sight} (x : WaI ca h w f r k F ss) (q : Keep h h') : WaI ca h' w f r k F ss := ⟨q _ _ x.e, x.fl.keep q, q _ _ x.ek, x.ok, x.few⟩
@[irreducible] def sp_Watch_init (ca : CA) : DSp := fun vs h Q _ => ∃ (w f : Addr), vs = [.ref w, .ref f] ∧ h w = some (.ins ca.Watch []) ∧
  ∀ k h', h' w = some (.ins ca.Watch [("ships", .ref f), ("kept", .ref k)]) → h k = none → h' k = some (.lst []) → (∀ b o, b ≠ w → h b = some o → h' b = some o) → Q .non h'
@[irreducible] def sp_Watch_fleet (ca : CA) : DSp := fun vs h Q _ => ∃ (w f r k : Addr) (F : Fleet) (ss : List Sight), vs = [.ref w] ∧ WaI ca h w f r k F ss ∧ Q (.ref f) h
@[irreducible] def sp_Watch_sights (ca : CA) : DSp := fun vs h Q _ => ∃ (w f r k : Addr) (F : Fleet) (ss : List Sight), vs = [.ref w] ∧ WaI ca h w f r k F ss ∧ ∀ p h', h p = none → Keep h h' → h' p = some (.lst (ss.map Sight.d)) → Q (.ref p) h'
def lastMo : List Sight → D
  | [] => .non
  | s :: r => .int ((r.map Sight.mo).foldl max s.mo)
@[irreducible] def sp_Watch_last_moment (ca : CA) : DSp := fun vs h Q _ => ∃ (w f r k : Addr) (F : Fleet) (ss : List Sight), vs = [.ref w] ∧ WaI ca h w f r k F ss ∧ ∀ h', Keep h h' → Q (lastMo ss) h'
@[irreducible] def sp_Watch_put (ca : CA) : DSp := fun vs h Q E => ∃ (w f r k : Addr) (F : Fleet) (ss : List Sight) (d : D), vs = [.ref w, d] ∧ WaI ca h w f r k F ss ∧ KnS h d ∧
  (sigB F d = false → ∀ h', Keep h h' → E (.ref ca.BadSight) [] h') ∧ (sigB F d = true → ss.length = 200 → ∀ h', Keep h h' → E (.ref ca.Full) [] h') ∧
  ∀ s : Sight, d = s.d → s.ok F → ss.length < 200 → ∀ h', h' k = some (.lst ((ss ++ [s]).map Sight.d)) → (∀ b o, b ≠ k → h b = some o → h' b = some o) → Q .non h'
end Dl
end
section
namespace Dl
open PySem PySem.Spec PyProof.Rows L2
def t_is_moment (ca : CA) (E : DXK) : DTS := (dRet (dCall (sp_is_among ca) (fun cls fs _ h => E cls fs h) (dCons (dVar 0) (dCons (dC (.int 0)) (dCons (dC (.int 99)) dNil)))))
def t_is_column (ca : CA) (E : DXK) : DTS := (dSeq (dIfS (dOrT (dNotT (dB (dCB isiD (dCons (dVar 1) (dCons (dC (.ty "tuple")) dNil))))) (dB (dOp gtD (dCB lenD (dCons (dVar 1) dNil)) (dC (.int 6)))))
    (dRet (dC (.bl false)))
    dNext)
    (dSeq (dAsg (dOp ixD (dMeth ca.Fleet "plain" (sp_Fleet_plain ca) (fun cls fs _ h => E cls fs h) (dVar 0) dNil) (dC (.int 0))) (dgName 2))
    (dRet (dCB allD (dCons (dLc (dSeqI (dVar 1)) (.one 3) dYes (dAnd (dCB isiD (dCons (dVar 3) (dCons (dC (.ty "str")) dNil))) (dOp (inD false) (dVar 3) (dVar 2)))) dNil)))))
def t_is_sight (ca : CA) (E : DXK) : DTS := (dSeq (dIfS (dOrT (dNotT (dB (dCB isiD (dCons (dVar 1) (dCons (dC (.ty "tuple")) dNil))))) (dB (dOp neD (dCB lenD (dCons (dVar 1) dNil)) (dC (.int 3)))))
    (dRet (dC (.bl false)))
    dNext)
    (dRet (dAnd (dCall (sp_is_moment ca) (fun cls fs _ h => E cls fs h) (dCons (dOp ixD (dVar 1) (dC (.int 0))) dNil)) (dAnd (dCall (sp_is_point ca) (fun cls fs _ h => E cls fs h) (dCons (dOp ixD (dVar 1) (dC (.int 1))) dNil)) (dCall (sp_is_column ca) (fun cls fs _ h => E cls fs h) (dCons (dVar 0) (dCons (dOp ixD (dVar 1) (dC (.int 2))) dNil)))))))
def t_need_sight (ca : CA) (E : DXK) : DTS := (dIfS (dNotT (dB (dCall (sp_is_sight ca) (fun cls fs _ h => E cls fs h) (dCons (dVar 0) (dCons (dVar 1) dNil)))))
    (dRaise ca.BadSight (fun cls fs _ h => E cls fs h))
    dNext)
def t_Watch_init (ca : CA) (E : DXK) : DTS := (dSeq (dFldS ca.Watch (dVar 0) (dVar 1) "ships")
    (dFldS ca.Watch (dVar 0) (dLst dNil) "kept"))
def t_Watch_fleet (ca : CA) (E : DXK) : DTS := (dRet (dFld ca.Watch (dVar 0) "ships"))
def t_Watch_put (ca : CA) (E : DXK) : DTS := (dSeq (dDrop (dCall (sp_need_sight ca) (fun cls fs _ h => E cls fs h) (dCons (dFld ca.Watch (dVar 0) "ships") (dCons (dVar 1) dNil))))
    (dSeq (dIfS (dB (dOp eqD (dCB lenD (dCons (dFld ca.Watch (dVar 0) "kept") dNil)) (dC (.int 200))))
    (dRaise ca.Full (fun cls fs _ h => E cls fs h))
    dNext)
    (dDrop (dBM "list" appendD (dFld ca.Watch (dVar 0) "kept") (dCons (dVar 1) dNil)))))
def t_Watch_sights (ca : CA) (E : DXK) : DTS := (dRet (dCB listD (dCons (dFld ca.Watch (dVar 0) "kept") dNil)))
def t_Watch_last_moment (ca : CA) (E : DXK) : DTS := (dRet (dMaxN (dCons (dLc (dSeqI (dFld ca.Watch (dVar 0) "kept")) (.tup [1, 2, 3]) dYes (dVar 1)) dNil)))
end Dl
end
section
local macro_rules | `(tactic| walk_at "s") => `(tactic| first | (decide) | (omega) | (dsimp only; omega) | exact Dl.sz_ (Nat.le_of_ble_eq_true rfl) | (refine Dl.sz_ ?_; simp only [List.length_map, List.length_append, List.length_cons, List.length_nil]; omega))
local macro_rules | `(tactic| walk_at "cmul") => `(tactic| first | exact Or.inr ⟨by decide, by decide⟩ | exact Or.inl ⟨by decide, by decide⟩ | exact Or.inr ⟨by omega, by omega⟩ | exact Or.inl ⟨by omega, by omega⟩)
namespace Dl
open PySem PySem.Spec PyProof.Rows L2
theorem plain_ {ca : CA} {a r : Addr} {F : Fleet} {h : Hd} {Q : DK} {E : DXK} (fl : FlI ca h a r F) (q : Q F.d h) : sp_Fleet_plain ca [.ref a] h Q E := by unfold sp_Fleet_plain; exact ⟨a, r, F, rfl, fl, q⟩
theorem fm_some {α β : Type} {g : α → β} : ∀ xs : List α, xs.filterMap (fun x => some (g x)) = xs.map g
  | [] => rfl
  | x :: xs => by rw [List.filterMap_cons, fm_some xs]; rfl
theorem mos : ∀ ss : List Sight, (ss.map Sight.d).filterMap (fun x => match x with | .tup [m, s, c] => some m | _ => none) = (ss.map Sight.mo).map D.int
  | [] => rfl
  | s :: ss => by rw [List.map_cons, List.map_cons, List.map_cons, ← mos ss]; rfl
theorem str_inj {x y : List Str} (e : x.map D.str = y.map D.str) : x = y := by
  induction x generalizing y with
  | nil => cases y with
    | nil => rfl
    | cons _ _ => cases e
  | cons a x ih =>
    cases y with
    | nil => cases e
    | cons b y =>
      rw [List.map_cons, List.map_cons] at e
      obtain ⟨e1, e2⟩ := List.cons.inj e
      injection e1 with e1
      rw [e1, ih e2]
theorem Sight.inj {s t : Sight} (e : s.d = t.d) : s = t := by
  obtain ⟨a, b, c⟩ := s; obtain ⟨a', b', c'⟩ := t
  unfold Sight.d at e
  injection e with e
  injection e with e1 e
  injection e with e2 e
  injection e with e3 _
  injection e1 with e1
  injection e2 with e2
  injection e3 with e3
  have := str_inj e3
  simp only at e1 e2 this
  subst e1; subst e2; subst this; rfl
theorem lw_ships {x y : D} : List.lookup ("ships" : Str) [(("ships" : Str), x), (("kept" : Str), y)] = some x := by
  unfold List.lookup; rw [show (("ships" : Str) == ("ships" : Str)) = true by decide +kernel]
theorem lw_kept {x y : D} : List.lookup ("kept" : Str) [(("ships" : Str), x), (("kept" : Str), y)] = some y := by
  unfold List.lookup; rw [show (("kept" : Str) == ("ships" : Str)) = false by decide +kernel]; unfold List.lookup; rw [show (("kept" : Str) == ("kept" : Str)) = true by decide +kernel]
theorem lw_non (m : Str) {x y : D} (h1 : (m == ("ships" : Str)) = false) (h2 : (m == ("kept" : Str)) = false) : List.lookup m [(("ships" : Str), x), (("kept" : Str), y)] = none := by
  unfold List.lookup; rw [h1]; unfold List.lookup; rw [h2]; rfl
theorem pure_is_moment (ca : CA) : ∀ ds h Q E, sp_is_moment ca ds h Q E → t_is_moment ca E { nx := fun _ h' => Q .non h', rt := Q } (dstart ["thing"] ds) h := by
  intro vs h Q E hh
  unfold sp_is_moment at hh
  obtain ⟨d, rfl, kn, q⟩ := hh
  exact is_among_ kn q
theorem is_moment_ {ca : CA} {d : D} {h : Hd} {Q : DK} {E : DXK} (kn : Kn h d) (q : Q (.bl (amD d 0 99)) h) : sp_is_moment ca [d] h Q E := by unfold sp_is_moment; exact ⟨d, rfl, kn, q⟩
theorem pure_is_column (ca : CA) : ∀ ds h Q E, sp_is_column ca ds h Q E → t_is_column ca E { nx := fun _ h' => Q .non h', rt := Q } (dstart ["fleet", "thing", "colours", "colour"] ds) h := by
  intro vs h Q E hh
  unfold sp_is_column at hh
  obtain ⟨a, r, F, d, rfl, fl, kn, q⟩ := hh
  have R := Keep.refl h
  refine isi_tup kn.1 ?_
  cases d with
  | int i => exact q h R
  | bl b => exact q h R
  | non => exact q h R
  | str x => exact q h R
  | ty n => exact q h R
  | ref a => exact q h R
  | sc ds => exact q h R
  | tup ds =>
    refine len_tup (if_b (fun z => ?_) fun z => ?_)
    · have z := of_decide_eq_true z
      have e : colB F (.tup ds) = false := by
        show (decide (ds.length ≤ 6) && _) = false
        rw [decide_eq_false (by omega), Bool.false_and]
      rw [e] at q; exact q h R
    · have z := of_decide_eq_false z
      refine ⟨_, fl.e, lk_non _ (by decide +kernel) (by decide +kernel), plain_ fl ?_⟩
      refine ix_tup (at_nn (x := .tup (F.cols.map D.str)) (by decide) rfl) ?_
      intro p np
      refine lcp_ (h0 := h) (fun x => some (.bl (colE F x))) (fun x m h2 A S b ha hs => ?_) (fun h2 b2 e2 => ?_) _ (But.refl p h).up up_same
      · have kx := (kn.2 ds rfl x m).keep (b.keep np)
        refine ⟨trivial, isi_str kx ?_⟩
        cases x with
        | str s => exact in_tup (ha _ rfl)
        | int i => exact ha _ rfl
        | bl b => exact ha _ rfl
        | non => exact ha _ rfl
        | ty n => exact ha _ rfl
        | ref a => exact ha _ rfl
        | sc ds => exact ha _ rfl
        | tup ds => exact ha _ rfl
      · refine ⟨trivial, all_lst (ns := ds.map (colE F)) (e2.trans (by rw [fm_some, List.map_map]; rfl)) ?_⟩
        have e : colB F (.tup ds) = (ds.map (colE F)).all id := by
          show (decide (ds.length ≤ 6) && _) = _
          rw [decide_eq_true (by omega), Bool.true_and, List.all_map]; rfl
        rw [e] at q; exact q h2 (b2.keep np)
theorem is_column_ {ca : CA} {a r : Addr} {F : Fleet} {d : D} {h : Hd} {Q : DK} {E : DXK} (fl : FlI ca h a r F) (kn : KnT h d) (q : ∀ h', Keep h h' → Q (.bl (colB F d)) h') : sp_is_column ca [.ref a, d] h Q E := by unfold sp_is_column; exact ⟨a, r, F, d, rfl, fl, kn, q⟩
theorem pure_is_sight (ca : CA) : ∀ ds h Q E, sp_is_sight ca ds h Q E → t_is_sight ca E { nx := fun _ h' => Q .non h', rt := Q } (dstart ["fleet", "thing"] ds) h := by
  intro vs h Q E hh
  unfold sp_is_sight at hh
  obtain ⟨a, r, F, d, rfl, fl, kn, q⟩ := hh
  have R := Keep.refl h
  refine isi_tup kn.k ?_
  cases d with
  | int i => exact q h R
  | bl b => exact q h R
  | non => exact q h R
  | str x => exact q h R
  | ty n => exact q h R
  | ref a => exact q h R
  | sc ds => exact q h R
  | tup ds =>
    refine len_tup (ne_int (if_b (fun z => ?_) fun z => ?_))
    · have e : sigB F (.tup ds) = false := by
        unfold sigB
        split
        · rename_i m s c e
          injection e with e
          rw [e] at z
          have z' : false = true := z
          cases z'
        · rfl
      rw [e] at q; exact q h R
    · have z' : (ds.length : Int) = 3 := by simpa using z
      have l3 : ds.length = 3 := by omega
      obtain ⟨m, s, c, rfl⟩ : ∃ m s c, ds = [m, s, c] := by
        match ds, l3 with
        | [m, s, c], _ => exact ⟨m, s, c, rfl⟩
      obtain ⟨k1, k2, k3⟩ := kn.i m s c rfl
      have e : sigB F (.tup [m, s, c]) = (amD m 0 99 && (amD s 0 31 && colB F c)) := rfl
      rw [e] at q
      refine ix_tup (at_nn (x := m) (by decide) rfl) ?_
      refine is_moment_ k1 (if_b (fun z1 => ?_) fun z1 => ?_)
      · rw [z1, Bool.true_and] at q
        refine ix_tup (at_nn (x := s) (by decide) rfl) ?_
        refine is_point_ k2 (if_b (fun z2 => ?_) fun z2 => ?_)
        · rw [z2, Bool.true_and] at q
          refine ix_tup (at_nn (x := c) (by decide) rfl) ?_
          exact is_column_ fl k3 q
        · rw [z2, Bool.false_and] at q; exact q h R
      · rw [z1, Bool.false_and] at q; exact q h R
theorem is_sight_ {ca : CA} {a r : Addr} {F : Fleet} {d : D} {h : Hd} {Q : DK} {E : DXK} (fl : FlI ca h a r F) (kn : KnS h d) (q : ∀ h', Keep h h' → Q (.bl (sigB F d)) h') : sp_is_sight ca [.ref a, d] h Q E := by unfold sp_is_sight; exact ⟨a, r, F, d, rfl, fl, kn, q⟩
theorem pure_need_sight (ca : CA) : ∀ ds h Q E, sp_need_sight ca ds h Q E → t_need_sight ca E { nx := fun _ h' => Q .non h', rt := Q } (dstart ["fleet", "thing"] ds) h := by
  intro vs h Q E hh
  unfold sp_need_sight at hh
  obtain ⟨a, r, F, d, rfl, fl, kn, q1, q2⟩ := hh
  refine is_sight_ fl kn fun h' k' => ?_
  cases z : sigB F d with
  | true => exact q1 z h' k'
  | false => exact q2 z h' k'
theorem need_sight_ {ca : CA} {a r : Addr} {F : Fleet} {d : D} {h : Hd} {Q : DK} {E : DXK} (fl : FlI ca h a r F) (kn : KnS h d) (q1 : sigB F d = true → ∀ h', Keep h h' → Q .non h') (q2 : sigB F d = false → ∀ h', Keep h h' → E (.ref ca.BadSight) [] h') : sp_need_sight ca [.ref a, d] h Q E := by unfold sp_need_sight; exact ⟨a, r, F, d, rfl, fl, kn, q1, q2⟩
theorem pure_Watch_init (ca : CA) : ∀ ds h Q E, sp_Watch_init ca ds h Q E → t_Watch_init ca E { nx := fun _ h' => Q .non h', rt := Q } (dstart ["self", "fleet"] ds) h := by
  intro vs h Q E hh
  unfold sp_Watch_init at hh
  obtain ⟨w, f, rfl, e, q⟩ := hh
  refine ⟨_, e, by decide, ?_⟩
  generalize eh1 : up h w _ = h1
  obtain ⟨e1, b1⟩ := putf_ eh1
  refine ⟨by walk_at "s", fun k nk => ?_⟩
  generalize eh2 : up h1 k _ = h2
  obtain ⟨k2, e2, b2⟩ := newf_ nk eh2
  have kw : k ≠ w := by rintro rfl; rw [e1] at nk; cases nk
  refine ⟨_, k2 _ _ e1, Nat.le_of_ble_eq_true rfl, ?_⟩
  generalize eh3 : up h2 w _ = h3
  obtain ⟨e3, b3⟩ := putf_ eh3
  refine q k h3 e3 (by rw [← b1 _ kw]; exact nk) (by rw [b3 _ kw]; exact e2) fun b o z eb => ?_
  rw [b3 _ z]
  exact k2 _ _ (by rw [b1 _ z]; exact eb)
theorem pure_Watch_fleet (ca : CA) : ∀ ds h Q E, sp_Watch_fleet ca ds h Q E → t_Watch_fleet ca E { nx := fun _ h' => Q .non h', rt := Q } (dstart ["self"] ds) h := by
  intro vs h Q E hh
  unfold sp_Watch_fleet at hh
  obtain ⟨w, f, r, k, F, ss, rfl, wa, q⟩ := hh
  exact ⟨_, _, wa.e, lw_ships, q⟩
theorem pure_Watch_sights (ca : CA) : ∀ ds h Q E, sp_Watch_sights ca ds h Q E → t_Watch_sights ca E { nx := fun _ h' => Q .non h', rt := Q } (dstart ["self"] ds) h := by
  intro vs h Q E hh
  unfold sp_Watch_sights at hh
  obtain ⟨w, f, r, k, F, ss, rfl, wa, q⟩ := hh
  refine ⟨_, _, wa.e, lw_kept, list_lst wa.ek fun p np => ?_⟩
  generalize eh : up h p _ = h1
  obtain ⟨k1, e1, b1⟩ := newf_ np eh
  exact q p h1 np k1 e1
theorem pure_Watch_last_moment (ca : CA) : ∀ ds h Q E, sp_Watch_last_moment ca ds h Q E → t_Watch_last_moment ca E { nx := fun _ h' => Q .non h', rt := Q } (dstart ["self", "moment", "side", "colours"] ds) h := by
  intro vs h Q E hh
  unfold sp_Watch_last_moment at hh
  obtain ⟨w, f, r, k, F, ss, rfl, wa, q⟩ := hh
  refine ⟨_, _, wa.e, lw_kept, _, wa.ek, fun p np => ?_⟩
  have pk : k ≠ p := by rintro rfl; rw [wa.ek] at np; cases np
  refine lcp_ (h0 := h) (fun x => match x with | .tup [m, s, c] => some m | _ => none) (fun x m h2 A S b ha hs => ?_) (fun h2 b2 e2 => ?_) _ (But.refl p h).up up_same
  · obtain ⟨s, ms, rfl⟩ := List.mem_map.mp m
    exact ⟨(b _ pk).trans wa.ek, rfl, ha (.int s.mo) rfl⟩
  · have e : (ss.map Sight.d).filterMap (fun x => match x with | .tup [m, s, c] => some m | _ => none) = (ss.map Sight.mo).map D.int := mos ss
    rw [e] at e2
    refine ⟨(b2 _ pk).trans wa.ek, ints_lst e2 ⟨fun en => ?_, fun n rr en => ?_⟩⟩
    · have : ss = [] := by simpa using en
      subst this
      exact q h2 (b2.keep np)
    · cases ss with
      | nil => cases en
      | cons s rest =>
        rw [List.map_cons] at en
        obtain ⟨rfl, rfl⟩ := List.cons.inj en
        exact q h2 (b2.keep np)
theorem pure_Watch_put (ca : CA) : ∀ ds h Q E, sp_Watch_put ca ds h Q E → t_Watch_put ca E { nx := fun _ h' => Q .non h', rt := Q } (dstart ["self", "sight"] ds) h := by
  intro vs h Q E hh
  unfold sp_Watch_put at hh
  obtain ⟨w, f, r, k, F, ss, d, rfl, wa, kn, q1, q2, q3⟩ := hh
  refine ⟨_, _, wa.e, lw_ships, need_sight_ wa.fl kn (fun z h1 k1 => ?_) q1⟩
  have w1 := wa.keep k1
  refine ⟨_, _, w1.e, lw_kept, len_lst w1.ek (eq_int (if_b (fun z2 => ?_) fun z2 => ?_))⟩
  · have l := of_decide_eq_true z2
    rw [List.length_map] at l
    exact q2 z (by omega) h1 k1
  · have l := of_decide_eq_false z2
    rw [List.length_map] at l
    have few := wa.few
    obtain ⟨s, rfl, so⟩ := sig_of z
    refine ⟨_, _, w1.e, lw_kept, ⟨rfl, _, w1.ek⟩, _, w1.ek, by rw [List.length_map, szL]; omega, ?_⟩
    generalize eh2 : up h1 k _ = h2
    obtain ⟨e2, b2⟩ := putf_ eh2
    refine q3 s rfl so (by omega) h2 (by rw [e2, List.map_append]; rfl) fun b o zb eb => ?_
    rw [b2 _ zb]; exact k1 _ _ eb
theorem put_sight_ {ca : CA} {w f r k : Addr} {F : Fleet} {ss : List Sight} {s : Sight} {h : Hd} {Q : DK} {E : DXK} (wa : WaI ca h w f r k F ss) (so : s.ok F) (l : ss.length < 200) (q : ∀ h', WaI ca h' w f r k F (ss ++ [s]) → (∀ b o, b ≠ k → h b = some o → h' b = some o) → Q .non h') : sp_Watch_put ca [.ref w, s.d] h Q E := by
  unfold sp_Watch_put
  refine ⟨w, f, r, k, F, ss, s.d, rfl, wa, s.kn h, fun z => ?_, fun _ z => absurd z (by omega), fun s' e so' l' h' ek kb => ?_⟩
  · rw [sig_ok so] at z; cases z
  · obtain rfl : s = s' := Sight.inj e
    have wk : w ≠ k := by rintro rfl; have := wa.e; rw [wa.ek] at this; cases this
    have fk : f ≠ k := by rintro rfl; have := wa.fl.e; rw [wa.ek] at this; cases this
    have rk : r ≠ k := by rintro rfl; have := wa.fl.er; rw [wa.ek] at this; cases this
    refine q h' ⟨kb _ _ wk wa.e, ⟨kb _ _ fk wa.fl.e, kb _ _ rk wa.fl.er⟩, ek, fun x m => ?_, by rw [List.length_append, List.length_singleton]; omega⟩ kb
    rcases List.mem_append.mp m with m | m
    · exact wa.ok x m
    · obtain rfl := List.mem_singleton.mp m; exact so
end Dl
end
section
namespace Dl
open PySem PySem.Spec PyProof.Rows L2
def oD : Option Int → D
  | none => .non
  | some i => .int i
def hid (whole part : List Str) : Option Int := if part.isSublist whole then some ((whole.length : Int) - part.length) else none
structure LL (h : Hd) (p : Addr) (qs : List Addr) (xss : List (List D)) : Prop where
  e : h p = some (.lst (qs.map D.ref))
  nd : qs.Nodup
  np : p ∉ qs
  len : qs.length = xss.length
  it : ∀ (i : Nat) (q : Addr) (xs : List D), qs[i]? = some q → xss[i]? = some xs → h q = some (.lst xs)
theorem LL.keep {h h' : Hd} {p : Addr} {qs : List Addr} {xss : List (List D)} (x : LL h p qs xss) (k : Keep h h') : LL h' p qs xss := ⟨k _ _ x.e, x.nd, x.np, x.len, fun i q xs a b => k _ _ (x.it i q xs a b)⟩
def nMo : List Sight → Nat
  | [] => 0
  | s :: r => ((r.map Sight.mo).foldl max s.mo).toNat + 1
def byMo (ss : List Sight) : List (List Sight) := (List.range (nMo ss)).map fun m : Nat => ss.filter fun s => s.mo == (m : Int)
def costO (w : Row) (co : Int) (ss : List Sight) : Option Int := ss.foldl (fun acc s => acc.bind fun a => (hid (w.shown ((s.sd - co) % 32)) s.cols).map (a + ·)) (some 0)
def costRow (w : Row) (ss : List Sight) : List (Option Int) := (List.range 32).map fun co : Nat => costO w co ss
def costTab (w : Row) (ss : List Sight) : List (List (Option Int)) := (byMo ss).map (costRow w)
@[irreducible] def sp_left_out (_ : CA) : DSp := fun vs h Q _ => ∃ whole part : List Str, vs = [.tup (whole.map D.str), .tup (part.map D.str)] ∧ Q (oD (hid whole part)) h
@[irreducible] def sp_hides (ca : CA) : DSp := fun vs h Q E => ∃ (a r : Addr) (F : Fleet) (d b s : D), vs = [.ref a, d, b, s] ∧ FlI ca h a r F ∧ Kn h d ∧ Kn h b ∧ KnS h s ∧ (F.rowD d = none → E (.ref ca.NoKind) [] h) ∧
  (∀ w, F.rowD d = some w → (amD b 0 31 = false → E (.ref ca.BadPoint) [] h) ∧ (amD b 0 31 = true → sigB F s = false → ∀ h', Keep h h' → E (.ref ca.BadSight) [] h') ∧
    ∀ (co : Int) (g : Sight), b = .int co → (0 ≤ co ∧ co ≤ 31) → s = g.d → g.ok F → ∀ h', Keep h h' → Q (oD (hid (w.shown ((g.sd - co) % 32)) g.cols)) h')
@[irreducible] def sp_by_moments (ca : CA) : DSp := fun vs h Q _ => ∃ (w f r k : Addr) (F : Fleet) (ss : List Sight), vs = [.ref w] ∧ WaI ca h w f r k F ss ∧
  ∀ p qs h', Keep h h' → LL h' p qs ((byMo ss).map fun x => x.map Sight.d) → Q (.ref p) h'
@[irreducible] def sp_cost_of (ca : CA) : DSp := fun vs h Q _ => ∃ (a r p : Addr) (F : Fleet) (k : Str) (w : Row) (co : Int) (ss : List Sight), vs = [.ref a, .str k, .int co, .ref p] ∧ FlI ca h a r F ∧ F.row k = some w ∧ (0 ≤ co ∧ co ≤ 31) ∧ h p = some (.lst (ss.map Sight.d)) ∧ (∀ s ∈ ss, s.ok F) ∧
  ∀ h', Keep h h' → Q (oD (costO w co ss)) h'
@[irreducible] def sp_costs_of (ca : CA) : DSp := fun vs h Q _ => ∃ (a f r k : Addr) (F : Fleet) (ss : List Sight) (kd : Str) (w : Row), vs = [.ref a, .str kd] ∧ WaI ca h a f r k F ss ∧ F.row kd = some w ∧
  ∀ p qs h', Keep h h' → LL h' p qs ((costTab w ss).map fun x => x.map oD) → Q (.ref p) h'
theorem left_out_ {ca : CA} {whole part : List Str} {h : Hd} {Q : DK} {E : DXK} (q : Q (oD (hid whole part)) h) : sp_left_out ca [.tup (whole.map D.str), .tup (part.map D.str)] h Q E := by unfold sp_left_out; exact ⟨whole, part, rfl, q⟩
theorem hides_ {ca : CA} {a r : Addr} {F : Fleet} {k : Str} {w : Row} {co : Int} {g : Sight} {h : Hd} {Q : DK} {E : DXK} (fl : FlI ca h a r F) (e : F.row k = some w) (c : 0 ≤ co ∧ co ≤ 31) (go : g.ok F)
    (q : ∀ h', Keep h h' → Q (oD (hid (w.shown ((g.sd - co) % 32)) g.cols)) h') : sp_hides ca [.ref a, .str k, .int co, g.d] h Q E := by
  unfold sp_hides
  refine ⟨a, r, F, .str k, .int co, g.d, rfl, fl, ⟨_, rfl⟩, ⟨_, rfl⟩, g.kn h, fun z => ?_, fun w' e' => ⟨fun z => ?_, fun _ z => ?_, fun co' g' eb _ es _ h' k' => ?_⟩⟩
  · rw [show F.rowD (.str k) = F.row k from rfl, e] at z; cases z
  · rw [amD_int c.1 c.2] at z; cases z
  · rw [sig_ok go] at z; cases z
  · rw [show F.rowD (.str k) = F.row k from rfl, e] at e'
    obtain rfl := Option.some.inj e'
    obtain rfl : co = co' := by injection eb
    obtain rfl := Sight.inj es
    exact q h' k'
theorem cost_of_ {ca : CA} {a r p : Addr} {F : Fleet} {k : Str} {w : Row} {co : Int} {ss : List Sight} {h : Hd} {Q : DK} {E : DXK} (fl : FlI ca h a r F) (e : F.row k = some w) (c : 0 ≤ co ∧ co ≤ 31) (ep : h p = some (.lst (ss.map Sight.d))) (so : ∀ s ∈ ss, s.ok F)
    (q : ∀ h', Keep h h' → Q (oD (costO w co ss)) h') : sp_cost_of ca [.ref a, .str k, .int co, .ref p] h Q E := by unfold sp_cost_of; exact ⟨a, r, p, F, k, w, co, ss, rfl, fl, e, c, ep, so, q⟩
def adv (rest : List Str) (c : Str) : List Str := match rest with
  | [] => []
  | p :: ps => if p = c then ps else p :: ps
theorem adv_sub : ∀ (whole part : List Str), part.isSublist whole = (whole.foldl adv part).isEmpty
  | [], [] => rfl
  | [], _ :: _ => rfl
  | c :: r, [] => by
    rw [List.foldl_cons]
    have e := adv_sub r []
    rw [show adv [] c = [] from rfl, ← e]
    cases r <;> rfl
  | c :: r, p :: ps => by
    rw [List.foldl_cons]
    unfold List.isSublist
    by_cases e : p = c
    · rw [show (p == c) = true by rw [e]; exact beq_self_eq_true c, show adv (p :: ps) c = ps by simp [adv, e]]
      exact adv_sub r ps
    · rw [show (p == c) = false by simpa using e, show adv (p :: ps) c = p :: ps by simp [adv, e]]
      exact adv_sub r (p :: ps)
end Dl
end
section
namespace Dl
open PySem PySem.Spec PyProof.Rows L2
def t_left_out (ca : CA) (E : DXK) : DTS := (dSeq (dAsg (dC (.int 0)) (dgName 2))
    (dSeq (dFor (dSeqI (dVar 0)) (dgName 3)
    (dIfS (dAndT (dB (dOp ltD (dVar 2) (dCB lenD (dCons (dVar 1) dNil)))) (dB (dOp eqD (dOp ixD (dVar 1) (dVar 2)) (dVar 3))))
    (dAsg (dOp addD (dVar 2) (dC (.int 1))) (dgName 2))
    dNext))
    (dRet (dIfE (dB (dOp eqD (dVar 2) (dCB lenD (dCons (dVar 1) dNil)))) (dOp subD (dCB lenD (dCons (dVar 0) dNil)) (dCB lenD (dCons (dVar 1) dNil))) (dC .non)))))
def t_hides (ca : CA) (E : DXK) : DTS := (dSeq (dDrop (dMeth ca.Fleet "turn" (sp_Fleet_turn ca) (fun cls fs _ h => E cls fs h) (dVar 0) (dCons (dVar 1) dNil)))
    (dSeq (dDrop (dCall (sp_need_point ca) (fun cls fs _ h => E cls fs h) (dCons (dVar 2) dNil)))
    (dSeq (dDrop (dCall (sp_need_sight ca) (fun cls fs _ h => E cls fs h) (dCons (dVar 0) (dCons (dVar 3) dNil))))
    (dRet (dCall (sp_left_out ca) (fun cls fs _ h => E cls fs h) (dCons (dCall (sp_seen ca) (fun cls fs _ h => E cls fs h) (dCons (dVar 0) (dCons (dVar 1) (dCons (dVar 2) (dCons (dOp ixD (dVar 3) (dC (.int 1))) dNil))))) (dCons (dOp ixD (dVar 3) (dC (.int 2))) dNil)))))))
def t_by_moments (ca : CA) (E : DXK) : DTS := (dSeq (dAsg (dMeth ca.Watch "last_moment" (sp_Watch_last_moment ca) (fun cls fs _ h => E cls fs h) (dVar 0) dNil) (dgName 1))
    (dSeq (dAsg (dIfE (dB (dIsN (dVar 1))) (dLst dNil) (dLc (dRng1 (dCons (dOp addD (dVar 1) (dC (.int 1))) dNil)) (.one 4) dYes (dLst dNil))) (dgName 2))
    (dSeq (dFor (dSeqI (dMeth ca.Watch "sights" (sp_Watch_sights ca) (fun cls fs _ h => E cls fs h) (dVar 0) dNil)) (dgName 3)
    (dDrop (dBM "list" appendD (dOp ixD (dVar 2) (dOp ixD (dVar 3) (dC (.int 0)))) (dCons (dVar 3) dNil))))
    (dRet (dVar 2)))))
def t_cost_of (ca : CA) (E : DXK) : DTS := (dSeq (dAsg (dC (.int 0)) (dgName 4))
    (dSeq (dFor (dSeqI (dVar 3)) (dgName 5)
    (dSeq (dAsg (dCall (sp_hides ca) (fun cls fs _ h => E cls fs h) (dCons (dVar 0) (dCons (dVar 1) (dCons (dVar 2) (dCons (dVar 5) dNil))))) (dgName 6))
    (dSeq (dIfS (dB (dIsN (dVar 6)))
    (dRet (dC .non))
    dNext)
    (dAsg (dOp addD (dVar 4) (dVar 6)) (dgName 4)))))
    (dRet (dVar 4))))
def t_costs_of (ca : CA) (E : DXK) : DTS := (dSeq (dAsg (dMeth ca.Watch "fleet" (sp_Watch_fleet ca) (fun cls fs _ h => E cls fs h) (dVar 0) dNil) (dgName 2))
    (dRet (dLc (dSeqI (dCall (sp_by_moments ca) (fun cls fs _ h => E cls fs h) (dCons (dVar 0) dNil))) (.one 3) dYes (dLc (dRng1 (dCons (dC (.int 32)) dNil)) (.one 4) dYes (dCall (sp_cost_of ca) W0 (dCons (dVar 2) (dCons (dVar 1) (dCons (dVar 4) (dCons (dVar 3) dNil)))))))))
end Dl
end
section
local macro_rules | `(tactic| walk_at "s") => `(tactic| first | (decide) | (omega) | (dsimp only; omega) | exact Dl.sz_ (Nat.le_of_ble_eq_true rfl) | (refine Dl.sz_ ?_; simp only [List.length_map, List.length_append, List.length_cons, List.length_nil]; omega))
local macro_rules | `(tactic| walk_at "cmul") => `(tactic| first | exact Or.inr ⟨by decide, by decide⟩ | exact Or.inl ⟨by decide, by decide⟩ | exact Or.inr ⟨by omega, by omega⟩ | exact Or.inl ⟨by omega, by omega⟩)
namespace Dl
open PySem PySem.Spec PyProof.Rows L2
theorem fold_none {w : Row} {co : Int} : ∀ ss : List Sight, ss.foldl (fun acc s => acc.bind fun a => (hid (w.shown ((s.sd - co) % 32)) s.cols).map (a + ·)) (none : Option Int) = none
  | [] => rfl
  | s :: ss => by rw [List.foldl_cons]; exact fold_none ss
theorem seen_ {ca : CA} {a r : Addr} {F : Fleet} {d : D} {w : Row} {i j : Int} {h : Hd} {Q : DK} {E : DXK} (fl : FlI ca h a r F) (e : F.rowD d = some w) (kd : Kn h d) (hi : 0 ≤ i ∧ i ≤ 31) (hj : 0 ≤ j ∧ j ≤ 31)
    (q : ∀ h', Keep h h' → Q (.tup ((w.shown ((j - i) % 32)).map D.str)) h') : sp_seen ca [.ref a, d, .int i, .int j] h Q E := by
  unfold sp_seen
  refine ⟨a, r, F, d, .int i, .int j, rfl, fl, kd, ⟨_, rfl⟩, ⟨_, rfl⟩, fun z => ?_, fun w' e' => ⟨fun z => ?_, fun _ z => ?_, fun i' j' ei ej _ _ h' k' => ?_⟩⟩
  · rw [e] at z; cases z
  · rw [amD_int hi.1 hi.2] at z; cases z
  · rw [amD_int hj.1 hj.2] at z; cases z
  · rw [e] at e'
    obtain rfl := Option.some.inj e'
    obtain rfl : i = i' := by injection ei
    obtain rfl : j = j' := by injection ej
    exact q h' k'
theorem pure_left_out (ca : CA) : ∀ ds h Q E, sp_left_out ca ds h Q E → t_left_out ca E { nx := fun _ h' => Q .non h', rt := Q } (dstart ["whole", "part", "at", "colour"] ds) h := by
  intro vs h Q E hh
  unfold sp_left_out at hh
  obtain ⟨whole, part, rfl, q⟩ := hh
  refine loop_ (fun xs ρ h' => h' = h ∧ ∃ (done rest : List Str) (n : Nat) (o : Option D), whole = done ++ rest ∧ xs = rest.map D.str ∧ n ≤ part.length ∧ done.foldl adv part = part.drop n ∧ ρ = [some (.tup (whole.map D.str)), some (.tup (part.map D.str)), some (.int (n : Int)), o]) ?_ ?_ _ _ _ ⟨rfl, [], whole, 0, none, rfl, rfl, Nat.zero_le _, rfl, rfl⟩
  · rintro x xs ρ h' N ⟨rfl, done, rest, n, o, ew, ex, ln, ea, rfl⟩ hN
    cases rest with
    | nil => cases ex
    | cons c rest =>
    rw [List.map_cons] at ex
    obtain ⟨rfl, rfl⟩ := List.cons.inj ex
    have ew' : whole = (done ++ [c]) ++ rest := by rw [ew]; simp
    have ef : (done ++ [c]).foldl adv part = adv (part.drop n) c := by rw [List.foldl_append, ea]; rfl
    refine ⟨trivial, len_tup (if_b (fun z => ?_) fun z => ?_)⟩
    · have z := of_decide_eq_true z
      rw [List.length_map] at z
      have l : n < part.length := by omega
      have ed : part.drop n = part[n] :: part.drop (n + 1) := List.drop_eq_getElem_cons l
      refine ix_tup (at_nn (x := .str part[n]) (by omega) (by rw [Int.toNat_natCast, List.getElem?_map, List.getElem?_eq_getElem l]; rfl)) ?_
      refine eq_str (if_b (fun z2 => ?_) fun z2 => ?_)
      · have z2 := of_decide_eq_true z2
        refine hN _ _ ⟨rfl, done ++ [c], rest, n + 1, _, ew', rfl, l, ?_, by push_cast; rfl⟩
        rw [ef, ed]; simp [adv, z2]
      · have z2 := of_decide_eq_false z2
        refine hN _ _ ⟨rfl, done ++ [c], rest, n, _, ew', rfl, ln, ?_, rfl⟩
        rw [ef, ed]; simp [adv, z2]
    · have z := of_decide_eq_false z
      rw [List.length_map] at z
      refine hN _ _ ⟨rfl, done ++ [c], rest, n, _, ew', rfl, ln, ?_, rfl⟩
      rw [ef, List.drop_eq_nil_of_le (by omega)]; rfl
  · rintro ρ h' ⟨rfl, done, rest, n, o, ew, ex, ln, ea, rfl⟩
    cases rest with
    | cons _ _ => cases ex
    | nil =>
    rw [List.append_nil] at ew
    subst ew
    have es := adv_sub whole part
    rw [ea] at es
    unfold hid at q
    rw [es] at q
    refine ⟨trivial, len_tup (eq_int (if_b (fun z => ?_) fun z => ?_))⟩
    · have z := of_decide_eq_true z
      rw [List.length_map] at z
      rw [List.drop_eq_nil_of_le (by omega)] at q
      refine len_tup (len_tup ?_)
      rw [List.length_map, List.length_map]
      exact q
    · have z := of_decide_eq_false z
      rw [List.length_map] at z
      have l : n < part.length := by omega
      rw [List.drop_eq_getElem_cons l] at q
      exact q
theorem pure_hides (ca : CA) : ∀ ds h Q E, sp_hides ca ds h Q E → t_hides ca E { nx := fun _ h' => Q .non h', rt := Q } (dstart ["fleet", "kind", "course", "sight"] ds) h := by
  intro vs h Q E hh
  unfold sp_hides at hh
  obtain ⟨a, r, F, d, b, s, rfl, fl, kd, kb, ks, q0, q⟩ := hh
  refine ⟨_, fl.e, lk_non _ (by decide +kernel) (by decide +kernel), turn_ fl kd (fun w e => ?_) q0⟩
  obtain ⟨q1, q2, q3⟩ := q w e
  refine need_point_ kb (fun z => ?_) q1
  refine need_sight_ fl ks (fun z2 h1 k1 => ?_) (q2 z)
  obtain ⟨co, rfl, c0, c1⟩ := amD_true z
  obtain ⟨g, rfl, go⟩ := sig_of z2
  refine ix_tup (at_nn (x := .int g.sd) (by decide) rfl) ?_
  refine seen_ (fl.keep k1) e (kd.keep k1) ⟨c0, c1⟩ ⟨go.s0, by have := go.s1; omega⟩ fun h2 k2 => ?_
  refine ix_tup (at_nn (x := .tup (g.cols.map D.str)) (by decide) rfl) ?_
  exact left_out_ (q3 co g rfl ⟨c0, c1⟩ rfl go h2 (k1.trans k2))
theorem pure_cost_of (ca : CA) : ∀ ds h Q E, sp_cost_of ca ds h Q E → t_cost_of ca E { nx := fun _ h' => Q .non h', rt := Q } (dstart ["fleet", "kind", "course", "sights", "found", "sight", "hidden"] ds) h := by
  intro vs h Q E hh
  unfold sp_cost_of at hh
  obtain ⟨a, r, p, F, k, w, co, ss, rfl, fl, e, c, ep, so, q⟩ := hh
  refine ⟨_, ep, ?_⟩
  refine loop_ (fun xs ρ h' => ∃ (done rest : List Sight) (n : Int) (o1 o2 : Option D), ss = done ++ rest ∧ xs = rest.map Sight.d ∧ Keep h h' ∧ costO w co done = some n ∧ ρ = [some (.ref a), some (.str k), some (.int co), some (.ref p), some (.int n), o1, o2]) ?_ ?_ _ _ _ ⟨[], ss, 0, none, none, rfl, rfl, Keep.refl h, rfl, rfl⟩
  · rintro x xs ρ h' N ⟨done, rest, n, o1, o2, es, ex, k', ec, rfl⟩ hN
    cases rest with
    | nil => cases ex
    | cons g rest =>
    rw [List.map_cons] at ex
    obtain ⟨rfl, rfl⟩ := List.cons.inj ex
    have go := so g (by rw [es]; simp)
    have es' : ss = (done ++ [g]) ++ rest := by rw [es]; simp
    have ef : costO w co (done ++ [g]) = (hid (w.shown ((g.sd - co) % 32)) g.cols).map (n + ·) := by
      unfold costO at ec ⊢
      rw [List.foldl_append, ec]; rfl
    refine ⟨k' _ _ ep, hides_ (fl.keep k') e c go fun h2 k2 => ?_⟩
    cases z : hid (w.shown ((g.sd - co) % 32)) g.cols with
    | none =>
      rw [z] at ef
      have en : costO w co ss = none := by
        rw [es']
        unfold costO at ef ⊢
        rw [List.foldl_append, ef]
        exact fold_none rest
      rw [en] at q
      exact q h2 (k'.trans k2)
    | some m =>
      rw [z] at ef
      exact hN _ _ ⟨done ++ [g], rest, n + m, _, _, es', rfl, k'.trans k2, ef, rfl⟩
  · rintro ρ h' ⟨done, rest, n, o1, o2, es, ex, k', ec, rfl⟩
    cases rest with
    | cons _ _ => cases ex
    | nil =>
    rw [List.append_nil] at es
    subst es
    rw [ec] at q
    exact ⟨k' _ _ ep, q h' k'⟩
end Dl
end
section
local macro_rules | `(tactic| walk_at "s") => `(tactic| first | (decide) | (omega) | (dsimp only; omega) | exact Dl.sz_ (Nat.le_of_ble_eq_true rfl) | (refine Dl.sz_ ?_; simp only [List.length_map, List.length_append, List.length_cons, List.length_nil]; omega))
local macro_rules | `(tactic| walk_at "cmul") => `(tactic| first | exact Or.inr ⟨by decide, by decide⟩ | exact Or.inl ⟨by decide, by decide⟩ | exact Or.inr ⟨by omega, by omega⟩ | exact Or.inl ⟨by omega, by omega⟩)
namespace Dl
open PySem PySem.Spec PyProof.Rows L2
theorem last_ {ca : CA} {w f r k : Addr} {F : Fleet} {ss : List Sight} {h : Hd} {Q : DK} {E : DXK} (wa : WaI ca h w f r k F ss) (q : ∀ h', Keep h h' → Q (lastMo ss) h') : sp_Watch_last_moment ca [.ref w] h Q E := by unfold sp_Watch_last_moment; exact ⟨w, f, r, k, F, ss, rfl, wa, q⟩
theorem sights_ {ca : CA} {w f r k : Addr} {F : Fleet} {ss : List Sight} {h : Hd} {Q : DK} {E : DXK} (wa : WaI ca h w f r k F ss) (q : ∀ p h', h p = none → Keep h h' → h' p = some (.lst (ss.map Sight.d)) → Q (.ref p) h') : sp_Watch_sights ca [.ref w] h Q E := by unfold sp_Watch_sights; exact ⟨w, f, r, k, F, ss, rfl, wa, q⟩
theorem wfleet_ {ca : CA} {w f r k : Addr} {F : Fleet} {ss : List Sight} {h : Hd} {Q : DK} {E : DXK} (wa : WaI ca h w f r k F ss) (q : Q (.ref f) h) : sp_Watch_fleet ca [.ref w] h Q E := by unfold sp_Watch_fleet; exact ⟨w, f, r, k, F, ss, rfl, wa, q⟩
theorem LL.put {h h' : Hd} {p : Addr} {qs : List Addr} {xss : List (List D)} {i : Nat} {q : Addr} {xs' : List D} (x : LL h p qs xss) (hq : qs[i]? = some q) (e : up h q (.lst xs') = h') : LL h' p qs (xss.set i xs') := by
  obtain ⟨e1, b1⟩ := putf_ e
  have li : i < qs.length := by
    rcases Nat.lt_or_ge i qs.length with l | l
    · exact l
    · rw [List.getElem?_eq_none l] at hq; cases hq
  have pq : p ≠ q := by rintro rfl; exact x.np (List.mem_of_getElem? hq)
  refine ⟨(b1 _ pq).trans x.e, x.nd, x.np, by rw [List.length_set]; exact x.len, fun j q' xs a b => ?_⟩
  by_cases z : i = j
  · subst z
    rw [hq] at a
    obtain rfl := Option.some.inj a
    rw [List.getElem?_set_self (by rw [← x.len]; exact li)] at b
    obtain rfl := Option.some.inj b
    exact e1
  · rw [List.getElem?_set_ne z] at b
    have ne : q' ≠ q := by
      rintro rfl
      exact z ((List.getElem?_inj li x.nd).mp (by rw [hq, a]))
    rw [b1 _ ne]
    exact x.it j q' xs a b
theorem set_range {α : Type} {g g' : Nat → α} {n m : Nat} (same : ∀ i, i ≠ m → g' i = g i) : ((List.range n).map g).set m (g' m) = (List.range n).map g' := by
  apply List.ext_getElem?
  intro i
  by_cases z : m = i
  · subst z
    rcases Nat.lt_or_ge m n with l | l
    · rw [List.getElem?_set_self (by rw [List.length_map, List.length_range]; exact l), List.getElem?_map, List.getElem?_range l]; rfl
    · rw [List.getElem?_eq_none (by simp; omega), List.getElem?_eq_none (by simp; omega)]
  · rw [List.getElem?_set_ne z, List.getElem?_map, List.getElem?_map]
    cases e : (List.range n)[i]? with
    | none => rfl
    | some j =>
      have : j = i := by
        rcases Nat.lt_or_ge i n with l | l
        · rw [List.getElem?_range l] at e; exact (Option.some.inj e).symm
        · rw [List.getElem?_eq_none (by simp; omega)] at e; cases e
      subst this
      simp only [Option.map_some]
      rw [same _ (fun q => z q.symm)]
theorem fold_ge : ∀ (l : List Int) (a : Int), a ≤ l.foldl max a ∧ ∀ x ∈ l, x ≤ l.foldl max a
  | [], a => ⟨Int.le_refl a, fun x m => by cases m⟩
  | y :: l, a => by
    rw [List.foldl_cons]
    obtain ⟨h1, h2⟩ := fold_ge l (max a y)
    refine ⟨by omega, fun x m => ?_⟩
    rcases List.mem_cons.mp m with rfl | m
    · omega
    · exact h2 x m
theorem fold_le {b : Int} : ∀ (l : List Int) (a : Int), a ≤ b → (∀ x ∈ l, x ≤ b) → l.foldl max a ≤ b
  | [], a, h, _ => h
  | y :: l, a, h, k => by
    rw [List.foldl_cons]
    exact fold_le l _ (by have := k y List.mem_cons_self; omega) fun x m => k x (List.mem_cons_of_mem _ m)
theorem mo_lt {ss : List Sight} {s : Sight} (m : s ∈ ss) (h0 : 0 ≤ s.mo) : s.mo < (nMo ss : Int) := by
  cases ss with
  | nil => cases m
  | cons t r =>
    obtain ⟨h1, h2⟩ := fold_ge (r.map Sight.mo) t.mo
    unfold nMo
    rcases List.mem_cons.mp m with rfl | m
    · push_cast; omega
    · have := h2 s.mo (List.mem_map_of_mem m)
      push_cast; omega
theorem nMo_le {F : Fleet} {ss : List Sight} (so : ∀ s ∈ ss, s.ok F) : nMo ss ≤ 100 := by
  cases ss with
  | nil => decide
  | cons t r =>
    show ((r.map Sight.mo).foldl max t.mo).toNat + 1 ≤ 100
    have := fold_le (b := 99) (r.map Sight.mo) t.mo (so t List.mem_cons_self).m1 fun x m => by
      obtain ⟨s, ms, rfl⟩ := List.mem_map.mp m
      exact (so s (List.mem_cons_of_mem _ ms)).m1
    omega
theorem pure_by_moments (ca : CA) : ∀ ds h Q E, sp_by_moments ca ds h Q E → t_by_moments ca E { nx := fun _ h' => Q .non h', rt := Q } (dstart ["watch", "last", "found", "sight", "moment"] ds) h := by
  intro vs h Q E hh
  unfold sp_by_moments at hh
  obtain ⟨w, f, r, k, F, ss, rfl, wa, q⟩ := hh
  have REST : ∀ (h1 : Hd) (p : Addr) (qs : List Addr) (o1 : Option D), Keep h h1 → LL h1 p qs ((List.range (nMo ss)).map fun _ => []) → h p = none → (∀ q ∈ qs, h q = none) →
      (dSeq (dFor (dSeqI (dMeth ca.Watch "sights" (sp_Watch_sights ca) (fun cls fs _ h => E cls fs h) (dVar 0) dNil)) (dgName 3)
    (dDrop (dBM "list" appendD (dOp ixD (dVar 2) (dOp ixD (dVar 3) (dC (.int 0)))) (dCons (dVar 3) dNil))))
    (dRet (dVar 2)))
        { nx := fun _ h' => Q .non h', rt := Q } [some (.ref w), o1, some (.ref p), none, none] h1 := by
    intro h1 p qs o1 k1 ll np nq
    have w1 := wa.keep k1
    refine ⟨_, w1.e, lw_non _ (by decide +kernel) (by decide +kernel), sights_ w1 fun pc h2 nc k2 e2 => ?_⟩
    have zc : pc ≠ p := by rintro rfl; rw [ll.e] at nc; cases nc
    have zq : ∀ q ∈ qs, pc ≠ q := by
      rintro q mq rfl
      obtain ⟨i, hi⟩ := List.getElem?_of_mem mq
      have li : i < qs.length := by
        rcases Nat.lt_or_ge i qs.length with l | l
        · exact l
        · rw [List.getElem?_eq_none l] at hi; cases hi
      have := ll.it i pc _ hi (List.getElem?_eq_getElem (by rw [← ll.len]; exact li))
      rw [nc] at this; cases this
    refine ⟨_, e2, ?_⟩
    refine loop_ (fun xs ρ h' => ∃ (done rest : List Sight) (o3 : Option D), ss = done ++ rest ∧ xs = rest.map Sight.d ∧ ρ = [some (.ref w), o1, some (.ref p), o3, none] ∧ Keep h h' ∧ h' pc = some (.lst (ss.map Sight.d)) ∧ LL h' p qs ((List.range (nMo ss)).map fun m : Nat => (done.filter fun s => s.mo == (m : Int)).map Sight.d)) ?_ ?_ _ _ _ ⟨[], ss, none, rfl, rfl, rfl, k1.trans k2, e2, ll.keep k2⟩
    · rintro x xs ρ h3 N ⟨done, rest, o3, es, ex, rfl, k3, e3, l3⟩ hN
      cases rest with
      | nil => cases ex
      | cons g rest =>
      rw [List.map_cons] at ex
      obtain ⟨rfl, rfl⟩ := List.cons.inj ex
      have mg : g ∈ ss := by rw [es]; simp
      have go := wa.ok g mg
      have gl := mo_lt mg go.m0
      obtain ⟨m, hm⟩ : ∃ m : Nat, g.mo = m := ⟨g.mo.toNat, by have := go.m0; omega⟩
      have lm : m < nMo ss := by omega
      have lq : m < qs.length := by rw [l3.len, List.length_map, List.length_range]; exact lm
      have hq : qs[m]? = some qs[m] := List.getElem?_eq_getElem lq
      refine ⟨e3, ?_⟩
      refine ix_tup (at_nn (x := .int g.mo) (by decide) rfl) ?_
      refine ix_lst l3.e (at_nn (x := .ref qs[m]) go.m0 (by rw [hm, Int.toNat_natCast, List.getElem?_map, hq]; rfl)) ?_
      have eq := l3.it m qs[m] ((done.filter fun s => s.mo == (m : Int)).map Sight.d) hq (by rw [List.getElem?_map, List.getElem?_range lm]; rfl)
      have few := wa.few
      refine ⟨⟨rfl, _, eq⟩, _, eq, ?_, ?_⟩
      · have l1 := List.length_filter_le (fun s : Sight => s.mo == (m : Int)) done
        rw [es, List.length_append] at few
        rw [List.length_map, szL]; omega
      generalize eh4 : up h3 qs[m] _ = h4
      obtain ⟨e4, b4⟩ := putf_ eh4
      have l4 := l3.put hq eh4
      have me := List.getElem_mem lq
      have e5 : ((done.filter fun s => s.mo == (m : Int)).map Sight.d) ++ [g.d] = ((done ++ [g]).filter fun s => s.mo == (m : Int)).map Sight.d := by
        rw [List.filter_append, List.map_append]
        have : ([g].filter fun s => s.mo == (m : Int)) = [g] := by simp [hm]
        rw [this]; rfl
      rw [e5, set_range (g' := fun m : Nat => ((done ++ [g]).filter fun s => s.mo == (m : Int)).map Sight.d) (fun i z => by
        have : ([g].filter fun s => s.mo == (i : Int)) = [] := by
          have : ¬ (m : Int) = (i : Int) := by omega
          simp [hm, this]
        show ((done ++ [g]).filter fun s => s.mo == (i : Int)).map Sight.d = (done.filter fun s => s.mo == (i : Int)).map Sight.d
        rw [List.filter_append, this, List.append_nil])] at l4
      exact hN _ _ ⟨done ++ [g], rest, _, by rw [es]; simp, rfl, rfl, keep_but k3 b4 (nq _ me), by rw [b4 _ (zq _ me)]; exact e3, l4⟩
    · rintro ρ h3 ⟨done, rest, o3, es, ex, rfl, k3, e3, l3⟩
      cases rest with
      | cons _ _ => cases ex
      | nil =>
      rw [List.append_nil] at es
      subst es
      refine ⟨e3, q p qs h3 k3 ?_⟩
      unfold byMo
      rw [List.map_map]
      exact l3
  refine ⟨_, wa.e, lw_non _ (by decide +kernel) (by decide +kernel), last_ wa fun h1 k1 => ?_⟩
  cases hss : ss with
  | nil =>
    refine ⟨by walk_at "s", fun p np => ?_⟩
    generalize eh2 : up h1 p _ = h2
    obtain ⟨k2, e2, b2⟩ := newf_ np eh2
    subst hss
    exact REST h2 p [] _ (k1.trans k2) ⟨e2, List.nodup_nil, by simp, rfl, fun i q xs a b => by simp at a⟩ (keep_none k1 np) (by simp)
  | cons t rr =>
    have en : nMo ss = ((rr.map Sight.mo).foldl max t.mo).toNat + 1 := by rw [hss]; rfl
    have tm : t ∈ ss := by rw [hss]; exact List.mem_cons_self
    have t0 := (wa.ok t tm).m0
    have g0 := (fold_ge (rr.map Sight.mo) t.mo).1
    have n1 := nMo_le wa.ok
    obtain ⟨la, hla⟩ : ∃ la, la = (rr.map Sight.mo).foldl max t.mo := ⟨_, rfl⟩
    rw [← hla] at en g0
    rw [show lastMo (t :: rr) = .int la by rw [hla]; rfl]
    refine ⟨⟨by omega, by omega⟩, fun p np => ?_⟩
    have fp := keep_none k1 np
    refine lc_ (fun xs acc h' => ∃ qs : List Addr, acc = qs.map D.ref ∧ qs.length + xs.length = nMo ss ∧ Keep h h' ∧ (∀ q ∈ qs, h q = none) ∧ qs.Nodup ∧ p ∉ qs ∧ ∀ q ∈ qs, h' q = some (.lst [])) ?_ ?_ _ _ _ ⟨[], rfl, by rw [rng_len]; simp; omega, k1.trans (keep_new np), by simp, List.nodup_nil, by simp, by simp⟩ up_same
    · rintro xx xs acc h3 A S ⟨qs, rfl, l3, k3, n3, d3, p3, v3⟩ e3 hA hS
      refine ⟨trivial, by walk_at "s", fun q nq => ?_⟩
      generalize eh4 : up h3 q _ = h4
      obtain ⟨k4, e4, b4⟩ := newf_ nq eh4
      have qp : q ≠ p := by rintro rfl; rw [e3] at nq; cases nq
      have qm : q ∉ qs := fun m => by have := v3 q m; rw [nq] at this; cases this
      refine ⟨k4 _ _ e3, hA _ _ _ ⟨qs ++ [q], by rw [List.map_append]; rfl, by rw [List.length_append]; simp only [List.length_cons, List.length_nil] at l3 ⊢; omega, keep_but (k3.trans k4) (fun b z => up_ne z) fp, fun z m => ?_, ?_, fun m => ?_, fun z m => ?_⟩ up_same rfl⟩
      · rcases List.mem_append.mp m with m | m
        · exact n3 z m
        · obtain rfl := List.mem_singleton.mp m; exact keep_none k3 nq
      · rw [List.nodup_append]
        exact ⟨d3, by simp, fun a ma b mb e => by
          obtain rfl := List.mem_singleton.mp mb
          subst e
          exact qm ma⟩
      · rcases List.mem_append.mp m with m | m
        · exact p3 m
        · exact qp (List.mem_singleton.mp m).symm
      · rcases List.mem_append.mp m with m | m
        · rw [up_ne (by rintro rfl; exact p3 m)]; exact k4 _ _ (v3 z m)
        · obtain rfl := List.mem_singleton.mp m
          rw [up_ne qp]; exact e4
    · rintro acc h3 ⟨qs, rfl, l3, k3, n3, d3, p3, v3⟩ e3
      refine ⟨trivial, REST h3 p qs _ k3 ⟨e3, d3, p3, by rw [List.length_map, List.length_range]; simp only [List.length_nil] at l3; omega, fun i q xs a b => ?_⟩ fp n3⟩
      rw [List.getElem?_map] at b
      cases e : (List.range (nMo ss))[i]? with
      | none => rw [e] at b; cases b
      | some j =>
        rw [e] at b
        obtain rfl : [] = xs := by simpa using b
        exact v3 q (List.mem_of_getElem? a)
end Dl
end
section
local macro_rules | `(tactic| walk_at "s") => `(tactic| first | (decide) | (omega) | (dsimp only; omega) | exact Dl.sz_ (Nat.le_of_ble_eq_true rfl) | (refine Dl.sz_ ?_; simp only [List.length_map, List.length_append, List.length_cons, List.length_nil]; omega))
local macro_rules | `(tactic| walk_at "cmul") => `(tactic| first | exact Or.inr ⟨by decide, by decide⟩ | exact Or.inl ⟨by decide, by decide⟩ | exact Or.inr ⟨by omega, by omega⟩ | exact Or.inl ⟨by omega, by omega⟩)
namespace Dl
open PySem PySem.Spec PyProof.Rows L2
theorem by_moments_ {ca : CA} {w f r k : Addr} {F : Fleet} {ss : List Sight} {h : Hd} {Q : DK} {E : DXK} (wa : WaI ca h w f r k F ss) (q : ∀ p qs h', Keep h h' → LL h' p qs ((byMo ss).map fun x => x.map Sight.d) → Q (.ref p) h') : sp_by_moments ca [.ref w] h Q E := by unfold sp_by_moments; exact ⟨w, f, r, k, F, ss, rfl, wa, q⟩
theorem byMo_ok {F : Fleet} {ss : List Sight} (so : ∀ s ∈ ss, s.ok F) : ∀ g ∈ byMo ss, ∀ s ∈ g, s.ok F := fun g m s ms => by
  obtain ⟨i, _, rfl⟩ := List.mem_map.mp m
  exact so s (List.mem_filter.mp ms).1
theorem pure_costs_of (ca : CA) : ∀ ds h Q E, sp_costs_of ca ds h Q E → t_costs_of ca E { nx := fun _ h' => Q .non h', rt := Q } (dstart ["watch", "kind", "fleet", "some", "course"] ds) h := by
  intro vs h Q E hh
  unfold sp_costs_of at hh
  obtain ⟨a, f, r, k, F, ss, kd, w, rfl, wa, e, q⟩ := hh
  refine ⟨_, wa.e, lw_non _ (by decide +kernel) (by decide +kernel), wfleet_ wa ?_⟩
  refine by_moments_ wa fun pm qm h1 k1 lm => ?_
  have fl1 := wa.fl.keep k1
  refine ⟨_, lm.e, fun p np => ?_⟩
  have ppm : pm ≠ p := by rintro rfl; rw [lm.e] at np; cases np
  refine lc_ (fun xs acc h' => ∃ (n : Nat) (qs : List Addr), xs = (qm.drop n).map D.ref ∧ n ≤ qm.length ∧ acc = qs.map D.ref ∧ qs.length = n ∧ Keep h1 h' ∧ (∀ q ∈ qs, h1 q = none) ∧ qs.Nodup ∧ p ∉ qs ∧ ∀ (i : Nat) q, qs[i]? = some q → ∃ g, (byMo ss)[i]? = some g ∧ h' q = some (.lst ((costRow w g).map oD))) ?_ ?_ _ _ _ ⟨0, [], rfl, Nat.zero_le _, rfl, rfl, keep_new np, by simp, List.nodup_nil, by simp, fun i q z => by simp at z⟩ up_same
  · rintro xx xs acc h3 A S ⟨n, qs, ex, ln, rfl, lq, k3, n3, d3, p3, v3⟩ e3 hA hS
    have l : n < qm.length := by
      rcases Nat.lt_or_ge n qm.length with l | l
      · exact l
      · rw [List.drop_eq_nil_of_le l] at ex; cases ex
    rw [List.drop_eq_getElem_cons l, List.map_cons] at ex
    obtain ⟨rfl, rfl⟩ := List.cons.inj ex
    have lb : n < (byMo ss).length := by have := lm.len; rw [List.length_map] at this; omega
    have eg := k3 _ _ (lm.it n qm[n] _ (List.getElem?_eq_getElem l) (by rw [List.getElem?_map, List.getElem?_eq_getElem lb]; rfl))
    have gok := byMo_ok wa.ok _ (List.getElem_mem lb)
    have hg : (byMo ss)[n]? = some (byMo ss)[n] := List.getElem?_eq_getElem lb
    generalize (byMo ss)[n] = g at eg gok hg
    refine ⟨k3 _ _ lm.e, ⟨by decide, by decide⟩, fun p2 np2 => ?_⟩
    have pp : p2 ≠ p := by rintro rfl; rw [e3] at np2; cases np2
    have q2 : p2 ∉ qs := fun m => by
      obtain ⟨i, hi⟩ := List.getElem?_of_mem m
      obtain ⟨g', _, hv⟩ := v3 i p2 hi
      rw [np2] at hv; cases hv
    refine lc_ (fun xs acc h' => ∃ m : Nat, xs = rngL m (32 - m) ∧ m ≤ 32 ∧ acc = ((List.range m).map fun co : Nat => costO w co g).map oD ∧ Keep h3 h') ?_ ?_ _ _ _ ⟨0, rfl, by decide, rfl, keep_new np2⟩ up_same
    · rintro x2 xs2 acc2 h4 A2 S2 ⟨m, ex2, lm2, rfl, k4⟩ e4 hA2 hS2
      obtain ⟨m', hm'⟩ : ∃ m', 32 - m = m' + 1 := by
        cases h6 : 32 - m with
        | zero => rw [h6] at ex2; cases ex2
        | succ m' => exact ⟨m', rfl⟩
      rw [hm', rng_cons] at ex2
      obtain ⟨rfl, rfl⟩ := List.cons.inj ex2
      refine ⟨trivial, cost_of_ (fl1.keep (k3.trans k4)) e ⟨by omega, by omega⟩ (k4 _ _ eg) gok fun h5 k5 => ?_⟩
      refine ⟨k5 _ _ e4, hA2 _ _ _ ⟨m + 1, by rw [show 32 - (m + 1) = m' by omega]; push_cast; rfl, by omega, by rw [List.range_succ, List.map_append, List.map_append]; rfl, keep_but (k4.trans k5) (fun b z => up_ne z) np2⟩ up_same rfl⟩
    · rintro acc2 h4 ⟨m, ex2, lm2, rfl, k4⟩ e4
      obtain rfl : m = 32 := by
        have : 32 - m = 0 := by
          cases h6 : 32 - m with
          | zero => rfl
          | succ m' => rw [h6, rng_cons] at ex2; cases ex2
        omega
      refine ⟨trivial, k4 _ _ e3, hA _ _ _ ⟨n + 1, qs ++ [p2], rfl, l, by rw [List.map_append]; rfl, by rw [List.length_append, lq]; rfl, keep_but (k3.trans k4) (fun b z => up_ne z) np, fun z m => ?_, ?_, fun m => ?_, fun i z hz => ?_⟩ up_same rfl⟩
      · rcases List.mem_append.mp m with m | m
        · exact n3 z m
        · obtain rfl := List.mem_singleton.mp m; exact keep_none k3 np2
      · rw [List.nodup_append]
        exact ⟨d3, by simp, fun a ma b mb e => by
          obtain rfl := List.mem_singleton.mp mb
          subst e
          exact q2 ma⟩
      · rcases List.mem_append.mp m with m | m
        · exact p3 m
        · exact pp (List.mem_singleton.mp m).symm
      · by_cases zi : i < n
        · rw [List.getElem?_append_left (by omega)] at hz
          obtain ⟨g', hg', hv⟩ := v3 i z hz
          exact ⟨g', hg', by rw [up_ne (by rintro rfl; exact p3 (List.mem_of_getElem? hz))]; exact k4 _ _ hv⟩
        · have ii : i = n := by
            rcases Nat.lt_or_ge i (n + 1) with l | l
            · omega
            · rw [List.getElem?_eq_none (by rw [List.length_append, lq]; simp; omega)] at hz; cases hz
          subst ii
          rw [List.getElem?_append_right (by omega), lq, Nat.sub_self] at hz
          obtain rfl : p2 = z := by simpa using hz
          exact ⟨g, hg, by rw [up_ne pp]; exact e4⟩
  · rintro acc h3 ⟨n, qs, ex, ln, rfl, lq, k3, n3, d3, p3, v3⟩ e3
    have en : n = qm.length := by
      rcases Nat.lt_or_ge n qm.length with l | l
      · rw [List.drop_eq_getElem_cons l] at ex; cases ex
      · omega
    refine ⟨k3 _ _ lm.e, q p qs h3 (k1.trans k3) ⟨e3, d3, p3, ?_, fun i z xs hz hx => ?_⟩⟩
    · unfold costTab
      have := lm.len
      rw [List.length_map] at this
      rw [List.length_map, List.length_map]; omega
    · obtain ⟨g, hg, hv⟩ := v3 i z hz
      unfold costTab at hx
      rw [List.getElem?_map, List.getElem?_map, hg] at hx
      obtain rfl : (costRow w g).map oD = xs := by simpa using hx
      exact hv
end Dl
end
section
namespace Dl
open PySem PySem.Spec PyProof.Rows L2
def nearB (c o t : Int) : Bool := decide ((c - o) % 32 ≤ t) || decide ((o - c) % 32 ≤ t)
def minL : List Int → Option Int
  | [] => none
  | x :: xs => some (xs.foldl min x)
theorem fmin : ∀ (l : List Int) (a : Int), l.foldl min a ≤ a ∧ (∀ x ∈ l, l.foldl min a ≤ x) ∧ (l.foldl min a = a ∨ l.foldl min a ∈ l)
  | [], a => ⟨Int.le_refl a, fun x m => (nomatch m), .inl rfl⟩
  | y :: l, a => by
    rw [List.foldl_cons]
    obtain ⟨h1, h2, h3⟩ := fmin l (min a y)
    refine ⟨by omega, fun x m => ?_, ?_⟩
    · rcases List.mem_cons.mp m with rfl | m
      · omega
      · exact h2 x m
    · rcases h3 with h3 | h3
      · rw [h3]
        by_cases z : a ≤ y
        · left; omega
        · right; rw [show min a y = y by omega]; exact List.mem_cons_self
      · right; exact List.mem_cons_of_mem _ h3
theorem minL_mem {l : List Int} {m : Int} (e : minL l = some m) : m ∈ l ∧ ∀ y ∈ l, m ≤ y := by
  cases l with
  | nil => cases e
  | cons x l =>
    obtain rfl : l.foldl min x = m := by simpa [minL] using e
    obtain ⟨h1, h2, h3⟩ := fmin l x
    refine ⟨?_, fun y my => ?_⟩
    · rcases h3 with h3 | h3
      · rw [h3]; exact List.mem_cons_self
      · exact List.mem_cons_of_mem _ h3
    · rcases List.mem_cons.mp my with rfl | my
      · exact h1
      · exact h2 y my
theorem minL_of {l : List Int} {m : Int} (a : m ∈ l) (b : ∀ y ∈ l, m ≤ y) : minL l = some m := by
  cases e : minL l with
  | none =>
    cases l with
    | nil => cases a
    | cons x l => cases e
  | some m' =>
    obtain ⟨h1, h2⟩ := minL_mem e
    have := b m' h1
    have := h2 m a
    rw [show m' = m by omega]
theorem minL_congr {l l' : List Int} (h : ∀ x, x ∈ l ↔ x ∈ l') : minL l = minL l' := by
  cases e : minL l with
  | none =>
    cases l with
    | nil =>
      cases l' with
      | nil => rfl
      | cons x l' => exact absurd ((h x).mpr List.mem_cons_self) (by simp)
    | cons x l => cases e
  | some m =>
    obtain ⟨h1, h2⟩ := minL_mem e
    exact (minL_of ((h m).mp h1) fun y my => h2 y ((h y).mpr my)).symm
abbrev ORow := List (Option Int)
def leastN (row : ORow) (c t : Int) : Option Int := minL ((List.range 32).filterMap fun o : Nat => if nearB c o t then row[o]?.join else none)
def addO : Option Int → Option Int → Option Int
  | some a, some b => some (b + a)
  | _, _ => none
def nextRow (prev costs : ORow) (t : Int) : ORow := costs.zipIdx.map fun p => addO p.1 (leastN prev p.2 t)
def stepRow (t : Int) : Option ORow → ORow → ORow
  | none, c => c
  | some p, c => nextRow p c t
def rowsFrom (t : Int) : Option ORow → List ORow → List ORow
  | _, [] => []
  | p, c :: cs => stepRow t p c :: rowsFrom t (some (stepRow t p c)) cs
def rowsM (t : Int) (tab : List ORow) : List ORow := rowsFrom t none tab
theorem rowsFrom_snoc (t : Int) : ∀ (cs : List ORow) (p : Option ORow) (c : ORow), rowsFrom t p (cs ++ [c]) = rowsFrom t p cs ++ [stepRow t (match (rowsFrom t p cs).getLast? with | some q => some q | none => p) c]
  | [], p, c => rfl
  | d :: cs, p, c => by
    rw [List.cons_append]
    unfold rowsFrom
    rw [rowsFrom_snoc t cs (some (stepRow t p d)) c, List.cons_append]
    congr 3
    cases e : rowsFrom t (some (stepRow t p d)) cs with
    | nil => rfl
    | cons x xs =>
      rw [List.getLast?_cons_cons]
      cases z : (x :: xs).getLast? with
      | none => simp at z
      | some q => rfl
@[irreducible] def sp_near_ones (_ : CA) : DSp := fun vs h Q _ => ∃ c t : Int, vs = [.int c, .int t] ∧ (0 ≤ c ∧ c ≤ 31) ∧ (0 ≤ t ∧ t ≤ 31) ∧
  ∀ p h' (out : List Int), h p = none → Keep h h' → h' p = some (.lst (out.map D.int)) → (∀ k, k ∈ out ↔ (0 ≤ k ∧ k ≤ 31) ∧ nearB c k t = true) → Q (.ref p) h'
@[irreducible] def sp_least_near (_ : CA) : DSp := fun vs h Q _ => ∃ (p : Addr) (row : ORow) (c t : Int), vs = [.ref p, .int c, .int t] ∧ (0 ≤ c ∧ c ≤ 31) ∧ (0 ≤ t ∧ t ≤ 31) ∧ h p = some (.lst (row.map oD)) ∧ row.length = 32 ∧ ∀ h', Keep h h' → Q (oD (leastN row c t)) h'
@[irreducible] def sp_row_behind (_ : CA) : DSp := fun vs h Q _ => ∃ (p q : Addr) (row costs : ORow) (t : Int), vs = [.ref p, .ref q, .int t] ∧ (0 ≤ t ∧ t ≤ 31) ∧ h p = some (.lst (row.map oD)) ∧ h q = some (.lst (costs.map oD)) ∧ row.length = 32 ∧ costs.length = 32 ∧
  ∀ r h', h r = none → Keep h h' → h' r = some (.lst ((nextRow row costs t).map oD)) → Q (.ref r) h'
@[irreducible] def sp_rows_of (_ : CA) : DSp := fun vs h Q _ => ∃ (p : Addr) (qs : List Addr) (tab : List ORow) (t : Int), vs = [.ref p, .int t] ∧ (0 ≤ t ∧ t ≤ 31) ∧ LL h p qs (tab.map fun x => x.map oD) ∧ (∀ c ∈ tab, c.length = 32) ∧ tab.length ≤ 100 ∧
  ∀ r rs h', Keep h h' → LL h' r rs ((rowsM t tab).map fun x => x.map oD) → Q (.ref r) h'
end Dl
end
section
namespace Dl
open PySem PySem.Spec PyProof.Rows L2
def t_near_ones (ca : CA) (E : DXK) : DTS := (dRet (dSoS (dLc (dRng2 (dCons (dOp subD (dC (.int 0)) (dVar 1)) (dCons (dOp addD (dVar 1) (dC (.int 1))) dNil))) (.one 2) dYes (dOp modD (dOp addD (dVar 0) (dVar 2)) (dC (.int 32))))))
def t_least_near (ca : CA) (E : DXK) : DTS := (dSeq (dAsg (dLc (dSeqI (dCall (sp_near_ones ca) (fun cls fs _ h => E cls fs h) (dCons (dVar 1) (dCons (dVar 2) dNil)))) (.one 4) (dB (dNotN (dOp ixD (dVar 0) (dVar 4)))) (dOp ixD (dVar 0) (dVar 4))) (dgName 3))
    (dRet (dIfE (dB (dOp neD (dVar 3) (dLst dNil))) (dCB minD (dCons (dVar 3) dNil)) (dC .non))))
def t_row_behind (ca : CA) (E : DXK) : DTS := (dSeq (dAsg (dLst dNil) (dgName 3))
    (dSeq (dFor (dEnum (dCons (dVar 1) dNil)) (dgTup fun ds ρ h Q => ds.length = 2 ∧ (dgCons (dgName 4) (dgCons (dgName 5) dgNil)) ds ρ h Q)
    (dSeq (dAsg (dCall (sp_least_near ca) (fun cls fs _ h => E cls fs h) (dCons (dVar 0) (dCons (dVar 4) (dCons (dVar 2) dNil)))) (dgName 6))
    (dDrop (dBM "list" appendD (dVar 3) (dCons (dIfE (dOrT (dB (dIsN (dVar 5))) (dB (dIsN (dVar 6)))) (dC .non) (dOp addD (dVar 6) (dVar 5))) dNil)))))
    (dRet (dVar 3))))
def t_rows_of (ca : CA) (E : DXK) : DTS := (dSeq (dAsg (dLst dNil) (dgName 2))
    (dSeq (dFor (dSeqI (dVar 0)) (dgName 3)
    (dDrop (dBM "list" appendD (dVar 2) (dCons (dIfE (dB (dOp eqD (dVar 2) (dLst dNil))) (dCB listD (dCons (dVar 3) dNil)) (dCall (sp_row_behind ca) (fun cls fs _ h => E cls fs h) (dCons (dOp ixD (dVar 2) (dC (.int (-1)))) (dCons (dVar 3) (dCons (dVar 1) dNil))))) dNil))))
    (dRet (dVar 2))))
end Dl
end
section
local macro_rules | `(tactic| walk_at "s") => `(tactic| first | (decide) | (omega) | (dsimp only; omega) | exact Dl.sz_ (Nat.le_of_ble_eq_true rfl) | (refine Dl.sz_ ?_; simp only [List.length_map, List.length_append, List.length_cons, List.length_nil]; omega))
local macro_rules | `(tactic| walk_at "cmul") => `(tactic| first | exact Or.inr ⟨by decide, by decide⟩ | exact Or.inl ⟨by decide, by decide⟩ | exact Or.inr ⟨by omega, by omega⟩ | exact Or.inl ⟨by omega, by omega⟩)
namespace Dl
open PySem PySem.Spec PyProof.Rows L2
theorem rng_fm (g : Int → Int) (i : Int) (n : Nat) : (rngL i n).filterMap (fun x => match x with | .int s => some (.int (g s)) | _ => none) = ((List.range n).map fun k : Nat => g (i + k)).map D.int := by
  unfold rngL
  rw [List.filterMap_map, List.map_map]
  exact fm_some _
theorem near_mem {c t k : Int} (hc : 0 ≤ c ∧ c ≤ 31) (ht : 0 ≤ t ∧ t ≤ 31) : k ∈ ((List.range (t + 1 - (0 - t)).toNat).map fun j : Nat => (c + (0 - t + j)) % 32) ↔ (0 ≤ k ∧ k ≤ 31) ∧ nearB c k t = true := by
  rw [List.mem_map]
  unfold nearB
  rw [Bool.or_eq_true, decide_eq_true_eq, decide_eq_true_eq]
  constructor
  · rintro ⟨j, mj, rfl⟩
    have := List.mem_range.mp mj
    refine ⟨by omega, ?_⟩
    by_cases z : t ≤ (j : Int)
    · right; omega
    · left; omega
  · rintro ⟨hk, h | h⟩
    · exact ⟨(t - (c - k) % 32).toNat, List.mem_range.mpr (by omega), by omega⟩
    · exact ⟨(t + (k - c) % 32).toNat, List.mem_range.mpr (by omega), by omega⟩
theorem near_ones_ {ca : CA} {c t : Int} {h : Hd} {Q : DK} {E : DXK} (hc : 0 ≤ c ∧ c ≤ 31) (ht : 0 ≤ t ∧ t ≤ 31) (q : ∀ p h' (out : List Int), h p = none → Keep h h' → h' p = some (.lst (out.map D.int)) → (∀ k, k ∈ out ↔ (0 ≤ k ∧ k ≤ 31) ∧ nearB c k t = true) → Q (.ref p) h') : sp_near_ones ca [.int c, .int t] h Q E := by unfold sp_near_ones; exact ⟨c, t, rfl, hc, ht, q⟩
theorem isNon_oD (o : Option Int) : isNonD (oD o) = o.isNone := by cases o <;> rfl
theorem least_fm {row : ORow} {c t : Int} {out : List Int} (mem : ∀ k, k ∈ out ↔ (0 ≤ k ∧ k ≤ 31) ∧ nearB c k t = true) : minL (out.filterMap fun o => row[o.toNat]?.join) = leastN row c t := by
  unfold leastN
  refine minL_congr fun x => ?_
  rw [List.mem_filterMap, List.mem_filterMap]
  constructor
  · rintro ⟨o, mo, e⟩
    obtain ⟨h1, h2⟩ := (mem o).mp mo
    refine ⟨o.toNat, List.mem_range.mpr (by omega), ?_⟩
    rw [show ((o.toNat : Nat) : Int) = o by omega, if_pos h2, e]
  · rintro ⟨o, mo, e⟩
    have := List.mem_range.mp mo
    by_cases z : nearB c o t = true
    · rw [if_pos z] at e
      exact ⟨o, (mem o).mpr ⟨by omega, z⟩, by rw [Int.toNat_natCast]; exact e⟩
    · rw [if_neg z] at e; cases e
theorem pure_near_ones (ca : CA) : ∀ ds h Q E, sp_near_ones ca ds h Q E → t_near_ones ca E { nx := fun _ h' => Q .non h', rt := Q } (dstart ["course", "turn", "step"] ds) h := by
  intro vs h Q E hh
  unfold sp_near_ones at hh
  obtain ⟨c, t, rfl, hc, ht, q⟩ := hh
  refine ⟨⟨by omega, by omega⟩, fun p np => lcp_ (h0 := h) (fun x => match x with | .int s => some (.int ((c + s) % 32)) | _ => none) (fun x m h1 A S b ha hs => ?_) (fun h1 b1 e1 => ?_) _ (But.refl p h).up up_same⟩
  · obtain ⟨k, lk, rfl⟩ := rng_mem m
    exact ⟨trivial, by walk_at "s", ha _ rfl⟩
  · rw [rng_fm (fun s => (c + s) % 32)] at e1
    refine ⟨trivial, ints_lst e1 ⟨by rw [List.length_map, List.length_range]; omega, fun out p2 srt mem n2 => ?_⟩⟩
    generalize eh : up h1 p2 _ = h2
    obtain ⟨k2, e2, b2⟩ := newf_ n2 eh
    have k1 := b1.keep np
    exact q p2 h2 out (keep_none k1 n2) (k1.trans k2) e2 fun k => (mem k).trans (near_mem hc ht)
theorem pure_least_near (ca : CA) : ∀ ds h Q E, sp_least_near ca ds h Q E → t_least_near ca E { nx := fun _ h' => Q .non h', rt := Q } (dstart ["row", "course", "turn", "some", "other"] ds) h := by
  intro vs h Q E hh
  unfold sp_least_near at hh
  obtain ⟨p, row, c, t, rfl, hc, ht, ep, l, q⟩ := hh
  refine near_ones_ hc ht fun pn h1 out nn k1 en mem => ⟨_, en, fun p2 np2 => ?_⟩
  have zn : pn ≠ p2 := by rintro rfl; rw [en] at np2; cases np2
  have zp : p ≠ p2 := by rintro rfl; rw [k1 _ _ ep] at np2; cases np2
  refine lcp_ (h0 := h1) (fun x => match x with | .int o => row[o.toNat]?.join.map D.int | _ => none) (fun x m h2 A S b ha hs => ?_) (fun h2 b2 e2 => ?_) _ (But.refl p2 h1).up up_same
  · obtain ⟨o, mo, rfl⟩ := List.mem_map.mp m
    obtain ⟨⟨o0, o1⟩, _⟩ := (mem o).mp mo
    have lo : o.toNat < row.length := by omega
    have eo : row[o.toNat]? = some row[o.toNat] := List.getElem?_eq_getElem lo
    have e3 : h2 p = some (.lst (row.map oD)) := (b _ zp).trans (k1 _ _ ep)
    refine ⟨(b _ zn).trans en, ix_lst e3 (at_nn (x := oD row[o.toNat]) o0 (by rw [List.getElem?_map, eo]; rfl)) ?_⟩
    have ef : (row[o.toNat]?.join.map D.int : Option D) = row[o.toNat].map D.int := by rw [eo]; rfl
    show if (!isNonD (oD row[o.toNat])) = true then _ else _
    cases z : row[o.toNat] with
    | none =>
      rw [z] at ef
      exact hs ef
    | some v =>
      rw [z] at ef
      exact ix_lst e3 (at_nn (x := .int v) o0 (by rw [List.getElem?_map, eo, z]; rfl)) (ha (.int v) ef)
  · have ei : (out.map D.int).filterMap (fun x => match x with | .int o => row[o.toNat]?.join.map D.int | _ => none) = (out.filterMap fun o => row[o.toNat]?.join).map D.int := by
      rw [List.filterMap_map, List.map_filterMap]; rfl
    rw [ei] at e2
    have el := least_fm (row := row) mem
    refine ⟨(b2 _ zn).trans en, by walk_at "s", fun p3 np3 => ?_⟩
    generalize eh : up h2 p3 _ = h3
    obtain ⟨k3, e3, b3⟩ := newf_ np3 eh
    have kk := k1.trans ((b2.keep np2).trans k3)
    have e4 := k3 _ _ e2
    generalize (out.filterMap fun o => row[o.toNat]?.join) = ms at e4 el
    refine ne_ (b := !ms.isEmpty) (toP_lst e4 (mapO_int ms)) (toP_lst (ps := []) e3 rfl) (by rw [Bool.not_not]; exact eqvAll_empty _) ?_
    rw [← el] at q
    cases ms with
    | nil => exact q h3 kk
    | cons v vs =>
      refine ints_lst e4 ⟨by simp, fun m mm ml => ?_⟩
      rw [minL_of mm ml] at q
      exact q h3 kk
end Dl
end
section
local macro_rules | `(tactic| walk_at "s") => `(tactic| first | (decide) | (omega) | (dsimp only; omega) | exact Dl.sz_ (Nat.le_of_ble_eq_true rfl) | (refine Dl.sz_ ?_; simp only [List.length_map, List.length_append, List.length_cons, List.length_nil]; omega))
local macro_rules | `(tactic| walk_at "cmul") => `(tactic| first | exact Or.inr ⟨by decide, by decide⟩ | exact Or.inl ⟨by decide, by decide⟩ | exact Or.inr ⟨by omega, by omega⟩ | exact Or.inl ⟨by omega, by omega⟩)
namespace Dl
open PySem PySem.Spec PyProof.Rows L2
theorem least_near_ {ca : CA} {p : Addr} {row : ORow} {c t : Int} {h : Hd} {Q : DK} {E : DXK} (hc : 0 ≤ c ∧ c ≤ 31) (ht : 0 ≤ t ∧ t ≤ 31) (ep : h p = some (.lst (row.map oD))) (l : row.length = 32) (q : ∀ h', Keep h h' → Q (oD (leastN row c t)) h') : sp_least_near ca [.ref p, .int c, .int t] h Q E := by unfold sp_least_near; exact ⟨p, row, c, t, rfl, hc, ht, ep, l, q⟩
theorem row_behind_ {ca : CA} {p q : Addr} {row costs : ORow} {t : Int} {h : Hd} {Q : DK} {E : DXK} (ht : 0 ≤ t ∧ t ≤ 31) (ep : h p = some (.lst (row.map oD))) (eq : h q = some (.lst (costs.map oD))) (l : row.length = 32) (l2 : costs.length = 32) (k : ∀ r h', h r = none → Keep h h' → h' r = some (.lst ((nextRow row costs t).map oD)) → Q (.ref r) h') : sp_row_behind ca [.ref p, .ref q, .int t] h Q E := by unfold sp_row_behind; exact ⟨p, q, row, costs, t, rfl, ht, ep, eq, l, l2, k⟩
theorem numL_len (ds : List D) : (numL ds).length = ds.length := by unfold numL; rw [List.length_map, List.length_zipIdx]
theorem numL_at (ds : List D) (n : Nat) : (numL ds)[n]? = ds[n]?.map fun d => .tup [.int (n : Int), d] := by
  unfold numL
  rw [List.getElem?_map, List.getElem?_zipIdx, Option.map_map]
  cases ds[n]? <;> simp
theorem nextRow_len (row costs : ORow) (t : Int) : (nextRow row costs t).length = costs.length := by unfold nextRow; rw [List.length_map, List.length_zipIdx]
theorem nextRow_get (row costs : ORow) (t : Int) (n : Nat) : (nextRow row costs t)[n]? = costs[n]?.map fun a => addO a (leastN row n t) := by
  unfold nextRow
  rw [List.getElem?_map, List.getElem?_zipIdx, Option.map_map]
  cases costs[n]? <;> simp
theorem drop_some {α : Type} {l : List α} {n : Nat} {x : α} (e : l[n]? = some x) : l.drop n = x :: l.drop (n + 1) := by
  have h : n < l.length := by
    rcases Nat.lt_or_ge n l.length with h | h
    · exact h
    · rw [List.getElem?_eq_none h] at e; cases e
  rw [List.getElem?_eq_getElem h] at e
  obtain rfl := Option.some.inj e
  exact List.drop_eq_getElem_cons h
theorem take_some {α : Type} {l : List α} {n : Nat} {x : α} (e : l[n]? = some x) : l.take (n + 1) = l.take n ++ [x] := by
  rw [List.take_add_one, e]; rfl
theorem pure_row_behind (ca : CA) : ∀ ds h Q E, sp_row_behind ca ds h Q E → t_row_behind ca E { nx := fun _ h' => Q .non h', rt := Q } (dstart ["row", "costs", "turn", "found", "course", "cost", "least"] ds) h := by
  intro vs h Q E hh
  unfold sp_row_behind at hh
  obtain ⟨p, q, row, costs, t, rfl, ht, ep, eq, lr, lc, k⟩ := hh
  refine ⟨by walk_at "s", fun pf npf => ?_⟩
  generalize eh1 : up h pf _ = h1
  obtain ⟨k1, e1, b1⟩ := newf_ npf eh1
  have zp : p ≠ pf := by rintro rfl; rw [ep] at npf; cases npf
  have zq : q ≠ pf := by rintro rfl; rw [eq] at npf; cases npf
  refine ⟨_, k1 _ _ eq, ?_⟩
  refine loop_ (fun xs ρ h' => ∃ (n : Nat) (o1 o2 o3 : Option D), xs = (numL (costs.map oD)).drop n ∧ n ≤ 32 ∧ ρ = [some (.ref p), some (.ref q), some (.int t), some (.ref pf), o1, o2, o3] ∧ Keep h h' ∧ h' pf = some (.lst (((nextRow row costs t).take n).map oD))) ?_ ?_ _ _ _ ⟨0, none, none, none, rfl, by decide, rfl, k1, e1⟩
  · rintro x xs ρ h2 N ⟨n, o1, o2, o3, ex, ln, rfl, k2, e2⟩ hN
    have l : n < costs.length := by
      rcases Nat.lt_or_ge n costs.length with l | l
      · exact l
      · rw [List.drop_eq_nil_of_le (by rw [numL_len, List.length_map]; exact l)] at ex; cases ex
    have ec : costs[n]? = some costs[n] := List.getElem?_eq_getElem l
    have en : (numL (costs.map oD))[n]? = some (.tup [.int (n : Int), oD costs[n]]) := by rw [numL_at, List.getElem?_map, ec]; rfl
    rw [drop_some en] at ex
    obtain ⟨rfl, rfl⟩ := List.cons.inj ex
    have er : (nextRow row costs t)[n]? = some (addO costs[n] (leastN row n t)) := by rw [nextRow_get, ec]; rfl
    have et := take_some er
    refine ⟨k2 _ _ eq, rfl, least_near_ ⟨by omega, by omega⟩ ht (k2 _ _ ep) lr fun h3 k3 => ?_⟩
    have F : ∀ v, v = oD (addO costs[n] (leastN row n t)) → ∀ o3, ∀ h4, up h3 pf (.lst (((nextRow row costs t).take n).map oD ++ [v])) = h4 → N [some (.ref p), some (.ref q), some (.int t), some (.ref pf), some (.int (n : Int)), some (oD costs[n]), o3] h4 := by
      rintro v rfl o3 h4 eh4
      obtain ⟨e4, b4⟩ := putf_ eh4
      exact hN _ _ ⟨n + 1, _, _, _, rfl, by omega, rfl, keep_but (k2.trans k3) b4 npf, by rw [e4, et, List.map_append]; rfl⟩
    have e3 := k3 _ _ e2
    refine ⟨⟨rfl, _, e3⟩, ?_⟩
    have len : (((nextRow row costs t).take n).map oD).length < sizeLine := by rw [List.length_map, List.length_take, szL]; omega
    cases z1 : costs[n] with
    | none =>
      rw [z1] at F
      exact ⟨_, e3, len, F .non rfl _ _ rfl⟩
    | some a =>
      rw [z1] at F
      cases z2 : leastN row n t with
      | none =>
        rw [z2] at F
        exact ⟨_, e3, len, F .non rfl _ _ rfl⟩
      | some b =>
        rw [z2] at F
        exact ⟨_, e3, len, F (.int (b + a)) rfl _ _ rfl⟩
  · rintro ρ h2 ⟨n, o1, o2, o3, ex, ln, rfl, k2, e2⟩
    have en : costs.length ≤ n := by
      rcases Nat.lt_or_ge n costs.length with l | l
      · rw [List.drop_eq_getElem_cons (by rw [numL_len, List.length_map]; exact l)] at ex; cases ex
      · exact l
    rw [List.take_of_length_le (by rw [nextRow_len]; exact en)] at e2
    exact ⟨k2 _ _ eq, k pf h2 npf k2 e2⟩
end Dl
end
section
local macro_rules | `(tactic| walk_at "s") => `(tactic| first | (decide) | (omega) | (dsimp only; omega) | exact Dl.sz_ (Nat.le_of_ble_eq_true rfl) | (refine Dl.sz_ ?_; simp only [List.length_map, List.length_append, List.length_cons, List.length_nil]; omega))
local macro_rules | `(tactic| walk_at "cmul") => `(tactic| first | exact Or.inr ⟨by decide, by decide⟩ | exact Or.inl ⟨by decide, by decide⟩ | exact Or.inr ⟨by omega, by omega⟩ | exact Or.inl ⟨by omega, by omega⟩)
namespace Dl
open PySem PySem.Spec PyProof.Rows L2
theorem LL.snoc {h h' : Hd} {p : Addr} {qs : List Addr} {xss : List (List D)} {q : Addr} {xs : List D} (x : LL h p qs xss) (hq : h q = some (.lst xs)) (nq : q ∉ qs) (np : q ≠ p) (e : up h p (.lst (qs.map D.ref ++ [.ref q])) = h') : LL h' p (qs ++ [q]) (xss ++ [xs]) := by
  obtain ⟨e1, b1⟩ := putf_ e
  refine ⟨by rw [e1, List.map_append]; rfl, ?_, fun m => ?_, by rw [List.length_append, List.length_append, x.len]; rfl, fun i z ys a b => ?_⟩
  · rw [List.nodup_append]
    exact ⟨x.nd, by simp, fun a ma b mb e => by
      rw [e, List.mem_singleton.mp mb] at ma
      exact nq ma⟩
  · rcases List.mem_append.mp m with m | m
    · exact x.np m
    · exact np (List.mem_singleton.mp m).symm
  · by_cases zi : i < qs.length
    · rw [List.getElem?_append_left zi] at a
      rw [List.getElem?_append_left (by rw [← x.len]; exact zi)] at b
      rw [b1 _ (by rintro rfl; exact x.np (List.mem_of_getElem? a))]
      exact x.it i z ys a b
    · rw [List.getElem?_append_right (by omega)] at a
      rw [List.getElem?_append_right (by rw [← x.len]; omega), ← x.len] at b
      cases e : i - qs.length with
      | zero =>
        rw [e] at a b
        obtain rfl : q = z := by simpa using a
        obtain rfl : xs = ys := by simpa using b
        rw [b1 _ np]; exact hq
      | succ j => rw [e] at a; simp at a
def oPd : Option Int → PyData
  | none => .none
  | some i => .int i
theorem oD_toP (h : Hd) (n : Nat) (o : Option Int) : toP h n (oD o) = some (oPd o) := by cases o <;> cases n <;> rfl
theorem mapO_ix {f : D → Option PyData} {g : Nat → PyData} : ∀ {xs : List D} {k : Nat}, (∀ i x, xs[i]? = some x → f x = some (g (k + i))) → mapO f xs = some ((List.range xs.length).map fun i => g (k + i))
  | [], k, _ => rfl
  | x :: xs, k, h => by
    have h0 := h 0 x rfl
    have hr := mapO_ix (f := f) (g := g) (xs := xs) (k := k + 1) fun i y e => by rw [h (i + 1) y e]; congr 2; omega
    simp only [mapO, h0, hr, List.length_cons, List.range_succ_eq_map, List.map_cons, List.map_map]
    congr 2
    apply List.map_congr_left
    intro a _
    show g (k + 1 + a) = g (k + (a + 1))
    congr 1; omega
theorem LL.isNil {h : Hd} {p : Addr} {qs : List Addr} {tab : List ORow} (x : LL h p qs (tab.map fun r => r.map oD)) : ∃ ps : List PyData, toP h 16 (.ref p) = some (.list ps) ∧ ps.isEmpty = qs.isEmpty := by
  have len := x.len
  rw [List.length_map] at len
  have m : mapO (toP h 15) (qs.map D.ref) = some ((List.range (qs.map D.ref).length).map fun i => PyData.list ((tab.getD (0 + i) []).map oPd)) := mapO_ix (g := fun i => PyData.list ((tab.getD i []).map oPd)) fun i d e => by
    rw [List.getElem?_map] at e
    cases eq : qs[i]? with
    | none => rw [eq] at e; cases e
    | some q =>
      rw [eq] at e
      obtain rfl : D.ref q = d := by simpa using e
      have li : i < tab.length := by
        rcases Nat.lt_or_ge i qs.length with l | l
        · omega
        · rw [List.getElem?_eq_none l] at eq; cases eq
      have hv := x.it i q _ eq (by rw [List.getElem?_map, List.getElem?_eq_getElem li]; rfl)
      rw [toP_lst hv (mapO_map fun o _ => oD_toP h _ o), Nat.zero_add, List.getD_eq_getElem?_getD, List.getElem?_eq_getElem li]; rfl
  refine ⟨_, toP_lst x.e m, ?_⟩
  cases qs <;> simp
theorem at_last {α : Type} {xs : List α} {x : α} : atI (xs ++ [x]) (-1) = some x := by
  unfold atI ixN
  rw [if_neg (by decide), if_pos (by rw [List.length_append]; simp; omega)]
  have : ((-1 : Int) + ((xs ++ [x]).length : Int)).toNat = xs.length := by rw [List.length_append]; simp; omega
  rw [this, Option.bind_some, List.getElem?_append_right (Nat.le_refl _), Nat.sub_self]; rfl
theorem rowsM_snoc (t : Int) (cs : List ORow) (c : ORow) : rowsM t (cs ++ [c]) = rowsM t cs ++ [stepRow t (rowsM t cs).getLast? c] := by
  unfold rowsM
  rw [rowsFrom_snoc]
  cases (rowsFrom t none cs).getLast? <;> rfl
theorem rowsFrom_len (t : Int) : ∀ (cs : List ORow) (p : Option ORow), (rowsFrom t p cs).length = cs.length
  | [], _ => rfl
  | c :: cs, p => by unfold rowsFrom; rw [List.length_cons, List.length_cons, rowsFrom_len t cs]
theorem stepRow_len {t : Int} {p : Option ORow} {c : ORow} : (stepRow t p c).length = c.length := by
  cases p with
  | none => rfl
  | some q => exact nextRow_len q c t
theorem rowsFrom_all (t : Int) : ∀ (cs : List ORow) (p : Option ORow), (∀ c ∈ cs, c.length = 32) → ∀ r ∈ rowsFrom t p cs, r.length = 32
  | [], _, _, r, m => by cases m
  | c :: cs, p, h, r, m => by
    unfold rowsFrom at m
    rcases List.mem_cons.mp m with rfl | m
    · rw [stepRow_len]; exact h c List.mem_cons_self
    · exact rowsFrom_all t cs _ (fun d md => h d (List.mem_cons_of_mem _ md)) r m
theorem pure_rows_of (ca : CA) : ∀ ds h Q E, sp_rows_of ca ds h Q E → t_rows_of ca E { nx := fun _ h' => Q .non h', rt := Q } (dstart ["costs", "turn", "found", "row"] ds) h := by
  intro vs h Q E hh
  unfold sp_rows_of at hh
  obtain ⟨p, qs, tab, t, rfl, ht, ll, l32, few, k⟩ := hh
  have tl := ll.len
  rw [List.length_map] at tl
  refine ⟨by walk_at "s", fun pf npf => ?_⟩
  generalize eh1 : up h pf _ = h1
  obtain ⟨k1, e1, b1⟩ := newf_ npf eh1
  refine ⟨_, k1 _ _ ll.e, ?_⟩
  refine loop_ (fun xs ρ h' => ∃ (n : Nat) (rs : List Addr) (o : Option D), xs = (qs.drop n).map D.ref ∧ n ≤ qs.length ∧ ρ = [some (.ref p), some (.int t), some (.ref pf), o] ∧ Keep h h' ∧ LL h' pf rs ((rowsM t (tab.take n)).map fun x => x.map oD)) ?_ ?_ _ _ _ ⟨0, [], none, rfl, Nat.zero_le _, rfl, k1, ⟨e1, List.nodup_nil, by simp, rfl, fun i q xs a b => by simp at a⟩⟩
  · rintro x xs ρ h2 N ⟨n, rs, o, ex, ln, rfl, k2, l2⟩ hN
    have l : n < qs.length := by
      rcases Nat.lt_or_ge n qs.length with l | l
      · exact l
      · rw [List.drop_eq_nil_of_le l] at ex; cases ex
    have eqn : qs[n]? = some qs[n] := List.getElem?_eq_getElem l
    rw [drop_some eqn, List.map_cons] at ex
    obtain ⟨rfl, rfl⟩ := List.cons.inj ex
    have lt : n < tab.length := by omega
    have et : tab[n]? = some tab[n] := List.getElem?_eq_getElem lt
    have ec := ll.it n qs[n] _ eqn (by rw [List.getElem?_map, et]; rfl)
    have cl := l32 _ (List.getElem_mem lt)
    have tk := take_some et
    generalize tab[n] = c at ec cl tk
    generalize qs[n] = q at ec
    have rl := l2.len
    rw [List.length_map] at rl
    have rl2 : (rowsM t (tab.take n)).length = n := by unfold rowsM; rw [rowsFrom_len, List.length_take]; omega
    have F : ∀ (r : Addr) (h3 : Hd), h2 r = none → Keep h2 h3 → h3 r = some (.lst ((stepRow t (rowsM t (tab.take n)).getLast? c).map oD)) → appendD (.ref pf) [.ref r] h3 fun _ h4 => N [some (.ref p), some (.int t), some (.ref pf), some (.ref q)] h4 := by
      intro r h3 nr k3 er
      have l3 := l2.keep k3
      have rp : r ≠ pf := by rintro rfl; rw [l2.e] at nr; cases nr
      have rm : r ∉ rs := fun m => by
        obtain ⟨i, hi⟩ := List.getElem?_of_mem m
        have li : i < rs.length := by
          rcases Nat.lt_or_ge i rs.length with l | l
          · exact l
          · rw [List.getElem?_eq_none l] at hi; cases hi
        have := l2.it i r _ hi (List.getElem?_eq_getElem (by rw [List.length_map]; omega))
        rw [nr] at this; cases this
      refine ⟨_, l3.e, by rw [List.length_map, szL]; omega, ?_⟩
      generalize eh4 : up h3 pf _ = h4
      obtain ⟨e4, b4⟩ := putf_ eh4
      have l4 := l3.snoc er rm rp eh4
      exact hN _ _ ⟨n + 1, rs ++ [r], _, rfl, l, rfl, keep_but (k2.trans k3) b4 npf, by rw [tk, rowsM_snoc, List.map_append]; exact l4⟩
    refine ⟨k2 _ _ ll.e, ⟨rfl, _, l2.e⟩, by walk_at "s", fun pe npe => ?_⟩
    generalize eh3 : up h2 pe _ = h3
    obtain ⟨k3, e3, b3⟩ := newf_ npe eh3
    obtain ⟨ps, ep, em⟩ := (l2.keep k3).isNil
    refine eq_ (b := rs.isEmpty) ep (toP_lst (ps := []) e3 rfl) (by rw [← em]; cases ps <;> rfl) ?_
    refine if_b (fun z => ?_) fun z => ?_
    · have e0 : (rowsM t (tab.take n)).getLast? = none := by
        have : rs = [] := List.isEmpty_iff.mp z
        subst this
        rw [List.getLast?_eq_none_iff]
        exact List.eq_nil_of_length_eq_zero (by rw [← rl]; rfl)
      rw [e0] at F
      refine list_lst (k3 _ _ (k2 _ _ ec)) fun r nr => ?_
      generalize eh4 : up h3 r _ = h4
      obtain ⟨k4, e4, b4⟩ := newf_ nr eh4
      exact F r h4 (keep_none k3 nr) (k3.trans k4) e4
    · have ne : rowsM t (tab.take n) ≠ [] := fun e => by
        rw [e] at rl
        rw [List.eq_nil_of_length_eq_zero rl] at z; cases z
      obtain ⟨pre, last, ep2⟩ : ∃ pre last, rowsM t (tab.take n) = pre ++ [last] := ⟨_, _, (List.dropLast_concat_getLast ne).symm⟩
      have nr : rs ≠ [] := fun e => by rw [e] at z; cases z
      obtain ⟨rpre, rlast, er2⟩ : ∃ rpre rlast, rs = rpre ++ [rlast] := ⟨_, _, (List.dropLast_concat_getLast nr).symm⟩
      have ll2 : last.length = 32 := rowsFrom_all t _ none (fun d md => l32 d (List.mem_of_mem_take md)) last (by show last ∈ rowsM t (tab.take n); rw [ep2]; simp)
      have pl : rpre.length = pre.length := by rw [er2, ep2] at rl; simp at rl; exact rl
      have e4 : h3 rlast = some (.lst (last.map oD)) := k3 _ _ (l2.it rpre.length rlast _ (by rw [er2, List.getElem?_append_right (Nat.le_refl _)]; simp) (by rw [ep2, pl, List.map_append, List.getElem?_append_right (by rw [List.length_map]; exact Nat.le_refl _)]; simp))
      rw [ep2, List.getLast?_concat] at F
      refine ix_lst (k3 _ _ l2.e) (by rw [er2, List.map_append]; exact at_last) ?_
      refine row_behind_ ht e4 (k3 _ _ (k2 _ _ ec)) ll2 cl fun r h4 nr k4 er => ?_
      exact F r h4 (keep_none k3 nr) (k3.trans k4) er
  · rintro ρ h2 ⟨n, rs, o, ex, ln, rfl, k2, l2⟩
    have en : n = qs.length := by
      rcases Nat.lt_or_ge n qs.length with l | l
      · rw [List.drop_eq_getElem_cons l] at ex; cases ex
      · omega
    rw [List.take_of_length_le (by omega)] at l2
    exact ⟨k2 _ _ ll.e, k pf rs h2 k2 l2⟩
end Dl
end
section
namespace Dl
open PySem PySem.Spec PyProof.Rows L2
def oAt (R : List ORow) (m : Nat) (c : Int) : Option Int := (R[m]?.bind fun r => r[c.toNat]?).join
def Way (t : Int) (R C : List ORow) : Nat → List Int → Prop
  | _, [] => False
  | m, [c] => (0 ≤ c ∧ c ≤ 31) ∧ (oAt R m c).isSome = true
  | m, c :: d :: l => (0 ≤ c ∧ c ≤ 31) ∧ nearB d c t = true ∧ (∃ a b, oAt R m c = some b ∧ oAt C (m + 1) d = some a ∧ oAt R (m + 1) d = some (b + a)) ∧ Way t R C (m + 1) (d :: l)
theorem rowsFrom_zero (t : Int) (p : Option ORow) (cs : List ORow) : (rowsFrom t p cs)[0]? = cs[0]?.map (stepRow t p) := by cases cs <;> rfl
theorem rowsFrom_succ (t : Int) : ∀ (cs : List ORow) (p : Option ORow) (i : Nat) (r c : ORow), (rowsFrom t p cs)[i]? = some r → cs[i + 1]? = some c → (rowsFrom t p cs)[i + 1]? = some (nextRow r c t)
  | [], _, i, _, _, h, _ => by simp [rowsFrom] at h
  | d :: cs, p, 0, r, c, h, k => by
    unfold rowsFrom at h ⊢
    obtain rfl : stepRow t p d = r := by simpa using h
    rw [List.getElem?_cons_succ] at k ⊢
    rw [rowsFrom_zero, k]; rfl
  | d :: cs, p, i + 1, r, c, h, k => by
    unfold rowsFrom at h ⊢
    rw [List.getElem?_cons_succ] at h k ⊢
    exact rowsFrom_succ t cs _ i r c h k
theorem rowsM_len (t : Int) (tab : List ORow) : (rowsM t tab).length = tab.length := rowsFrom_len t tab none
theorem way_back {t : Int} {tab : List ORow} {m : Nat} {d v : Int} (h32 : ∀ c ∈ tab, c.length = 32) (lm : m + 1 < tab.length) (hd : 0 ≤ d ∧ d ≤ 31) (e : oAt (rowsM t tab) (m + 1) d = some v) :
    ∃ a b r, (rowsM t tab)[m]? = some r ∧ oAt tab (m + 1) d = some a ∧ v = b + a ∧ leastN r d t = some b := by
  have lr : m < (rowsM t tab).length := by rw [rowsM_len]; omega
  have er : (rowsM t tab)[m]? = some (rowsM t tab)[m] := List.getElem?_eq_getElem lr
  have ec : tab[m + 1]? = some tab[m + 1] := List.getElem?_eq_getElem lm
  have en := rowsFrom_succ t tab none m _ _ er ec
  have l32 := h32 _ (List.getElem_mem lm)
  generalize (rowsM t tab)[m] = r at er en
  generalize tab[m + 1] = c at ec en l32
  unfold oAt at e
  rw [show rowsM t tab = rowsFrom t none tab from rfl, en, Option.bind_some, nextRow_get] at e
  have ld : d.toNat < c.length := by omega
  have ecd : c[d.toNat]? = some c[d.toNat] := List.getElem?_eq_getElem ld
  rw [ecd] at e
  rw [show ((d.toNat : Nat) : Int) = d by omega] at e
  have e' : addO c[d.toNat] (leastN r d t) = some v := by simpa using e
  cases z1 : c[d.toNat] with
  | none => rw [z1] at e'; cases e'
  | some a =>
    cases z2 : leastN r d t with
    | none => rw [z1, z2] at e'; cases e'
    | some b =>
      rw [z1, z2] at e'
      obtain rfl : b + a = v := Option.some.inj e'
      refine ⟨a, b, r, er, ?_, rfl, z2⟩
      unfold oAt
      rw [ec, Option.bind_some, ecd, z1]; rfl
theorem least_at {row : ORow} {c t b : Int} (e : leastN row c t = some b) : ∃ o : Int, (0 ≤ o ∧ o ≤ 31) ∧ nearB c o t = true ∧ row[o.toNat]?.join = some b := by
  unfold leastN at e
  obtain ⟨h1, _⟩ := minL_mem e
  rw [List.mem_filterMap] at h1
  obtain ⟨o, mo, eo⟩ := h1
  have := List.mem_range.mp mo
  by_cases z : nearB c o t = true
  · rw [if_pos z] at eo
    exact ⟨o, by omega, z, by rw [Int.toNat_natCast]; exact eo⟩
  · rw [if_neg z] at eo; cases eo
@[irreducible] def sp_traced (_ : CA) : DSp := fun vs h Q _ => ∃ (p q : Addr) (ps qs : List Addr) (tab : List ORow) (t c : Int), vs = [.ref p, .ref q, .int t, .int c] ∧ (0 ≤ t ∧ t ≤ 31) ∧ (0 ≤ c ∧ c ≤ 31) ∧ LL h p ps ((rowsM t tab).map fun x => x.map oD) ∧ LL h q qs (tab.map fun x => x.map oD) ∧
  (∀ c ∈ tab, c.length = 32) ∧ (1 ≤ tab.length ∧ tab.length ≤ 100) ∧ (oAt (rowsM t tab) (tab.length - 1) c).isSome = true ∧
  ∀ r h' (path : List Int), h r = none → Keep h h' → h' r = some (.lst (path.map D.int)) → path.length = tab.length → Way t (rowsM t tab) tab 0 path → path.getLast? = some c → Q (.ref r) h'
end Dl
end
section
namespace Dl
open PySem PySem.Spec PyProof.Rows L2
def t_traced (ca : CA) (E : DXK) : DTS := (dSeq (dAsg (dLst (dCons (dVar 3) dNil)) (dgName 4))
    (dSeq (dFor (dRng3 (dCons (dOp subD (dCB lenD (dCons (dVar 0) dNil)) (dC (.int 1))) (dCons (dC (.int 0)) (dCons (dC (.int (-1))) dNil)))) (dgName 5)
    (dSeq (dAsg (dOp subD (dOp ixD (dOp ixD (dVar 0) (dVar 5)) (dOp ixD (dVar 4) (dC (.int (-1))))) (dOp ixD (dOp ixD (dVar 1) (dVar 5)) (dOp ixD (dVar 4) (dC (.int (-1)))))) (dgName 6))
    (dDrop (dBM "list" appendD (dVar 4) (dCons (dOp ixD (dLc (dSeqI (dCall (sp_near_ones ca) (fun cls fs _ h => E cls fs h) (dCons (dOp ixD (dVar 4) (dC (.int (-1)))) (dCons (dVar 2) dNil)))) (.one 7) (dB (dOp eqD (dOp ixD (dOp ixD (dVar 0) (dOp subD (dVar 5) (dC (.int 1)))) (dVar 7)) (dVar 6))) (dVar 7)) (dC (.int 0))) dNil)))))
    (dRet (dRev (dVar 4)))))
end Dl
end
section
local macro_rules | `(tactic| walk_at "s") => `(tactic| first | (decide) | (omega) | (dsimp only; omega) | exact Dl.sz_ (Nat.le_of_ble_eq_true rfl) | (refine Dl.sz_ ?_; simp only [List.length_map, List.length_append, List.length_cons, List.length_nil]; omega))
local macro_rules | `(tactic| walk_at "cmul") => `(tactic| first | exact Or.inr ⟨by decide, by decide⟩ | exact Or.inl ⟨by decide, by decide⟩ | exact Or.inr ⟨by omega, by omega⟩ | exact Or.inl ⟨by omega, by omega⟩)
namespace Dl
open PySem PySem.Spec PyProof.Rows L2
theorem LL.at_ {h : Hd} {p : Addr} {qs : List Addr} {tab : List ORow} {m : Nat} {i : Int} {Qd : DK} (x : LL h p qs (tab.map fun r => r.map oD)) (hi : i = (m : Int)) {r : ORow} (er : tab[m]? = some r) (k : ∀ q, h q = some (.lst (r.map oD)) → Qd (.ref q) h) : ixD (.ref p) (.int i) h Qd := by
  subst hi
  have lm : m < tab.length := by
    rcases Nat.lt_or_ge m tab.length with l | l
    · exact l
    · rw [List.getElem?_eq_none l] at er; cases er
  have len := x.len
  rw [List.length_map] at len
  have eq : qs[m]? = some qs[m] := List.getElem?_eq_getElem (by omega)
  exact ix_lst x.e (at_nn (x := .ref qs[m]) (by omega) (by rw [Int.toNat_natCast, List.getElem?_map, eq]; rfl)) (k _ (x.it m _ _ eq (by rw [List.getElem?_map, er]; rfl)))
theorem oD_get {r : ORow} {c : Int} {o : Option Int} (e : r[c.toNat]? = some o) : (r.map oD)[c.toNat]? = some (oD o) := by rw [List.getElem?_map, e]; rfl
theorem eq_oD {o : Option Int} {w b : Int} {h : Hd} {Q : DK} (hw : w = b) (k : Q (.bl (decide (o = some b))) h) : eqD (oD o) (.int w) h Q := by
  subst hw
  refine eq_ (oD_toP h 16 o) (toP_int h 16 w) ?_ k
  cases o with
  | none => rfl
  | some v =>
    show (v == w) = decide (some v = some w)
    by_cases e : v = w <;> simp [e]
theorem oAt_row {R : List ORow} {m : Nat} {c v : Int} (e : oAt R m c = some v) : ∃ r, R[m]? = some r ∧ r[c.toNat]? = some (some v) := by
  unfold oAt at e
  cases er : R[m]? with
  | none => rw [er] at e; cases e
  | some r =>
    rw [er, Option.bind_some] at e
    cases ec : r[c.toNat]? with
    | none => rw [ec] at e; cases e
    | some o =>
      rw [ec] at e
      have : o = some v := by simpa using e
      exact ⟨r, rfl, ec.trans (by rw [this])⟩
theorem oAt_of {R : List ORow} {m : Nat} {c : Int} {r : ORow} (er : R[m]? = some r) : oAt R m c = r[c.toNat]?.join := by unfold oAt; rw [er]; rfl
theorem pure_traced (ca : CA) : ∀ ds h Q E, sp_traced ca ds h Q E → t_traced ca E { nx := fun _ h' => Q .non h', rt := Q } (dstart ["rows", "costs", "turn", "course", "found", "moment", "wanted", "other"] ds) h := by
  intro vs h Q E hh
  unfold sp_traced at hh
  obtain ⟨p, q, ps, qs, tab, t, c, rfl, ht, hc, lp, lq, h32, ⟨n1, n2⟩, sm, k⟩ := hh
  have lr := lp.len
  rw [List.length_map, rowsM_len] at lr
  refine ⟨by walk_at "s", fun pf npf => ?_⟩
  generalize eh1 : up h pf _ = h1
  obtain ⟨k1, e1, b1⟩ := newf_ npf eh1
  refine len_lst (k1 _ _ lp.e) ⟨rfl, ⟨⟨?_, ?_, by decide, by decide⟩, ?_⟩, ?_⟩
  · rw [List.length_map]; omega
  · rw [List.length_map]; omega
  · rw [List.length_map]; omega
  rw [List.length_map]
  have ei : ∀ m : Nat, rngC ((ps.length : Int) - 1) (-1) m = (List.range m).map fun j : Nat => D.int ((ps.length : Int) - 1 - j) := fun m => by
    unfold rngC
    apply List.map_congr_left
    intro a _
    congr 1; omega
  rw [ei, show ((ps.length : Int) - 1 - 0).toNat = tab.length - 1 by omega]
  refine loop_ (fun xs ρ h' => ∃ (j : Nat) (path : List Int) (d : Int) (o1 o2 : Option D), xs = ((List.range (tab.length - 1)).map fun j : Nat => D.int ((ps.length : Int) - 1 - j)).drop j ∧ j ≤ tab.length - 1 ∧ ρ = [some (.ref p), some (.ref q), some (.int t), some (.int c), some (.ref pf), o1, o2, none] ∧ Keep h h' ∧
    h' pf = some (.lst ((d :: path).reverse.map D.int)) ∧ (d :: path).length = j + 1 ∧ Way t (rowsM t tab) tab (tab.length - 1 - j) (d :: path) ∧ (d :: path).getLast? = some c) ?_ ?_ _ _ _ ⟨0, [], c, none, none, rfl, Nat.zero_le _, rfl, k1, e1, rfl, ⟨hc, sm⟩, rfl⟩
  · rintro x xs ρ h2 N ⟨j, path, d, o1, o2, ex, lj, rfl, k2, e2, lpth, way, last⟩ hN
    have l : j < tab.length - 1 := by
      rcases Nat.lt_or_ge j (tab.length - 1) with l | l
      · exact l
      · rw [List.drop_eq_nil_of_le (by rw [List.length_map, List.length_range]; exact l)] at ex; cases ex
    have ej : ((List.range (tab.length - 1)).map fun j : Nat => D.int ((ps.length : Int) - 1 - j))[j]? = some (.int ((ps.length : Int) - 1 - j)) := by rw [List.getElem?_map, List.getElem?_range l]; rfl
    rw [drop_some ej] at ex
    obtain ⟨rfl, rfl⟩ := List.cons.inj ex
    obtain ⟨m, hm⟩ : ∃ m : Nat, tab.length - 1 - j = m + 1 := ⟨tab.length - 2 - j, by omega⟩
    rw [show (ps.length : Int) - 1 - j = ((m + 1 : Nat) : Int) by omega]
    rw [hm] at way
    have hd : (0 ≤ d ∧ d ≤ 31) ∧ (oAt (rowsM t tab) (m + 1) d).isSome = true := by
      cases path with
      | nil => exact way
      | cons z zs =>
        obtain ⟨w1, _, ⟨a, b, w3, _, _⟩, _⟩ := way
        exact ⟨w1, by rw [w3]; rfl⟩
    obtain ⟨v, ev⟩ := Option.isSome_iff_exists.mp hd.2
    obtain ⟨a, b, r, er, ea, rfl, eb⟩ := way_back h32 (by omega) hd.1 ev
    obtain ⟨r2, er2, ed⟩ := oAt_row ev
    obtain ⟨cs, ecs, eda⟩ := oAt_row ea
    have el : h2 pf = some (.lst ((path.reverse.map D.int) ++ [.int d])) := by rw [e2, List.reverse_cons, List.map_append]; rfl
    refine ⟨trivial, (lp.keep k2).at_ rfl er2 fun q1 hq1 => ?_⟩
    refine ix_lst el at_last ?_
    refine ix_lst hq1 (at_nn (x := .int (b + a)) hd.1.1 (oD_get ed)) ?_
    refine (lq.keep k2).at_ rfl ecs fun q2 hq2 => ?_
    refine ix_lst el at_last ?_
    refine ix_lst hq2 (at_nn (x := .int a) hd.1.1 (oD_get eda)) ?_
    refine ⟨⟨rfl, _, el⟩, ?_⟩
    refine ix_lst el at_last ?_
    refine near_ones_ hd.1 ht fun pn h3 out nn k3 en mem => ⟨_, en, fun p4 np4 => ?_⟩
    have zn : pn ≠ p4 := by rintro rfl; rw [en] at np4; cases np4
    refine lcp_ (h0 := h3) (fun x => match x with | .int o => if r[o.toNat]?.join = some b then some (.int o) else none | _ => none) (fun x mx h4 A S b4 ha hs => ?_) (fun h4 b4 e4 => ?_) _ (But.refl p4 h3).up up_same
    · obtain ⟨o, mo, rfl⟩ := List.mem_map.mp mx
      obtain ⟨⟨o0, o1'⟩, _⟩ := (mem o).mp mo
      have k4 := b4.keep np4
      have lrr : r.length = 32 := rowsFrom_all t tab none h32 r (List.mem_of_getElem? er)
      have eo : r[o.toNat]? = some r[o.toNat] := List.getElem?_eq_getElem (by omega)
      refine ⟨(b4 _ zn).trans en, ((lp.keep k2).keep (k3.trans k4)).at_ (by push_cast; omega) er fun q3 hq3 => ?_⟩
      refine ix_lst hq3 (at_nn (x := oD r[o.toNat]) o0 (oD_get eo)) ?_
      refine eq_oD (b := b) (by omega) (if_b (fun z => ?_) fun z => ?_)
      · refine ha (.int o) ?_
        show (if r[o.toNat]?.join = some b then _ else _) = _
        rw [eo, if_pos (by have := of_decide_eq_true z; simpa using this)]
      · refine hs ?_
        show (if r[o.toNat]?.join = some b then _ else _) = _
        rw [eo, if_neg (by have := of_decide_eq_false z; simpa using this)]
    · have k4 := b4.keep np4
      obtain ⟨o, ho, no, vo⟩ := least_at eb
      have mo : D.int o ∈ (out.map D.int).filterMap (fun x => match x with | .int o => if r[o.toNat]?.join = some b then some (D.int o) else none | _ => none) :=
        List.mem_filterMap.mpr ⟨.int o, List.mem_map_of_mem ((mem o).mpr ⟨ho, no⟩), by show (if r[o.toNat]?.join = some b then _ else _) = _; rw [if_pos vo]⟩
      have all : ∀ y ∈ (out.map D.int).filterMap (fun x => match x with | .int o => if r[o.toNat]?.join = some b then some (D.int o) else none | _ => none), ∃ o : Int, y = .int o ∧ (0 ≤ o ∧ o ≤ 31) ∧ nearB d o t = true ∧ r[o.toNat]?.join = some b := fun y my => by
        obtain ⟨x, mx, ey⟩ := List.mem_filterMap.mp my
        obtain ⟨o', mo', rfl⟩ := List.mem_map.mp mx
        have ey' : (if r[o'.toNat]?.join = some b then some (D.int o') else none) = some y := ey
        by_cases z : r[o'.toNat]?.join = some b
        · rw [if_pos z] at ey'
          exact ⟨o', (Option.some.inj ey').symm, ((mem o').mp mo').1, ((mem o').mp mo').2, z⟩
        · rw [if_neg z] at ey'; cases ey'
      generalize (out.map D.int).filterMap (fun x => match x with | .int o => if r[o.toNat]?.join = some b then some (D.int o) else none | _ => none) = ys at e4 mo all
      cases ys with
      | nil => cases mo
      | cons y ys =>
        obtain ⟨o, rfl, ho, no, vo⟩ := all y List.mem_cons_self
        refine ⟨(b4 _ zn).trans en, ix_lst e4 (at_nn (x := .int o) (by decide) rfl) ?_⟩
        have e5 := k4 _ _ (k3 _ _ el)
        refine ⟨_, e5, by rw [List.length_append, List.length_map, List.length_reverse, szL]; simp only [List.length_cons] at lpth; simp; omega, ?_⟩
        generalize eh5 : up h4 pf _ = h5
        obtain ⟨e6, b6⟩ := putf_ eh5
        refine hN _ _ ⟨j + 1, d :: path, o, _, _, rfl, l, rfl, keep_but (k2.trans (k3.trans k4)) b6 npf, by rw [e6]; simp, by simp only [List.length_cons] at lpth ⊢; omega, ?_, by rw [List.getLast?_cons_cons]; exact last⟩
        rw [show tab.length - 1 - (j + 1) = m by omega]
        exact ⟨ho, no, ⟨a, b, by rw [oAt_of er]; exact vo, ea, ev⟩, way⟩
  · rintro ρ h2 ⟨j, path, d, o1, o2, ex, lj, rfl, k2, e2, lpth, way, last⟩
    have ej : j = tab.length - 1 := by
      rcases Nat.lt_or_ge j (tab.length - 1) with l | l
      · rw [List.drop_eq_getElem_cons (by rw [List.length_map, List.length_range]; exact l)] at ex; cases ex
      · omega
    refine ⟨trivial, _, e2, fun r nr => ?_⟩
    generalize eh3 : up h2 r _ = h3
    obtain ⟨k3, e3, b3⟩ := newf_ nr eh3
    rw [← List.map_reverse, List.reverse_reverse] at e3
    rw [ej, Nat.sub_self] at way
    exact k r h3 (d :: path) (keep_none k2 nr) (k2.trans k3) e3 (by rw [lpth, ej]; omega) way last
end Dl
end
section
namespace Dl
open PySem PySem.Spec PyProof.Rows L2
def numOf (t : Int) (tab : List ORow) : Option Int := match (rowsM t tab).getLast? with
  | none => some 0
  | some r => minL (r.filterMap id)
def Told (t : Int) (tab : List ORow) (v : Int) (path : List Int) : Prop := path.length = tab.length ∧ (tab ≠ [] → Way t (rowsM t tab) tab 0 path ∧ ∃ c, path.getLast? = some c ∧ oAt (rowsM t tab) (tab.length - 1) c = some v)
theorem costTab_len {w : Row} {ss : List Sight} : ∀ c ∈ costTab w ss, c.length = 32 := fun c m => by
  unfold costTab at m
  obtain ⟨g, _, rfl⟩ := List.mem_map.mp m
  unfold costRow
  rw [List.length_map, List.length_range]
theorem costTab_few {F : Fleet} {w : Row} {ss : List Sight} (so : ∀ s ∈ ss, s.ok F) : (costTab w ss).length ≤ 100 := by
  unfold costTab byMo
  rw [List.length_map, List.length_map, List.length_range]
  exact nMo_le so
@[irreducible] def sp_history (ca : CA) : DSp := fun vs h Q _ => ∃ (a f r k : Addr) (F : Fleet) (ss : List Sight) (kd : Str) (w : Row), vs = [.ref a, .str kd] ∧ WaI ca h a f r k F ss ∧ F.ok ∧ F.row kd = some w ∧
  (numOf w.turn (costTab w ss) = none → ∀ h', Keep h h' → Q .non h') ∧
  ∀ v, numOf w.turn (costTab w ss) = some v → ∀ p h' path, h p = none → Keep h h' → h' p = some (.lst (path.map D.int)) → Told w.turn (costTab w ss) v path → Q (.tup [.int v, .ref p]) h'
abbrev Due := Int × Nat × Str
def Due.d (x : Due) : D := .tup [.int x.1, .int (x.2.1 : Nat), .str x.2.2]
def Due.pd (x : Due) : PyData := .tuple [.int x.1, .int (x.2.1 : Nat), .str x.2.2]
def duesOf (ss : List Sight) (rows : List Row) : List Due := rows.zipIdx.filterMap fun p => (numOf p.1.turn (costTab p.1 ss)).map fun v => (v, p.2, p.1.kind)
def sorted_ (l : List Due) : List Due := l.mergeSort (PySem.W.dataLe false Due.pd)
def Due.out (x : Due) : D := .tup [.int x.1, .str x.2.2]
@[irreducible] def sp_likely (ca : CA) : DSp := fun vs h Q _ => ∃ (a f r k : Addr) (F : Fleet) (ss : List Sight), vs = [.ref a] ∧ WaI ca h a f r k F ss ∧ F.ok ∧
  ∀ p h', h p = none → Keep h h' → h' p = some (.lst ((sorted_ (duesOf ss F.rows)).map Due.out)) → Q (.ref p) h'
end Dl
end
section
namespace Dl
open PySem PySem.Spec PyProof.Rows L2
def t_history (ca : CA) (E : DXK) : DTS := (dSeq (dAsg (dMeth ca.Fleet "turn" (sp_Fleet_turn ca) (fun cls fs _ h => E cls fs h) (dMeth ca.Watch "fleet" (sp_Watch_fleet ca) (fun cls fs _ h => E cls fs h) (dVar 0) dNil) (dCons (dVar 1) dNil)) (dgName 2))
    (dSeq (dAsg (dCall (sp_costs_of ca) (fun cls fs _ h => E cls fs h) (dCons (dVar 0) (dCons (dVar 1) dNil))) (dgName 3))
    (dSeq (dAsg (dCall (sp_rows_of ca) (fun cls fs _ h => E cls fs h) (dCons (dVar 3) (dCons (dVar 2) dNil))) (dgName 4))
    (dSeq (dIfS (dB (dOp eqD (dVar 4) (dLst dNil)))
    (dRet (dTup (dCons (dC (.int 0)) (dCons (dLst dNil) dNil))))
    dNext)
    (dSeq (dAsg (dLc (dSeqI (dOp ixD (dVar 4) (dC (.int (-1))))) (.one 6) (dB (dNotN (dVar 6))) (dVar 6)) (dgName 5))
    (dSeq (dIfS (dB (dOp eqD (dVar 5) (dLst dNil)))
    (dRet (dC .non))
    dNext)
    (dRet (dTup (dCons (dCB minD (dCons (dVar 5) dNil)) (dCons (dCall (sp_traced ca) (fun cls fs _ h => E cls fs h) (dCons (dVar 4) (dCons (dVar 3) (dCons (dVar 2) (dCons (dBM "list" indexD (dOp ixD (dVar 4) (dC (.int (-1)))) (dCons (dCB minD (dCons (dVar 5) dNil)) dNil)) dNil))))) dNil))))))))))
def t_likely (ca : CA) (E : DXK) : DTS := (dSeq (dAsg (dLst dNil) (dgName 1))
    (dSeq (dFor (dEnum (dCons (dMeth ca.Fleet "kinds" (sp_Fleet_kinds ca) (fun cls fs _ h => E cls fs h) (dMeth ca.Watch "fleet" (sp_Watch_fleet ca) (fun cls fs _ h => E cls fs h) (dVar 0) dNil) dNil) dNil)) (dgTup fun ds ρ h Q => ds.length = 2 ∧ (dgCons (dgName 2) (dgCons (dgName 3) dgNil)) ds ρ h Q)
    (dSeq (dAsg (dCall (sp_history ca) (fun cls fs _ h => E cls fs h) (dCons (dVar 0) (dCons (dVar 3) dNil))) (dgName 4))
    (dIfS (dB (dNotN (dVar 4)))
    (dDrop (dBM "list" appendD (dVar 1) (dCons (dTup (dCons (dOp ixD (dVar 4) (dC (.int 0))) (dCons (dVar 2) (dCons (dVar 3) dNil)))) dNil)))
    dNext)))
    (dRet (dLc (dSeqI (dCB sortPD (dCons (dVar 1) dNil))) (.tup [5, 2, 3]) dYes (dTup (dCons (dVar 5) (dCons (dVar 3) dNil)))))))
end Dl
end
section
local macro_rules | `(tactic| walk_at "s") => `(tactic| first | (decide) | (omega) | (dsimp only; omega) | exact Dl.sz_ (Nat.le_of_ble_eq_true rfl) | (refine Dl.sz_ ?_; simp only [List.length_map, List.length_append, List.length_cons, List.length_nil]; omega))
local macro_rules | `(tactic| walk_at "cmul") => `(tactic| first | exact Or.inr ⟨by decide, by decide⟩ | exact Or.inl ⟨by decide, by decide⟩ | exact Or.inr ⟨by omega, by omega⟩ | exact Or.inl ⟨by omega, by omega⟩)
namespace Dl
open PySem PySem.Spec PyProof.Rows L2
theorem costs_of_ {ca : CA} {a f r k : Addr} {F : Fleet} {ss : List Sight} {kd : Str} {w : Row} {h : Hd} {Q : DK} {E : DXK} (wa : WaI ca h a f r k F ss) (e : F.row kd = some w) (q : ∀ p qs h', Keep h h' → LL h' p qs ((costTab w ss).map fun x => x.map oD) → Q (.ref p) h') : sp_costs_of ca [.ref a, .str kd] h Q E := by unfold sp_costs_of; exact ⟨a, f, r, k, F, ss, kd, w, rfl, wa, e, q⟩
theorem rows_of_ {ca : CA} {p : Addr} {qs : List Addr} {tab : List ORow} {t : Int} {h : Hd} {Q : DK} {E : DXK} (ht : 0 ≤ t ∧ t ≤ 31) (ll : LL h p qs (tab.map fun x => x.map oD)) (h32 : ∀ c ∈ tab, c.length = 32) (few : tab.length ≤ 100) (q : ∀ r rs h', Keep h h' → LL h' r rs ((rowsM t tab).map fun x => x.map oD) → Q (.ref r) h') : sp_rows_of ca [.ref p, .int t] h Q E := by unfold sp_rows_of; exact ⟨p, qs, tab, t, rfl, ht, ll, h32, few, q⟩
theorem traced_ {ca : CA} {p q : Addr} {ps qs : List Addr} {tab : List ORow} {t c : Int} {h : Hd} {Q : DK} {E : DXK} (ht : 0 ≤ t ∧ t ≤ 31) (hc : 0 ≤ c ∧ c ≤ 31) (lp : LL h p ps ((rowsM t tab).map fun x => x.map oD)) (lq : LL h q qs (tab.map fun x => x.map oD)) (h32 : ∀ c ∈ tab, c.length = 32) (few : 1 ≤ tab.length ∧ tab.length ≤ 100) (s : (oAt (rowsM t tab) (tab.length - 1) c).isSome = true)
    (k : ∀ r h' (path : List Int), h r = none → Keep h h' → h' r = some (.lst (path.map D.int)) → path.length = tab.length → Way t (rowsM t tab) tab 0 path → path.getLast? = some c → Q (.ref r) h') : sp_traced ca [.ref p, .ref q, .int t, .int c] h Q E := by unfold sp_traced; exact ⟨p, q, ps, qs, tab, t, c, rfl, ht, hc, lp, lq, h32, few, s, k⟩
theorem first_ix {m : Int} : ∀ {row : ORow}, some m ∈ row → ∃ j : Nat, row[j]? = some (some m) ∧ ∀ i, i < j → row[i]? ≠ some (some m)
  | [], h => by cases h
  | o :: row, h => by
    by_cases e : o = some m
    · exact ⟨0, by rw [e]; rfl, fun i l => by omega⟩
    · have h' : some m ∈ row := by
        rcases List.mem_cons.mp h with z | z
        · exact absurd z.symm e
        · exact z
      obtain ⟨j, h1, h2⟩ := first_ix h'
      refine ⟨j + 1, h1, fun i l => ?_⟩
      cases i with
      | zero => intro z; exact e (by simpa using z)
      | succ i => exact h2 i (by omega)
theorem oPd_eqv (o : Option Int) (m : Int) : PyData.eqv (oPd o) (.int m) = decide (o = some m) := by
  cases o with
  | none => rfl
  | some v =>
    show (v == m) = decide (some v = some m)
    by_cases e : v = m <;> simp [e]
theorem index_ {l : Addr} {row : ORow} {m : Int} {j : Nat} {h : Hd} {Q : DK} (e : h l = some (.lst (row.map oD))) (h1 : row[j]? = some (some m)) (h2 : ∀ i, i < j → row[i]? ≠ some (some m)) (q : Q (.int j) h) : indexD (.ref l) [.int m] h Q := by
  have t1 : toP h 16 (.ref l) = some (.list (row.map oPd)) := toP_lst e (mapO_map fun o _ => oD_toP h _ o)
  have t2 : toP h 16 (.int m) = some (.int m) := rfl
  unfold indexD
  simp only [t1, t2]
  refine ⟨j, oPd (some m), by rw [List.getElem?_map, h1]; rfl, by rw [oPd_eqv]; simp, fun i z l ez => ?_, q⟩
  rw [List.getElem?_map] at ez
  cases er : row[i]? with
  | none => rw [er] at ez; cases ez
  | some o =>
    rw [er] at ez
    obtain rfl : oPd o = z := by simpa using ez
    rw [oPd_eqv]
    refine decide_eq_false fun eo => h2 i l (by rw [er, eo])
theorem nn_fm : ∀ row : ORow, (row.map oD).filterMap (fun x => match x with | .int i => some (D.int i) | _ => none) = (row.filterMap id).map D.int
  | [] => rfl
  | none :: row => nn_fm row
  | some i :: row => by
    show D.int i :: _ = D.int i :: _
    rw [← nn_fm row]
theorem pure_history (ca : CA) : ∀ ds h Q E, sp_history ca ds h Q E → t_history ca E { nx := fun _ h' => Q .non h', rt := Q } (dstart ["watch", "kind", "turn", "costs", "rows", "some", "many"] ds) h := by
  intro vs h Q E hh
  unfold sp_history at hh
  obtain ⟨a, f, r, k, F, ss, kd, w, rfl, wa, ok, e, q1, q2⟩ := hh
  have wok := ok.rows w (List.mem_of_find?_eq_some e)
  have t0 := wok.t0
  have t1 := wok.t1
  refine ⟨_, wa.e, lw_non _ (by decide +kernel) (by decide +kernel), wfleet_ wa ?_⟩
  refine ⟨_, wa.fl.e, lk_non _ (by decide +kernel) (by decide +kernel), turn_ wa.fl ⟨_, rfl⟩ (fun w' e' => ?_) fun z => by rw [show F.rowD (.str kd) = F.row kd from rfl, e] at z; cases z⟩
  rw [show F.rowD (.str kd) = F.row kd from rfl, e] at e'
  obtain rfl := Option.some.inj e'
  refine costs_of_ wa e fun pc qc h1 k1 lc => ?_
  have h32 := costTab_len (w := w) (ss := ss)
  have few := costTab_few (w := w) wa.ok
  generalize costTab w ss = tab at lc h32 few q1 q2
  refine rows_of_ ⟨t0, by omega⟩ lc h32 few fun pr rs h2 k2 lr => ⟨by walk_at "s", fun pe npe => ?_⟩
  generalize eh3 : up h2 pe _ = h3
  obtain ⟨k3, e3, b3⟩ := newf_ npe eh3
  obtain ⟨ps, ep, em⟩ := (lr.keep k3).isNil
  have rl := lr.len
  rw [List.length_map] at rl
  have kk3 := k1.trans (k2.trans k3)
  refine eq_ (b := rs.isEmpty) ep (toP_lst (ps := []) e3 rfl) (by rw [← em]; cases ps <;> rfl) (if_b (fun z => ?_) fun z => ?_)
  · have e0 : rowsM w.turn tab = [] := by
      have : rs = [] := List.isEmpty_iff.mp z
      subst this
      exact List.eq_nil_of_length_eq_zero (by rw [← rl]; rfl)
    have tn : tab = [] := List.eq_nil_of_length_eq_zero (by rw [← rowsM_len w.turn, e0]; rfl)
    refine ⟨by walk_at "s", fun p np => ?_⟩
    generalize eh4 : up h3 p _ = h4
    obtain ⟨k4, e4, b4⟩ := newf_ np eh4
    refine ⟨by walk_at "s", q2 0 (by unfold numOf; rw [e0]; rfl) p h4 [] (keep_none kk3 np) (kk3.trans k4) e4 ⟨by rw [tn]; rfl, fun ne => absurd tn ne⟩⟩
  · have ne : rowsM w.turn tab ≠ [] := fun e => by
      rw [e] at rl
      rw [List.eq_nil_of_length_eq_zero rl] at z; cases z
    obtain ⟨pre, last, ep2⟩ : ∃ pre last, rowsM w.turn tab = pre ++ [last] := ⟨_, _, (List.dropLast_concat_getLast ne).symm⟩
    have nr : rs ≠ [] := fun e => by rw [e] at z; cases z
    obtain ⟨rpre, rlast, er2⟩ : ∃ rpre rlast, rs = rpre ++ [rlast] := ⟨_, _, (List.dropLast_concat_getLast nr).symm⟩
    have ll2 : last.length = 32 := rowsFrom_all w.turn tab none h32 last (by show last ∈ rowsM w.turn tab; rw [ep2]; simp)
    have pl : rpre.length = pre.length := by rw [er2, ep2] at rl; simp at rl; exact rl
    have e4 : h3 rlast = some (.lst (last.map oD)) := k3 _ _ (lr.it rpre.length rlast _ (by rw [er2, List.getElem?_append_right (Nat.le_refl _)]; simp) (by rw [ep2, pl, List.map_append, List.getElem?_append_right (by rw [List.length_map]; exact Nat.le_refl _)]; simp))
    have en : numOf w.turn tab = minL (last.filterMap id) := by unfold numOf; rw [ep2, List.getLast?_concat]
    have lastr : ∀ h', Keep h3 h' → ∀ Qd : DK, Qd (.ref rlast) h' → ixD (.ref pr) (.int (-1)) h' Qd := fun h' k' Qd qd => ix_lst ((lr.keep (k3.trans k')).e) (by rw [er2, List.map_append]; exact at_last) qd
    refine lastr h3 (Keep.refl h3) _ ⟨_, e4, fun p5 np5 => ?_⟩
    have zl : rlast ≠ p5 := by rintro rfl; rw [e4] at np5; cases np5
    refine lcp_ (h0 := h3) (fun x => match x with | .int i => some (.int i) | _ => none) (fun x mx h4 A S b5 ha hs => ?_) (fun h4 b5 e5 => ?_) _ (But.refl p5 h3).up up_same
    · obtain ⟨o, mo, rfl⟩ := List.mem_map.mp mx
      refine ⟨(b5 _ zl).trans e4, ?_⟩
      cases o with
      | none => exact hs rfl
      | some i => exact ha _ rfl
    · rw [nn_fm] at e5
      have k5 := b5.keep np5
      refine ⟨(b5 _ zl).trans e4, by walk_at "s", fun p6 np6 => ?_⟩
      generalize eh6 : up h4 p6 _ = h6
      obtain ⟨k6, e6, b6⟩ := newf_ np6 eh6
      have e7 := k6 _ _ e5
      have kk6 := kk3.trans (k5.trans k6)
      have mem : ∀ m, m ∈ last.filterMap id ↔ some m ∈ last := fun m => by simp
      generalize last.filterMap id = ms at e7 en mem
      refine eq_ (b := ms.isEmpty) (toP_lst e7 (mapO_int ms)) (toP_lst (ps := []) e6 rfl) (eqvAll_empty _) ?_
      cases ms with
      | nil => exact q1 en h6 kk6
      | cons v vs =>
        refine ints_lst e7 ⟨by simp, fun m mm ml => ?_⟩
        rw [minL_of mm ml] at en
        obtain ⟨j, j1, j2⟩ := first_ix ((mem m).mp mm)
        have jl : j < last.length := by
          rcases Nat.lt_or_ge j last.length with l | l
          · exact l
          · rw [List.getElem?_eq_none l] at j1; cases j1
        have e8 : h6 rlast = some (.lst (last.map oD)) := k6 _ _ (k5 _ _ e4)
        refine lastr h6 (k5.trans k6) _ ⟨⟨rfl, _, e8⟩, ?_⟩
        refine ints_lst e7 ⟨by simp, fun m' mm' ml' => ?_⟩
        obtain rfl : m' = m := by have := ml m' mm'; have := ml' m mm; omega
        refine index_ e8 j1 j2 ?_
        have tl : tab.length = pre.length + 1 := by rw [← rowsM_len w.turn, ep2, List.length_append]; rfl
        have oj : oAt (rowsM w.turn tab) (tab.length - 1) (j : Int) = some m' := by
          unfold oAt
          rw [ep2, tl, Nat.add_sub_cancel, List.getElem?_append_right (Nat.le_refl _), Nat.sub_self]
          show (last[(j : Int).toNat]?).join = _
          rw [Int.toNat_natCast, j1]; rfl
        refine traced_ ⟨t0, by omega⟩ ⟨by omega, by omega⟩ (lr.keep (k3.trans (k5.trans k6))) (lc.keep (k2.trans (k3.trans (k5.trans k6)))) h32 ⟨by omega, few⟩ (by rw [oj]; rfl) fun rr h7 path nn k7 e9 pln way la => ?_
        exact ⟨by walk_at "s", q2 m' en rr h7 path (keep_none kk6 nn) (kk6.trans k7) e9 ⟨pln, fun _ => ⟨way, j, la, oj⟩⟩⟩
end Dl
end
section
local macro_rules | `(tactic| walk_at "s") => `(tactic| first | (decide) | (omega) | (dsimp only; omega) | exact Dl.sz_ (Nat.le_of_ble_eq_true rfl) | (refine Dl.sz_ ?_; simp only [List.length_map, List.length_append, List.length_cons, List.length_nil]; omega))
local macro_rules | `(tactic| walk_at "cmul") => `(tactic| first | exact Or.inr ⟨by decide, by decide⟩ | exact Or.inl ⟨by decide, by decide⟩ | exact Or.inr ⟨by omega, by omega⟩ | exact Or.inl ⟨by omega, by omega⟩)
namespace Dl
open PySem PySem.Spec PyProof.Rows L2
theorem history_ {ca : CA} {a f r k : Addr} {F : Fleet} {ss : List Sight} {kd : Str} {w : Row} {h : Hd} {Q : DK} {E : DXK} (wa : WaI ca h a f r k F ss) (ok : F.ok) (e : F.row kd = some w) (q1 : numOf w.turn (costTab w ss) = none → ∀ h', Keep h h' → Q .non h')
    (q2 : ∀ v, numOf w.turn (costTab w ss) = some v → ∀ p h' path, h p = none → Keep h h' → h' p = some (.lst (path.map D.int)) → Told w.turn (costTab w ss) v path → Q (.tup [.int v, .ref p]) h') : sp_history ca [.ref a, .str kd] h Q E := by unfold sp_history; exact ⟨a, f, r, k, F, ss, kd, w, rfl, wa, ok, e, q1, q2⟩
theorem kinds_ {ca : CA} {a r : Addr} {F : Fleet} {h : Hd} {Q : DK} {E : DXK} (fl : FlI ca h a r F) (q : ∀ p h', h p = none → Keep h h' → h' p = some (.lst ((F.rows.map Row.kind).map D.str)) → Q (.ref p) h') : sp_Fleet_kinds ca [.ref a] h Q E := by unfold sp_Fleet_kinds; exact ⟨a, r, F, rfl, fl, q⟩
theorem row_nth {F : Fleet} (ok : F.ok) {i : Nat} {w : Row} (e : F.rows[i]? = some w) : F.row w.kind = some w := by
  unfold Fleet.row
  have nd := ok.knd
  generalize F.rows = rs at e nd
  induction rs generalizing i with
  | nil => simp at e
  | cons x rs ih =>
    rw [List.map_cons, List.nodup_cons] at nd
    rw [List.find?_cons]
    cases i with
    | zero =>
      obtain rfl : x = w := by simpa using e
      rw [show (x.kind == x.kind) = true from beq_self_eq_true _]
    | succ i =>
      rw [List.getElem?_cons_succ] at e
      have ne : x.kind ≠ w.kind := fun z => nd.1 (z ▸ List.mem_map_of_mem (List.mem_of_getElem? e))
      rw [show (x.kind == w.kind) = false by simpa using ne]
      exact ih e nd.2
theorem Due.toP (h : Hd) (n : Nat) (x : Due) : Dl.toP h (n + 1) x.d = some x.pd := toP_tup (by simp only [mapO, toP_int, toP_str])
theorem dues_alike (l : List Due) : PySem.W.AllAlike (l.map Due.pd) := PySem.W.AllAlike.of fun _ _ => by simp [Due.pd, PySem.W.alike, PySem.W.alikeAll]
theorem dues_sortable (l : List Due) : PySem.W.Sortable (l.map Due.pd) := PySem.W.Sortable.tuples fun _ => ⟨_, _, rfl⟩
theorem sortPD_ {a : Addr} {l : List Due} {h : Hd} {Q : DK} (e : h a = some (.lst (l.map Due.d))) (k : ∀ p, h p = none → Q (.ref p) (up h p (.lst ((sorted_ l).map Due.d)))) : sortPD [.ref a] h Q := by
  unfold sortPD
  refine ⟨l.map Due.d, l.map Due.pd, by unfold lstO; simp only [e], mapO_map fun x _ => Due.toP h _ x, dues_alike l, dues_sortable l, ?_⟩
  have ez : (l.map Due.d).zip (l.map Due.pd) = l.map fun x => (x.d, x.pd) := by
    induction l with
    | nil => rfl
    | cons x l ih => rw [List.map_cons, List.map_cons, List.zip_cons_cons, List.map_cons]; congr 1; exact List.zip_map' ..
  have es : ((l.map fun x => (x.d, x.pd)).mergeSort (PySem.W.dataLe false Prod.snd)).map Prod.fst = (sorted_ l).map Due.d := by
    unfold sorted_
    rw [← List.map_mergeSort (r := PySem.W.dataLe false Due.pd) (f := fun x : Due => (x.d, x.pd)) (fun _ _ _ _ => rfl), List.map_map]; rfl
  rw [ez, es]
  exact k
theorem dues_take (ss : List Sight) (rows : List Row) (j : Nat) (w : Row) (e : rows[j]? = some w) : (rows.zipIdx.take (j + 1)).filterMap (fun p => (numOf p.1.turn (costTab p.1 ss)).map fun v => ((v, p.2, p.1.kind) : Due)) =
    (rows.zipIdx.take j).filterMap (fun p => (numOf p.1.turn (costTab p.1 ss)).map fun v => ((v, p.2, p.1.kind) : Due)) ++ (match numOf w.turn (costTab w ss) with | none => [] | some v => [(v, j, w.kind)]) := by
  have ej : rows.zipIdx[j]? = some (w, j) := by rw [List.getElem?_zipIdx, e]; simp
  rw [take_some ej, List.filterMap_append]
  congr 1
  show List.filterMap _ [(w, j)] = _
  rw [List.filterMap_cons]
  cases numOf w.turn (costTab w ss) <;> rfl
theorem pure_likely (ca : CA) : ∀ ds h Q E, sp_likely ca ds h Q E → t_likely ca E { nx := fun _ h' => Q .non h', rt := Q } (dstart ["watch", "found", "place", "kind", "told", "many"] ds) h := by
  intro vs h Q E hh
  unfold sp_likely at hh
  obtain ⟨a, f, r, k, F, ss, rfl, wa, ok, q⟩ := hh
  refine ⟨by walk_at "s", fun pf npf => ?_⟩
  generalize eh1 : up h pf _ = h1
  obtain ⟨k1, e1, b1⟩ := newf_ npf eh1
  have wa1 := wa.keep k1
  have rl := ok.r1
  refine ⟨_, wa1.e, lw_non _ (by decide +kernel) (by decide +kernel), wfleet_ wa1 ?_⟩
  refine ⟨_, wa1.fl.e, lk_non _ (by decide +kernel) (by decide +kernel), kinds_ wa1.fl fun pk h2 nk k2 ek => ⟨_, ek, ?_⟩⟩
  have kf : pk ≠ pf := by rintro rfl; rw [e1] at nk; cases nk
  refine loop_ (fun xs ρ h' => ∃ (j : Nat) (o1 o2 o3 : Option D), xs = (numL ((F.rows.map Row.kind).map D.str)).drop j ∧ j ≤ F.rows.length ∧ ρ = [some (.ref a), some (.ref pf), o1, o2, o3, none] ∧ Keep h h' ∧ h' pk = some (.lst ((F.rows.map Row.kind).map D.str)) ∧
    h' pf = some (.lst (((F.rows.zipIdx.take j).filterMap (fun p => (numOf p.1.turn (costTab p.1 ss)).map fun v => ((v, p.2, p.1.kind) : Due))).map Due.d))) ?_ ?_ _ _ _ ⟨0, none, none, none, rfl, Nat.zero_le _, rfl, k1.trans k2, ek, k2 _ _ e1⟩
  · rintro x xs ρ h3 N ⟨j, o1, o2, o3, ex, lj, rfl, k3, e3, e4⟩ hN
    have l : j < F.rows.length := by
      rcases Nat.lt_or_ge j F.rows.length with l | l
      · exact l
      · rw [List.drop_eq_nil_of_le (by rw [numL_len, List.length_map, List.length_map]; exact l)] at ex; cases ex
    have er : F.rows[j]? = some F.rows[j] := List.getElem?_eq_getElem l
    have ej : (numL ((F.rows.map Row.kind).map D.str))[j]? = some (.tup [.int (j : Int), .str F.rows[j].kind]) := by rw [numL_at, List.getElem?_map, List.getElem?_map, er]; rfl
    rw [drop_some ej] at ex
    obtain ⟨rfl, rfl⟩ := List.cons.inj ex
    have et := dues_take ss F.rows j _ er
    have ew := row_nth ok er
    generalize F.rows[j] = w at et ew
    refine ⟨e3, rfl, history_ (wa.keep k3) ok ew (fun en h4 k4 => ?_) fun v ev p h4 path np k4 ep told => ?_⟩
    · rw [en, List.append_nil] at et
      exact hN _ _ ⟨j + 1, _, _, _, rfl, l, rfl, k3.trans k4, k4 _ _ e3, by rw [et]; exact k4 _ _ e4⟩
    · rw [ev] at et
      have e5 := k4 _ _ e4
      refine ⟨⟨rfl, _, e5⟩, ?_⟩
      refine ix_tup (at_nn (x := .int v) (by decide) rfl) ?_
      refine ⟨by walk_at "s", _, e5, ?_, ?_⟩
      · have := List.length_filterMap_le (fun p : Row × Nat => (numOf p.1.turn (costTab p.1 ss)).map fun v => ((v, p.2, p.1.kind) : Due)) (F.rows.zipIdx.take j)
        rw [List.length_take] at this
        rw [List.length_map, szL]; omega
      generalize eh6 : up h4 pf _ = h6
      obtain ⟨e6, b6⟩ := putf_ eh6
      exact hN _ _ ⟨j + 1, _, _, _, rfl, l, rfl, keep_but (k3.trans k4) b6 npf, by rw [b6 _ kf]; exact k4 _ _ e3, by rw [e6, et, List.map_append]; rfl⟩
  · rintro ρ h3 ⟨j, o1, o2, o3, ex, lj, rfl, k3, e3, e4⟩
    have ej : F.rows.length ≤ j := by
      rcases Nat.lt_or_ge j F.rows.length with l | l
      · rw [List.drop_eq_getElem_cons (by rw [numL_len, List.length_map, List.length_map]; exact l)] at ex; cases ex
      · exact l
    rw [List.take_of_length_le (by rw [List.length_zipIdx]; exact ej)] at e4
    refine ⟨e3, sortPD_ (l := duesOf ss F.rows) e4 fun p4 n4 => ?_⟩
    generalize eh5 : up h3 p4 _ = h5
    obtain ⟨k5, e5, b5⟩ := newf_ n4 eh5
    refine ⟨_, e5, fun p6 np6 => ?_⟩
    have z6 : p4 ≠ p6 := by rintro rfl; rw [e5] at np6; cases np6
    generalize sorted_ (duesOf ss F.rows) = so at e5 q
    refine lcp_ (h0 := h5) (fun x => match x with | .tup [m, p, k] => some (.tup [m, k]) | _ => none) (fun x mx h6 A S b6 ha hs => ?_) (fun h6 b6 e6 => ?_) _ (But.refl p6 h5).up up_same
    · obtain ⟨y, my, rfl⟩ := List.mem_map.mp mx
      exact ⟨(b6 _ z6).trans e5, rfl, by walk_at "s", ha _ rfl⟩
    · have eo : (so.map Due.d).filterMap (fun x => match x with | .tup [m, p, k] => some (D.tup [m, k]) | _ => none) = so.map Due.out := by
        rw [List.filterMap_map]
        exact fm_some so
      rw [eo] at e6
      have kk := k3.trans (k5.trans (b6.keep np6))
      exact ⟨(b6 _ z6).trans e5, q p6 h6 (keep_none (k3.trans k5) np6) kk e6⟩
end Dl
end
section
namespace Dl
open PySem PySem.Spec PyProof.Rows L2
@[irreducible] def sp_Lwhole (_ : CA) : DSp := fun vs h Q _ => ∃ d : D, vs = [d] ∧ Kn h d ∧ Q (.bl (isI d && !isB d)) h
@[irreducible] def sp_Lapart (_ : CA) : DSp := fun vs h Q _ => ∃ c o : Int, vs = [.int c, .int o] ∧ Q (.int (min ((c - o) % 32) ((o - c) % 32))) h
@[irreducible] def sp_Lhidden (_ : CA) : DSp := fun vs h Q _ => ∃ whole part : List Str, vs = [.tup (whole.map D.str), .tup (part.map D.str)] ∧ whole.length ≤ 6 ∧ part.length ≤ 1000 ∧ ∀ h', Keep h h' → Q (oD (hid whole part)) h'
@[irreducible] def sp_Lwatch (ca : CA) : DSp := fun vs h Q _ => ∃ (p : Addr) (F : Fleet) (ss : List Sight), vs = [F.d, .ref p] ∧ h p = some (.lst (ss.map Sight.d)) ∧ F.ok ∧ (∀ s ∈ ss, s.ok F) ∧ ss.length ≤ 200 ∧
  ∀ w f r k h', h w = none → h f = none → h r = none → h k = none → Keep h h' → WaI ca h' w f r k F ss → Q (.ref w) h'
@[irreducible] def sp_Lcosts (_ : CA) : DSp := fun vs h Q _ => ∃ (p : Addr) (F : Fleet) (w : Row) (ss : List Sight), vs = [F.d, .str w.kind, .ref p] ∧ h p = some (.lst (ss.map Sight.d)) ∧ F.ok ∧ F.row w.kind = some w ∧ (∀ s ∈ ss, s.ok F) ∧ ss.length ≤ 200 ∧
  ∀ q qs h', Keep h h' → LL h' q qs ((costTab w ss).map fun x => x.map oD) → Q (.ref q) h'
@[irreducible] def sp_Lleast (_ : CA) : DSp := fun vs h Q _ => ∃ (p : Addr) (F : Fleet) (w : Row) (ss : List Sight), vs = [F.d, w.d, .ref p] ∧ h p = some (.lst (ss.map Sight.d)) ∧ F.ok ∧ w ∈ F.rows ∧ F.row w.kind = some w ∧ (∀ s ∈ ss, s.ok F) ∧ ss.length ≤ 200 ∧
  ∀ h', Keep h h' → Q (oD (numOf w.turn (costTab w ss))) h'
@[irreducible] def sp_Ldue (_ : CA) : DSp := fun vs h Q _ => ∃ (p : Addr) (F : Fleet) (ss : List Sight), vs = [F.d, .ref p] ∧ h p = some (.lst (ss.map Sight.d)) ∧ F.ok ∧ (∀ s ∈ ss, s.ok F) ∧ ss.length ≤ 200 ∧
  ∀ q h', h q = none → Keep h h' → h' q = some (.lst ((sorted_ (duesOf ss F.rows)).map Due.out)) → Q (.ref q) h'
@[irreducible] def sp_Lright (ca : CA) : DSp := fun vs h Q _ => ∃ (w f r k p : Addr) (F : Fleet) (ss : List Sight), vs = [.ref w, F.d, .ref p] ∧ WaI ca h w f r k F ss ∧ h p = some (.lst (ss.map Sight.d)) ∧ F.ok ∧
  ∀ h', Keep h h' → Q (.bl true) h'
def sel : Nat → List Str → List Str
  | _, [] => []
  | b, c :: r => if b % 2 = 1 then c :: sel (b / 2) r else sel (b / 2) r
theorem sel_sub : ∀ (r : List Str) (b : Nat), (sel b r).isSublist r = true
  | [], _ => rfl
  | c :: r, b => by
    unfold sel
    rw [List.isSublist_iff_sublist]
    by_cases z : b % 2 = 1
    · rw [if_pos z]; exact List.Sublist.cons_cons c (List.isSublist_iff_sublist.mp (sel_sub r (b / 2)))
    · rw [if_neg z]; exact List.Sublist.cons c (List.isSublist_iff_sublist.mp (sel_sub r (b / 2)))
theorem sel_all : ∀ (r p : List Str), p.Sublist r → ∃ b, b < 2 ^ r.length ∧ sel b r = p
  | [], p, s => ⟨0, by simp, by cases s; rfl⟩
  | c :: r, p, s => by
    cases s with
    | cons _ s =>
      obtain ⟨b, lb, e⟩ := sel_all r p s
      refine ⟨2 * b, by rw [List.length_cons, Nat.pow_succ]; omega, ?_⟩
      unfold sel
      rw [if_neg (by omega), show 2 * b / 2 = b by omega]; exact e
    | cons_cons _ s =>
      rename_i p'
      obtain ⟨b, lb, e⟩ := sel_all r p' s
      refine ⟨2 * b + 1, by rw [List.length_cons, Nat.pow_succ]; omega, ?_⟩
      unfold sel
      rw [if_pos (by omega), show (2 * b + 1) / 2 = b by omega, e]
theorem hid_none {whole part : List Str} (h : ∀ b, b < 2 ^ whole.length → sel b whole ≠ part) : hid whole part = none := by
  unfold hid
  rw [if_neg]
  intro z
  obtain ⟨b, lb, e⟩ := sel_all whole part (List.isSublist_iff_sublist.mp z)
  exact h b lb e
theorem hid_some {whole part : List Str} {b : Nat} (e : sel b whole = part) : hid whole part = some ((whole.length : Int) - part.length) := by
  unfold hid
  rw [if_pos (by rw [← e]; exact sel_sub whole b)]
end Dl
end
section
namespace Dl
open PySem PySem.Spec PyProof.Rows L2
def t_Lwhole (ca : CA) (E : DXK) : DTS := (dRet (dAnd (dCB isiD (dCons (dVar 0) (dCons (dC (.ty "int")) dNil))) (dNot (dCB isiD (dCons (dVar 0) (dCons (dC (.ty "bool")) dNil))))))
def t_Lapart (ca : CA) (E : DXK) : DTS := (dRet (dCB min2D (dCons (dOp modD (dOp subD (dVar 0) (dVar 1)) (dC (.int 32))) (dCons (dOp modD (dOp subD (dVar 1) (dVar 0)) (dC (.int 32))) dNil))))
def t_Lhidden (ca : CA) (E : DXK) : DTS := (dSeq (dFor (dRng1 (dCons (dOp shlD (dC (.int 1)) (dCB lenD (dCons (dVar 0) dNil))) dNil)) (dgName 2)
    (dSeq (dAsg (dLc (dEnum (dCons (dVar 0) dNil)) (.tup [4, 5]) (dB (dOp eqD (dOp andD (dOp shrD (dVar 2) (dVar 4)) (dC (.int 1))) (dC (.int 1)))) (dVar 5)) (dgName 3))
    (dIfS (dB (dOp eqD (dCB tupleD (dCons (dVar 3) dNil)) (dVar 1)))
    (dRet (dOp subD (dCB lenD (dCons (dVar 0) dNil)) (dCB lenD (dCons (dVar 1) dNil))))
    dNext)))
    (dRet (dC .non)))
def t_Lwatch (ca : CA) (E : DXK) : DTS := (dSeq (dAsg (dMake ca.Watch (sp_Watch_init ca) (fun cls fs _ h => E cls fs h) (dCons (dMake ca.Fleet (sp_Fleet_init ca) (fun cls fs _ h => E cls fs h) (dCons (dVar 0) dNil)) dNil)) (dgName 2))
    (dSeq (dFor (dSeqI (dVar 1)) (dgName 3)
    (dDrop (dMeth ca.Watch "put" (sp_Watch_put ca) (fun cls fs _ h => E cls fs h) (dVar 2) (dCons (dVar 3) dNil))))
    (dRet (dVar 2))))
def t_Lcosts (ca : CA) (E : DXK) : DTS := (dSeq (dAsg (dCB maxD (dCons (dOp addD (dLst (dCons (dC (.int (-1))) dNil)) (dLc (dSeqI (dVar 2)) (.one 10) dYes (dOp ixD (dVar 10) (dC (.int 0))))) dNil)) (dgName 3))
    (dSeq (dAsg (dLc (dRng1 (dCons (dOp addD (dVar 3) (dC (.int 1))) dNil)) (.one 5) dYes (dOp mulD (dLst (dCons (dC (.int 0)) dNil)) (dC (.int 32)))) (dgName 4))
    (dSeq (dFor (dSeqI (dVar 2)) (dgTup fun ds ρ h Q => ds.length = 3 ∧ (dgCons (dgName 5) (dgCons (dgName 6) (dgCons (dgName 7) dgNil))) ds ρ h Q)
    (dFor (dRng1 (dCons (dC (.int 32)) dNil)) (dgName 8)
    (dSeq (dAsg (dCall (sp_Lhidden ca) (fun cls fs _ h => E cls fs h) (dCons (dCall (sp_Lcolumn ca) (fun cls fs _ h => E cls fs h) (dCons (dVar 0) (dCons (dTup (dCons (dVar 1) (dCons (dVar 8) dNil))) (dCons (dVar 6) dNil)))) (dCons (dVar 7) dNil))) (dgName 9))
    (dIfS (dOrT (dB (dIsN (dVar 9))) (dB (dIsN (dOp ixD (dOp ixD (dVar 4) (dVar 5)) (dVar 8)))))
    (dAsg (dC .non) (dgSub (dOp ixD (dVar 4) (dVar 5)) (dVar 8)))
    (dAsg (dOp addD (dOp ixD (dOp ixD (dVar 4) (dVar 5)) (dVar 8)) (dVar 9)) (dgSub (dOp ixD (dVar 4) (dVar 5)) (dVar 8)))))))
    (dRet (dVar 4)))))
def t_Lleast (ca : CA) (E : DXK) : DTS := (dSeq (dAsg (dVar 1) (dgTup fun ds ρ h Q => ds.length = 3 ∧ (dgCons (dgName 3) (dgCons (dgName 4) (dgCons (dgName 5) dgNil))) ds ρ h Q))
    (dSeq (dAsg (dOp mulD (dLst (dCons (dC (.int 0)) dNil)) (dC (.int 32))) (dgName 6))
    (dSeq (dFor (dEnum (dCons (dCall (sp_Lcosts ca) (fun cls fs _ h => E cls fs h) (dCons (dVar 0) (dCons (dVar 3) (dCons (dVar 2) dNil)))) dNil)) (dgTup fun ds ρ h Q => ds.length = 2 ∧ (dgCons (dgName 7) (dgCons (dgName 8) dgNil)) ds ρ h Q)
    (dSeq (dAsg (dLst dNil) (dgName 9))
    (dSeq (dFor (dEnum (dCons (dVar 8) dNil)) (dgTup fun ds ρ h Q => ds.length = 2 ∧ (dgCons (dgName 10) (dgCons (dgName 11) dgNil)) ds ρ h Q)
    (dSeq (dAsg (dLc (dEnum (dCons (dVar 6) dNil)) (.tup [14, 15]) (dOrT (dB (dOp eqD (dVar 7) (dC (.int 0)))) (dB (dOp leD (dCall (sp_Lapart ca) W0 (dCons (dVar 10) (dCons (dVar 14) dNil))) (dVar 4)))) (dVar 15)) (dgName 12))
    (dSeq (dAsg (dLc (dSeqI (dVar 12)) (.one 15) (dB (dNotN (dVar 15))) (dVar 15)) (dgName 13))
    (dDrop (dBM "list" appendD (dVar 9) (dCons (dIfE (dAndT (dB (dOp neD (dVar 13) (dLst dNil))) (dB (dNotN (dVar 11)))) (dOp addD (dCB minD (dCons (dVar 13) dNil)) (dVar 11)) (dC .non)) dNil))))))
    (dAsg (dVar 9) (dgName 6)))))
    (dSeq (dAsg (dLc (dSeqI (dVar 6)) (.one 15) (dB (dNotN (dVar 15))) (dVar 15)) (dgName 13))
    (dRet (dIfE (dB (dOp neD (dVar 13) (dLst dNil))) (dCB minD (dCons (dVar 13) dNil)) (dC .non)))))))
def t_Ldue (ca : CA) (E : DXK) : DTS := (dSeq (dAsg (dLst dNil) (dgName 2))
    (dSeq (dFor (dEnum (dCons (dOp ixD (dVar 0) (dC (.int 1))) dNil)) (dgTup fun ds ρ h Q => ds.length = 2 ∧ (dgCons (dgName 3) (dgCons (dgName 4) dgNil)) ds ρ h Q)
    (dSeq (dAsg (dCall (sp_Lleast ca) (fun cls fs _ h => E cls fs h) (dCons (dVar 0) (dCons (dVar 4) (dCons (dVar 1) dNil)))) (dgName 5))
    (dIfS (dB (dNotN (dVar 5)))
    (dDrop (dBM "list" appendD (dVar 2) (dCons (dTup (dCons (dVar 5) (dCons (dVar 3) (dCons (dOp ixD (dVar 4) (dC (.int 0))) dNil)))) dNil)))
    dNext)))
    (dRet (dLc (dSeqI (dCB sortPD (dCons (dVar 2) dNil))) (.tup [5, 3, 6]) dYes (dTup (dCons (dVar 5) (dCons (dVar 6) dNil)))))))
def t_Lright (ca : CA) (E : DXK) : DTS := (dSeq (dAsg (dCall (sp_Ldue ca) (fun cls fs _ h => E cls fs h) (dCons (dVar 1) (dCons (dVar 2) dNil))) (dgName 3))
    (dSeq (dFor (dRng1 (dCons (dC (.int 2)) dNil)) (dgName 4)
    (dSeq (dAsg (dCall (sp_likely ca) (fun cls fs _ h => E cls fs h) (dCons (dVar 0) dNil)) (dgName 5))
    (dSeq (dIfS (dOrT (dNotT (dB (dCB isiD (dCons (dVar 5) (dCons (dC (.ty "list")) dNil))))) (dB (dOp neD (dVar 5) (dVar 3))))
    (dRet (dC (.bl false)))
    dNext)
    (dSeq (dIfS (dNotT (dB (dCB allD (dCons (dLc (dSeqI (dVar 5)) (.one 6) dYes (dAnd (dCB isiD (dCons (dVar 6) (dCons (dC (.ty "tuple")) dNil))) (dCall (sp_Lwhole ca) W0 (dCons (dOp ixD (dVar 6) (dC (.int 0))) dNil)))) dNil))))
    (dRet (dC (.bl false)))
    dNext)
    (dDrop (dBM "list" appendD (dVar 5) (dCons (dC (.int 7)) dNil)))))))
    (dRet (dC (.bl true)))))
def t_law (ca : CA) (E : DXK) : DTS := (dSeq (dAsg (dCall (sp_Lbegun ca) (fun cls fs _ h => E cls fs h) (dCons (dVar 0) dNil)) (dgName 1))
    (dSeq (dAsg (dCall (sp_Lfleet ca) (fun cls fs _ h => E cls fs h) (dCons (dVar 1) dNil)) (dgName 2))
    (dSeq (dAsg (dCall (sp_Lsights ca) (fun cls fs _ h => E cls fs h) (dCons (dVar 1) (dCons (dVar 2) (dCons (dC (.int 14)) dNil)))) (dgName 3))
    (dSeq (dAsg (dCall (sp_Lwatch ca) (fun cls fs _ h => E cls fs h) (dCons (dVar 2) (dCons (dLst dNil) dNil))) (dgName 4))
    (dSeq (dIfS (dNotT (dB (dCall (sp_Lright ca) (fun cls fs _ h => E cls fs h) (dCons (dVar 4) (dCons (dVar 2) (dCons (dLst dNil) dNil))))))
    (dRet (dC (.bl false)))
    dNext)
    (dSeq (dFor (dEnum (dCons (dVar 3) dNil)) (dgTup fun ds ρ h Q => ds.length = 2 ∧ (dgCons (dgName 5) (dgCons (dgName 6) dgNil)) ds ρ h Q)
    (dSeq (dDrop (dMeth ca.Watch "put" (sp_Watch_put ca) (fun cls fs _ h => E cls fs h) (dVar 4) (dCons (dVar 6) dNil)))
    (dIfS (dAndT (dOrT (dB (dOp eqD (dOp addD (dVar 5) (dC (.int 1))) (dCB lenD (dCons (dVar 3) dNil)))) (dB (dOp eqD (dOp modD (dVar 5) (dC (.int 5))) (dC (.int 2))))) (dNotT (dB (dCall (sp_Lright ca) (fun cls fs _ h => E cls fs h) (dCons (dVar 4) (dCons (dVar 2) (dCons (dSl (dVar 3) dNoP (dP (dOp addD (dVar 5) (dC (.int 1))))) dNil)))))))
    (dRet (dC (.bl false)))
    dNext)))
    (dRet (dAnd (dOp eqD (dMeth ca.Watch "sights" (sp_Watch_sights ca) (fun cls fs _ h => E cls fs h) (dVar 4) dNil) (dVar 3)) (dOp eqD (dMeth ca.Fleet "plain" (sp_Fleet_plain ca) (fun cls fs _ h => E cls fs h) (dMeth ca.Watch "fleet" (sp_Watch_fleet ca) (fun cls fs _ h => E cls fs h) (dVar 4) dNil) dNil) (dVar 2))))))))))
end Dl
end
section
local macro_rules | `(tactic| walk_at "s") => `(tactic| first | (decide) | (omega) | (dsimp only; omega) | exact Dl.sz_ (Nat.le_of_ble_eq_true rfl) | (refine Dl.sz_ ?_; simp only [List.length_map, List.length_append, List.length_cons, List.length_nil]; omega))
local macro_rules | `(tactic| walk_at "cmul") => `(tactic| first | exact Or.inr ⟨by decide, by decide⟩ | exact Or.inl ⟨by decide, by decide⟩ | exact Or.inr ⟨by omega, by omega⟩ | exact Or.inl ⟨by omega, by omega⟩)
namespace Dl
open PySem PySem.Spec PyProof.Rows L2
theorem shl_ {n v : Int} {h : Hd} {Q : DK} (c : CPow 1 n) (e : (1 : Int) * 2 ^ n.toNat = v) (q : Q (.int v) h) : shlD (.int 1) (.int n) h Q := by
  subst e; unfold shlD; exact ⟨c, q⟩
def bitF (b : Nat) : D → Option D
  | .tup [.int k, d] => if b / 2 ^ k.toNat % 2 = 1 then some d else none
  | _ => none
theorem sel_fm (b : Nat) : ∀ (r : List Str) (k : Nat), ((((r.map D.str).zipIdx k).map fun p => D.tup [.int (p.2 : Nat), p.1]).filterMap (bitF b)) = (sel (b / 2 ^ k) r).map D.str
  | [], _ => rfl
  | c :: r, k => by
    rw [List.map_cons, List.zipIdx_cons, List.map_cons, List.filterMap_cons]
    have e : bitF b (.tup [.int (k : Nat), .str c]) = if b / 2 ^ k % 2 = 1 then some (.str c) else none := by
      show (if b / 2 ^ ((k : Int)).toNat % 2 = 1 then _ else _) = _
      rw [Int.toNat_natCast]
    have ih := sel_fm b r (k + 1)
    rw [show b / 2 ^ (k + 1) = b / 2 ^ k / 2 by rw [Nat.pow_succ, Nat.div_div_eq_div_mul]] at ih
    rw [e]
    unfold sel
    by_cases z : b / 2 ^ k % 2 = 1
    · rw [if_pos z, if_pos z, List.map_cons]
      show D.str c :: _ = _
      rw [ih]
    · rw [if_neg z, if_neg z]
      exact ih
theorem num_mem' {r : List Str} {x : D} (m : x ∈ numL (r.map D.str)) : ∃ (k : Nat) (c : Str), x = .tup [.int (k : Nat), .str c] := by
  unfold numL at m
  obtain ⟨⟨d, k⟩, hd, rfl⟩ := List.mem_map.mp m
  have := List.mem_zipIdx hd
  obtain ⟨_, h2, h3⟩ := this
  obtain ⟨c, _, rfl⟩ := List.mem_map.mp (h3 ▸ List.getElem_mem _ : d ∈ r.map D.str)
  exact ⟨k, c, rfl⟩
theorem pure_Lwhole (ca : CA) : ∀ ds h Q E, sp_Lwhole ca ds h Q E → t_Lwhole ca E { nx := fun _ h' => Q .non h', rt := Q } (dstart ["_law_thing"] ds) h := by
  intro vs h Q E hh
  unfold sp_Lwhole at hh
  obtain ⟨d, rfl, kn, q⟩ := hh
  refine isi_int kn ?_
  cases z : isI d with
  | false => rw [z, Bool.false_and] at q; exact q
  | true => rw [z, Bool.true_and] at q; exact isi_bool kn q
theorem pure_Lapart (ca : CA) : ∀ ds h Q E, sp_Lapart ca ds h Q E → t_Lapart ca E { nx := fun _ h' => Q .non h', rt := Q } (dstart ["_law_one", "_law_other"] ds) h := by
  intro vs h Q E hh
  unfold sp_Lapart at hh
  obtain ⟨c, o, rfl, q⟩ := hh
  refine ⟨by walk_at "s", by walk_at "s", ?_⟩
  have e : (if (o - c) % 32 < (c - o) % 32 then (o - c) % 32 else (c - o) % 32) = min ((c - o) % 32) ((o - c) % 32) := by
    split <;> omega
  rw [← e] at q
  exact q
theorem pure_Lhidden (ca : CA) : ∀ ds h Q E, sp_Lhidden ca ds h Q E → t_Lhidden ca E { nx := fun _ h' => Q .non h', rt := Q } (dstart ["_law_whole_here", "_law_part", "_law_bits", "_law_left", "_law_k", "_law_colour"] ds) h := by
  intro vs h Q E hh
  unfold sp_Lhidden at hh
  obtain ⟨whole, part, rfl, l6, lp, q⟩ := hh
  have p2 : 2 ^ whole.length ≤ 64 := Nat.pow_le_pow_right (by decide) l6
  have c2 : ((1 : Int) * 2 ^ (((whole.map D.str).length : Int)).toNat) = ((2 ^ whole.length : Nat) : Int) := by rw [List.length_map, Int.toNat_natCast, Int.one_mul]; push_cast; rfl
  generalize hP : 2 ^ whole.length = P at p2 c2
  refine len_tup (shl_ (v := ((P : Nat) : Int)) ⟨by omega, by rw [List.length_map]; omega, by decide⟩ c2 ?_)
  refine ⟨⟨by omega, by omega⟩, ?_⟩
  rw [Int.toNat_natCast]
  refine loop_ (fun xs ρ h' => ∃ (j : Nat) (o1 o2 : Option D), xs = rngL j (P - j) ∧ j ≤ P ∧ (∀ b, b < j → sel b whole ≠ part) ∧ ρ = [some (.tup (whole.map D.str)), some (.tup (part.map D.str)), o1, o2, none, none] ∧ Keep h h') ?_ ?_ _ _ _ ⟨0, none, none, rfl, Nat.zero_le _, fun b l => by omega, rfl, Keep.refl h⟩
  · rintro x xs ρ h1 N ⟨j, o1, o2, ex, lj, no, rfl, k1⟩ hN
    obtain ⟨m, hm⟩ : ∃ m, P - j = m + 1 := by
      cases h6 : P - j with
      | zero => rw [h6] at ex; cases ex
      | succ m => exact ⟨m, rfl⟩
    rw [hm, rng_cons] at ex
    obtain ⟨rfl, rfl⟩ := List.cons.inj ex
    refine ⟨trivial, fun p np => ?_⟩
    refine lcp_ (h0 := h1) (bitF j) (fun x m h2 A S b ha hs => ?_) (fun h2 b2 e2 => ?_) _ (But.refl p h1).up up_same
    · obtain ⟨k, c, rfl⟩ := num_mem' m
      have eb : Builtin.bitAnd ((j : Int) / 2 ^ ((k : Int)).toNat) 1 = ((j / 2 ^ k % 2 : Nat) : Int) := by
        rw [Int.toNat_natCast]
        have := Bits.bitAnd_mask (x := (j : Int) / 2 ^ k) 1 (Int.ediv_nonneg (by omega) (by exact Int.le_of_lt (Int.pow_pos (by decide))))
        have e1 : ((2 : Int) ^ 1 - 1) = 1 := rfl
        rw [e1] at this
        rw [this]; push_cast; rfl
      refine ⟨trivial, rfl, by walk_at "s", eq_int ?_⟩
      rw [eb]
      refine if_b (fun z => ?_) fun z => ?_
      · have z := of_decide_eq_true z
        refine ha _ ?_
        show (if j / 2 ^ ((k : Int)).toNat % 2 = 1 then _ else _) = _
        rw [Int.toNat_natCast, if_pos (by omega)]
      · have z := of_decide_eq_false z
        refine hs ?_
        show (if j / 2 ^ ((k : Int)).toNat % 2 = 1 then _ else _) = _
        rw [Int.toNat_natCast, if_neg (by omega)]
    · have es := sel_fm j whole 0
      rw [Nat.pow_zero, Nat.div_one] at es
      rw [show (numL (whole.map D.str)).filterMap (bitF j) = (sel j whole).map D.str from es] at e2
      have kk := k1.trans (b2.keep np)
      refine ⟨trivial, tuple_lst e2 (eq_ (b := decide (sel j whole = part)) (toP_tup (toP_strs h2 _ _)) (toP_tup (toP_strs h2 _ _)) (eqvAll_strs _ _) (if_b (fun z => ?_) fun z => ?_))⟩
      · have z := of_decide_eq_true z
        refine len_tup (len_tup ?_)
        rw [List.length_map, List.length_map]
        rw [hid_some z] at q
        exact q h2 kk
      · have z := of_decide_eq_false z
        refine hN _ _ ⟨j + 1, _, _, by rw [show P - (j + 1) = m by omega]; push_cast; rfl, by omega, fun b l => ?_, rfl, kk⟩
        rcases Nat.lt_or_ge b j with l' | l'
        · exact no b l'
        · rw [show b = j by omega]; exact z
  · rintro ρ h1 ⟨j, o1, o2, ex, lj, no, rfl, k1⟩
    have ej : j = P := by
      have : P - j = 0 := by
        cases h6 : P - j with
        | zero => rfl
        | succ m => rw [h6, rng_cons] at ex; cases ex
      omega
    rw [hid_none (by rw [hP, ← ej]; exact no)] at q
    exact ⟨trivial, q h1 k1⟩
end Dl
end
section
local macro_rules | `(tactic| walk_at "s") => `(tactic| first | (decide) | (omega) | (dsimp only; omega) | exact Dl.sz_ (Nat.le_of_ble_eq_true rfl) | (refine Dl.sz_ ?_; simp only [List.length_map, List.length_append, List.length_cons, List.length_nil]; omega))
local macro_rules | `(tactic| walk_at "cmul") => `(tactic| first | exact Or.inr ⟨by decide, by decide⟩ | exact Or.inl ⟨by decide, by decide⟩ | exact Or.inr ⟨by omega, by omega⟩ | exact Or.inl ⟨by omega, by omega⟩)
namespace Dl
open PySem PySem.Spec PyProof.Rows L2
theorem fleet_init_ {ca : CA} {a : Addr} {F : Fleet} {h : Hd} {Q : DK} {E : DXK} (e : h a = some (.ins ca.Fleet [])) (ok : F.ok) (q : ∀ r h', FlI ca h' a r F → h r = none → (∀ b o, b ≠ a → h b = some o → h' b = some o) → Q .non h') : sp_Fleet_init ca [.ref a, F.d] h Q E := by unfold sp_Fleet_init; exact ⟨a, F, rfl, e, ok, q⟩
theorem watch_init_ {ca : CA} {w f : Addr} {h : Hd} {Q : DK} {E : DXK} (e : h w = some (.ins ca.Watch [])) (q : ∀ k h', h' w = some (.ins ca.Watch [("ships", .ref f), ("kept", .ref k)]) → h k = none → h' k = some (.lst []) → (∀ b o, b ≠ w → h b = some o → h' b = some o) → Q .non h') : sp_Watch_init ca [.ref w, .ref f] h Q E := by unfold sp_Watch_init; exact ⟨w, f, rfl, e, q⟩
theorem pure_Lwatch (ca : CA) : ∀ ds h Q E, sp_Lwatch ca ds h Q E → t_Lwatch ca E { nx := fun _ h' => Q .non h', rt := Q } (dstart ["_law_fleet_here", "_law_sights_here", "_law_found", "_law_sight"] ds) h := by
  intro vs h Q E hh
  unfold sp_Lwatch at hh
  obtain ⟨p, F, ss, rfl, ep, ok, so, few, q⟩ := hh
  intro f nf
  generalize eh1 : up h f _ = h1
  obtain ⟨k1, e1, b1⟩ := newf_ nf eh1
  refine fleet_init_ e1 ok fun r h2 fl nr kb2 => ⟨rfl, fun w nw => ?_⟩
  have k2 : Keep h h2 := fun b o eb => kb2 b o (by rintro rfl; rw [nf] at eb; cases eb) (k1 _ _ eb)
  generalize eh3 : up h2 w _ = h3
  obtain ⟨k3, e3, b3⟩ := newf_ nw eh3
  refine watch_init_ e3 fun k h4 e4 nk ek kb4 => ⟨rfl, ?_⟩
  have fw : f ≠ w := by rintro rfl; rw [fl.e] at nw; cases nw
  have rw_ : r ≠ w := by rintro rfl; rw [fl.er] at nw; cases nw
  have k4 : Keep h h4 := fun b o eb => kb4 b o (by rintro rfl; rw [keep_none k2 nw] at eb; cases eb) (k3 _ _ (k2 _ _ eb))
  have fl4 : FlI ca h4 f r F := ⟨kb4 _ _ fw (k3 _ _ fl.e), kb4 _ _ rw_ (k3 _ _ fl.er)⟩
  have hw := keep_none k2 nw
  have hk := keep_none (k2.trans k3) nk
  have hr := keep_none k1 nr
  refine ⟨_, k4 _ _ ep, ?_⟩
  have pk : p ≠ k := by rintro rfl; rw [ep] at hk; cases hk
  refine loop_ (fun xs ρ h' => ∃ (done rest : List Sight) (o : Option D), ss = done ++ rest ∧ xs = rest.map Sight.d ∧ ρ = [some F.d, some (.ref p), some (.ref w), o] ∧ Keep h h' ∧ WaI ca h' w f r k F done) ?_ ?_ _ _ _ ⟨[], ss, none, rfl, rfl, rfl, k4, ⟨e4, fl4, ek, by simp, by simp⟩⟩
  · rintro x xs ρ h5 N ⟨done, rest, o, es, ex, rfl, k5, wa⟩ hN
    cases rest with
    | nil => cases ex
    | cons g rest =>
    rw [List.map_cons] at ex
    obtain ⟨rfl, rfl⟩ := List.cons.inj ex
    have go := so g (by rw [es]; simp)
    have l : done.length < 200 := by rw [es, List.length_append, List.length_cons] at few; omega
    refine ⟨k5 _ _ ep, _, wa.e, lw_non _ (by decide +kernel) (by decide +kernel), put_sight_ wa go l fun h6 wa6 kb6 => ?_⟩
    exact hN _ _ ⟨done ++ [g], rest, _, by rw [es]; simp, rfl, rfl, fun b o eb => kb6 b o (by rintro rfl; rw [hk] at eb; cases eb) (k5 _ _ eb), wa6⟩
  · rintro ρ h5 ⟨done, rest, o, es, ex, rfl, k5, wa⟩
    cases rest with
    | cons _ _ => cases ex
    | nil =>
    rw [List.append_nil] at es
    subst es
    exact ⟨k5 _ _ ep, q w f r k h5 hw nf hr hk k5 wa⟩
end Dl
end
section
namespace Dl
open PySem PySem.Spec PyProof.Rows L2
theorem lt_of_get {α : Type} {l : List α} {i : Nat} {x : α} (e : l[i]? = some x) : i < l.length := by
  rcases Nat.lt_or_ge i l.length with h | h
  · exact h
  · rw [List.getElem?_eq_none h] at e; cases e
theorem forI_ {ok : Hd → Prop} {g : DTG} {tb : DTS} {Dd : DEnds} {items : List D} (Inv : Nat → DEnv → Hd → Prop)
    (step : ∀ i x ρ h (N : DEnv → Hd → Prop), items[i]? = some x → Inv i ρ h → (∀ ρ' h', Inv (i + 1) ρ' h' → N ρ' h') → ok h ∧ g x ρ h fun ρ' h' => tb { nx := N, rt := Dd.rt, bk := Dd.nx, ct := N } ρ' h')
    (fin : ∀ ρ h, Inv items.length ρ h → ok h ∧ Dd.nx ρ h) : ∀ ρ h, Inv 0 ρ h → dLoop ok g tb items Dd ρ h := by
  intro ρ h i0
  refine loop_ (fun xs ρ h => ∃ i, xs = items.drop i ∧ i ≤ items.length ∧ Inv i ρ h) ?_ ?_ _ _ _ ⟨0, rfl, Nat.zero_le _, i0⟩
  · rintro x xs ρ h N ⟨i, e, l, iv⟩ hN
    obtain ⟨e1, e2, l1⟩ := drop_cons e.symm
    exact step i x ρ h N e1 iv fun ρ' h' j => hN _ _ ⟨i + 1, e2.symm, l1, j⟩
  · rintro ρ h ⟨i, e, l, iv⟩
    have : i = items.length := by
      rcases Nat.lt_or_ge i items.length with z | z
      · rw [List.drop_eq_getElem_cons z] at e; cases e
      · omega
    subst this
    exact fin ρ h iv
theorem forL_ {α : Type} {ok : Hd → Prop} {g : DTG} {tb : DTS} {Dd : DEnds} {f : α → D} {l : List α} (Inv : Nat → DEnv → Hd → Prop)
    (step : ∀ i x ρ h (N : DEnv → Hd → Prop), l[i]? = some x → Inv i ρ h → (∀ ρ' h', Inv (i + 1) ρ' h' → N ρ' h') → ok h ∧ g (f x) ρ h fun ρ' h' => tb { nx := N, rt := Dd.rt, bk := Dd.nx, ct := N } ρ' h')
    (fin : ∀ ρ h, Inv l.length ρ h → ok h ∧ Dd.nx ρ h) : ∀ ρ h, Inv 0 ρ h → dLoop ok g tb (l.map f) Dd ρ h := by
  refine forI_ Inv (fun i x ρ h N e iv hN => ?_) (fun ρ h iv => fin ρ h (by rw [List.length_map] at iv; exact iv))
  rw [List.getElem?_map] at e
  cases z : l[i]? with
  | none => rw [z] at e; cases e
  | some y =>
    rw [z] at e
    obtain rfl : f y = x := by simpa using e
    exact step i y ρ h N z iv hN
theorem forR_ {ok : Hd → Prop} {g : DTG} {tb : DTS} {Dd : DEnds} {lo : Int} {n : Nat} (Inv : Nat → DEnv → Hd → Prop)
    (step : ∀ (i : Nat) ρ h (N : DEnv → Hd → Prop), i < n → Inv i ρ h → (∀ ρ' h', Inv (i + 1) ρ' h' → N ρ' h') → ok h ∧ g (.int (lo + (i : Int))) ρ h fun ρ' h' => tb { nx := N, rt := Dd.rt, bk := Dd.nx, ct := N } ρ' h')
    (fin : ∀ ρ h, Inv n ρ h → ok h ∧ Dd.nx ρ h) : ∀ ρ h, Inv 0 ρ h → dLoop ok g tb (rngL lo n) Dd ρ h := by
  unfold rngL
  refine forL_ Inv (fun i x ρ h N e iv hN => ?_) (fun ρ h iv => fin ρ h (by rw [List.length_range] at iv; exact iv))
  have l := lt_of_get e
  rw [List.length_range] at l
  rw [List.getElem?_range l] at e
  obtain rfl := Option.some.inj e
  exact step i ρ h N l iv hN
theorem forR0_ {ok : Hd → Prop} {g : DTG} {tb : DTS} {Dd : DEnds} {n : Nat} (Inv : Nat → DEnv → Hd → Prop)
    (step : ∀ (i : Nat) ρ h (N : DEnv → Hd → Prop), i < n → Inv i ρ h → (∀ ρ' h', Inv (i + 1) ρ' h' → N ρ' h') → ok h ∧ g (.int (i : Int)) ρ h fun ρ' h' => tb { nx := N, rt := Dd.rt, bk := Dd.nx, ct := N } ρ' h')
    (fin : ∀ ρ h, Inv n ρ h → ok h ∧ Dd.nx ρ h) : ∀ ρ h, Inv 0 ρ h → dLoop ok g tb (rngL 0 n) Dd ρ h :=
  forR_ Inv (fun i ρ h N l iv hN => by rw [Int.zero_add]; exact step i ρ h N l iv hN) fin
theorem numM_get {α : Type} {f : α → D} {l : List α} {i : Nat} {x : D} (e : (numL (l.map f))[i]? = some x) : ∃ y, l[i]? = some y ∧ x = .tup [.int (i : Int), f y] := by
  rw [numL_at, List.getElem?_map] at e
  cases z : l[i]? with
  | none => rw [z] at e; cases e
  | some y =>
    rw [z] at e
    obtain rfl : D.tup [.int (i : Int), f y] = x := by simpa using e
    exact ⟨y, rfl, rfl⟩
theorem forE_ {α : Type} {ok : Hd → Prop} {g : DTG} {tb : DTS} {Dd : DEnds} {f : α → D} {l : List α} (Inv : Nat → DEnv → Hd → Prop)
    (step : ∀ (i : Nat) x ρ h (N : DEnv → Hd → Prop), l[i]? = some x → Inv i ρ h → (∀ ρ' h', Inv (i + 1) ρ' h' → N ρ' h') → ok h ∧ g (.tup [.int (i : Int), f x]) ρ h fun ρ' h' => tb { nx := N, rt := Dd.rt, bk := Dd.nx, ct := N } ρ' h')
    (fin : ∀ ρ h, Inv l.length ρ h → ok h ∧ Dd.nx ρ h) : ∀ ρ h, Inv 0 ρ h → dLoop ok g tb (numL (l.map f)) Dd ρ h := by
  refine forI_ Inv (fun i x ρ h N e iv hN => ?_) (fun ρ h iv => fin ρ h (by rw [numL_len, List.length_map] at iv; exact iv))
  obtain ⟨y, ey, rfl⟩ := numM_get e
  exact step i y ρ h N ey iv hN
theorem lcI_ {p : Addr} {ok : Hd → Prop} {tg : Tgt} {tt : DTT} {te : DTE} {ρ : DEnv} {Q : DK} {items : List D} (Inv : Nat → List D → Hd → Prop)
    (step : ∀ i x acc h (A : D → Hd → Prop) (S : Hd → Prop), items[i]? = some x → Inv i acc h → h p = some (.lst acc) → (∀ y h', Inv (i + 1) (acc ++ [y]) (up h' p (.lst (acc ++ [y]))) → h' p = some (.lst acc) → A y h') → (∀ h', Inv (i + 1) acc h' → h' p = some (.lst acc) → S h') →
      ok h ∧ bindQ tg x ρ fun ρ2 => tt ρ2 h fun b h3 => if b = true then te ρ2 h3 A else S h3)
    (fin : ∀ acc h, Inv items.length acc h → h p = some (.lst acc) → ok h ∧ Q (.ref p) h) : ∀ h, Inv 0 [] h → h p = some (.lst []) → dLcL p ok tg tt te ρ Q items [] h := by
  have key : ∀ k i acc h, i + k = items.length → Inv i acc h → h p = some (.lst acc) → dLcL p ok tg tt te ρ Q (items.drop i) acc h := by
    intro k
    induction k with
    | zero =>
      intro i acc h e iv ep
      obtain rfl : i = items.length := by omega
      rw [List.drop_length]
      exact fin acc h iv ep
    | succ k ih =>
      intro i acc h e iv ep
      have l : i < items.length := by omega
      rw [List.drop_eq_getElem_cons l]
      exact step i _ acc h _ _ (List.getElem?_eq_getElem l) iv ep (fun y h' j e2 => ⟨e2, ih (i + 1) _ _ (by omega) j up_same⟩) fun h' j e2 => ih (i + 1) _ _ (by omega) j e2
  intro h i0 e0
  exact key items.length 0 [] h (by omega) i0 e0
theorem lcLL_ {p : Addr} {ok : Hd → Prop} {tg : Tgt} {te : DTE} {ρ : DEnv} {Q : DK} {items : List D} {h0 : Hd} (np : h0 p = none) (v : Nat → List D)
    (step : ∀ i x h (A : D → Hd → Prop), items[i]? = some x → Keep h0 h → (∀ q h', h q = none → Keep h h' → h' q = some (.lst (v i)) → A (.ref q) h') → ok h ∧ bindQ tg x ρ fun ρ2 => te ρ2 h A)
    (fin : ∀ qs h, Keep h0 h → LL h p qs ((List.range items.length).map v) → (∀ q ∈ qs, h0 q = none) → ok h ∧ Q (.ref p) h) : dLcL p ok tg dYes te ρ Q items [] (up h0 p (.lst [])) := by
  refine lcI_ (fun i acc h' => ∃ qs : List Addr, acc = qs.map D.ref ∧ qs.length = i ∧ Keep h0 h' ∧ (∀ q ∈ qs, h0 q = none) ∧ qs.Nodup ∧ p ∉ qs ∧ ∀ (i : Nat) q, qs[i]? = some q → h' q = some (.lst (v i))) ?_ ?_ _ ⟨[], rfl, rfl, keep_new np, by simp, List.nodup_nil, by simp, fun i q z => by simp at z⟩ up_same
  · rintro i x acc h A S ex ⟨qs, rfl, lq, k1, n1, d1, p1, v1⟩ ep hA hS
    obtain ⟨o, st⟩ := step i x h A ex k1 fun q h' nq k2 eq => by
      have pp : q ≠ p := by rintro rfl; rw [ep] at nq; cases nq
      have qm : q ∉ qs := fun m => by
        obtain ⟨j, hj⟩ := List.getElem?_of_mem m
        have := v1 j q hj; rw [nq] at this; cases this
      refine hA (.ref q) h' ⟨qs ++ [q], by rw [List.map_append]; rfl, by rw [List.length_append, lq]; rfl, keep_but (k1.trans k2) (fun b z => up_ne z) np, fun z m => ?_, ?_, fun m => ?_, fun j z hz => ?_⟩ (k2 _ _ ep)
      · rcases List.mem_append.mp m with m | m
        · exact n1 z m
        · obtain rfl := List.mem_singleton.mp m; exact keep_none k1 nq
      · rw [List.nodup_append]
        exact ⟨d1, by simp, fun a ma b mb e => by
          obtain rfl := List.mem_singleton.mp mb
          subst e
          exact qm ma⟩
      · rcases List.mem_append.mp m with m | m
        · exact p1 m
        · exact pp (List.mem_singleton.mp m).symm
      · by_cases zi : j < i
        · rw [List.getElem?_append_left (by omega)] at hz
          rw [up_ne (by rintro rfl; exact p1 (List.mem_of_getElem? hz))]; exact k2 _ _ (v1 j z hz)
        · have l := lt_of_get hz
          rw [List.length_append, List.length_cons, List.length_nil] at l
          obtain rfl : j = i := by omega
          rw [List.getElem?_append_right (by omega), lq, Nat.sub_self] at hz
          obtain rfl : q = z := by simpa using hz
          rw [up_ne pp]; exact eq
    exact ⟨o, st⟩
  · rintro acc h ⟨qs, rfl, lq, k1, n1, d1, p1, v1⟩ ep
    exact fin qs h k1 ⟨ep, d1, p1, by rw [List.length_map, List.length_range]; exact lq, fun i q xs a b => by
      have l := lt_of_get b
      rw [List.length_map, List.length_range] at l
      rw [List.getElem?_map, List.getElem?_range l] at b
      obtain rfl : v i = xs := by simpa using b
      exact v1 i q a⟩ n1
end Dl
end
section
local macro_rules | `(tactic| walk_at "s") => `(tactic| first | (decide) | (omega) | (dsimp only; omega) | exact Dl.sz_ (Nat.le_of_ble_eq_true rfl) | (refine Dl.sz_ ?_; simp only [List.length_map, List.length_append, List.length_cons, List.length_nil]; omega))
local macro_rules | `(tactic| walk_at "cmul") => `(tactic| first | exact Or.inr ⟨by decide, by decide⟩ | exact Or.inl ⟨by decide, by decide⟩ | exact Or.inr ⟨by omega, by omega⟩ | exact Or.inl ⟨by omega, by omega⟩)
namespace Dl
open PySem PySem.Spec PyProof.Rows L2
theorem lcosts_len {F : Fleet} {w : Row} (ok : F.ok) (e : F.row w.kind = some w) (b : Int) : (w.shown b).length ≤ 6 := by
  have m : w ∈ F.rows := List.mem_of_find?_eq_some e
  unfold Row.shown
  rw [List.length_map]
  exact Nat.le_trans (List.length_filter_le _ _) (ok.rows w m).n1
theorem lhidden_ {ca : CA} {whole part : List Str} {h : Hd} {Q : DK} {E : DXK} (l6 : whole.length ≤ 6) (lp : part.length ≤ 1000) (q : ∀ h', Keep h h' → Q (oD (hid whole part)) h') : sp_Lhidden ca [.tup (whole.map D.str), .tup (part.map D.str)] h Q E := by unfold sp_Lhidden; exact ⟨whole, part, rfl, l6, lp, q⟩
theorem costO_snoc (w : Row) (co : Int) (l : List Sight) (s : Sight) : costO w co (l ++ [s]) = (costO w co l).bind fun a => (hid (w.shown ((s.sd - co) % 32)) s.cols).map (a + ·) := by
  unfold costO; rw [List.foldl_append]; rfl
def tabF (n : Nat) (f : Nat → Nat → Option Int) : List (List D) := (List.range n).map fun m => (List.range 32).map fun co => oD (f m co)
theorem tabF_set {n m j : Nat} {f f' : Nat → Nat → Option Int} (same : ∀ a b, (a = m → b ≠ j) → f' a b = f a b) : (tabF n f).set m (((List.range 32).map fun co => oD (f m co)).set j (oD (f' m j))) = tabF n f' := by
  have e1 : ((List.range 32).map fun co => oD (f m co)).set j (oD (f' m j)) = (List.range 32).map fun co => oD (f' m co) := set_range (g := fun co => oD (f m co)) (g' := fun co => oD (f' m co)) fun i z => by rw [same m i fun _ => z]
  rw [e1]
  exact set_range (g := fun m => (List.range 32).map fun co => oD (f m co)) (g' := fun m => (List.range 32).map fun co => oD (f' m co)) fun i z => by
    apply List.map_congr_left
    intro co _
    rw [same i co fun q => (z q).elim]
theorem tabF_congr {n : Nat} {f f' : Nat → Nat → Option Int} (same : ∀ a b, a < n → b < 32 → f' a b = f a b) : tabF n f = tabF n f' := by
  unfold tabF
  apply List.map_congr_left
  intro m hm
  apply List.map_congr_left
  intro co hc
  rw [same m co (List.mem_range.mp hm) (List.mem_range.mp hc)]
theorem LL.cell {h : Hd} {q : Addr} {qs : List Addr} {n : Nat} {f : Nat → Nat → Option Int} (x : LL h q qs (tabF n f)) {m c : Nat} (hm : m < n) (hc : c < 32) :
    ∃ a, qs[m]? = some a ∧ atI (qs.map D.ref) (m : Int) = some (.ref a) ∧ h a = some (.lst ((List.range 32).map fun co => oD (f m co))) ∧ atI ((List.range 32).map fun co => oD (f m co)) (c : Int) = some (oD (f m c)) := by
  have lt : (tabF n f).length = n := by unfold tabF; rw [List.length_map, List.length_range]
  have lq : m < qs.length := by rw [x.len, lt]; exact hm
  have e1 : qs[m]? = some qs[m] := List.getElem?_eq_getElem lq
  refine ⟨qs[m], e1, at_nn (by omega) (by rw [Int.toNat_natCast, List.getElem?_map, e1]; rfl), x.it m _ _ e1 ?_, at_nn (by omega) ?_⟩
  · unfold tabF; rw [List.getElem?_map, List.getElem?_range hm]; rfl
  · rw [Int.toNat_natCast, List.getElem?_map, List.getElem?_range hc]; rfl
theorem costTab_F (w : Row) (ss : List Sight) : (costTab w ss).map (fun x => x.map oD) = tabF (nMo ss) fun m co => costO w (co : Int) (ss.filter fun s => s.mo == (m : Int)) := by
  unfold costTab byMo tabF costRow
  rw [List.map_map, List.map_map]
  apply List.map_congr_left
  intro m _
  simp only [Function.comp_def, List.map_map]
theorem nMo_max {ss : List Sight} {F : Fleet} (so : ∀ s ∈ ss, s.ok F) {m : Int} (a : m ∈ (-1 : Int) :: ss.map Sight.mo) (b : ∀ y ∈ (-1 : Int) :: ss.map Sight.mo, y ≤ m) : (m + 1) = (nMo ss : Int) := by
  have h1 : m + 1 ≤ (nMo ss : Int) := by
    rcases List.mem_cons.mp a with rfl | a
    · omega
    · obtain ⟨s, ms, rfl⟩ := List.mem_map.mp a
      have := mo_lt ms (so s ms).m0
      omega
  have h2 : (nMo ss : Int) ≤ m + 1 := by
    cases ss with
    | nil =>
      have := b (-1) List.mem_cons_self
      show ((0 : Nat) : Int) ≤ _
      omega
    | cons t r =>
      have ht := b t.mo (List.mem_cons_of_mem _ (by simp))
      have hl := fold_le (b := m) (r.map Sight.mo) t.mo ht fun x mx => b x (List.mem_cons_of_mem _ (by rw [List.map_cons]; exact List.mem_cons_of_mem _ mx))
      have t0 := (so t List.mem_cons_self).m0
      have g0 := (fold_ge (r.map Sight.mo) t.mo).1
      show ((((r.map Sight.mo).foldl max t.mo).toNat + 1 : Nat) : Int) ≤ _
      omega
  omega
theorem pure_Lcosts (ca : CA) : ∀ ds h Q E, sp_Lcosts ca ds h Q E → t_Lcosts ca E { nx := fun _ h' => Q .non h', rt := Q } (dstart ["_law_fleet_here", "_law_kind", "_law_sights_here", "_law_last", "_law_found", "_law_moment", "_law_side", "_law_part", "_law_course", "_law_hidden_here", "_law_sight"] ds) h := by
  intro vs h Q E hh
  unfold sp_Lcosts at hh
  obtain ⟨p, F, w, ss, rfl, ep, ok, ew, so, few, q⟩ := hh
  refine ⟨by walk_at "s", fun p1 np1 => ?_⟩
  generalize eh1 : up h p1 _ = h1
  obtain ⟨k1, e1, b1⟩ := newf_ np1 eh1
  refine ⟨_, k1 _ _ ep, fun p2 np2 => ?_⟩
  have z12 : p1 ≠ p2 := by rintro rfl; rw [e1] at np2; cases np2
  have zp2 : p ≠ p2 := by rintro rfl; rw [k1 _ _ ep] at np2; cases np2
  refine lcp_ (h0 := h1) (fun x => match x with | .tup [m, s, c] => some m | _ => none) (fun x m h2 A S b ha hs => ?_) (fun h2 b2 e2 => ?_) _ (But.refl p2 h1).up up_same
  · obtain ⟨s, _, rfl⟩ := List.mem_map.mp m
    exact ⟨(b _ zp2).trans (k1 _ _ ep), ix_tup (d := .int s.mo) (at_nn (by decide) rfl) (ha _ rfl)⟩
  have k2 := k1.trans (b2.keep np2)
  have e2' : h2 p2 = some (.lst ((ss.map Sight.mo).map D.int)) := by
    rw [e2, List.filterMap_map, List.map_map]
    exact congrArg (fun l => some (MO.lst l)) (fm_some (g := fun s : Sight => D.int s.mo) ss)
  refine ⟨(b2 _ zp2).trans (k1 _ _ ep), [.int (-1)], (ss.map Sight.mo).map D.int, (b2 _ z12).trans e1, e2', by rw [szL]; simp; omega, fun p3 np3 => ?_⟩
  generalize eh3 : up h2 p3 _ = h3
  obtain ⟨k3, e3, b3⟩ := newf_ np3 eh3
  refine ints_lst (ns := (-1) :: ss.map Sight.mo) e3 ⟨by simp, fun la m1 m2 => ?_⟩
  have en := nMo_max so m1 m2
  have n1 := nMo_le so
  have k3' := k2.trans k3
  refine ⟨⟨by omega, by omega⟩, fun q1 nq1 => ?_⟩
  rw [en, Int.toNat_natCast]
  have fq := keep_none k3' nq1
  have zpq : p ≠ q1 := by rintro rfl; rw [ep] at fq; cases fq
  refine lcLL_ nq1 (fun _ => List.replicate 32 (.int 0)) (fun i x h4 A ex k4 ha => ?_) fun qs h4 k4 ll nqs => ⟨trivial, ?_⟩
  · refine ⟨trivial, by walk_at "s", fun p5 np5 => ?_⟩
    generalize eh5 : up h4 p5 _ = h5
    obtain ⟨k5, e5, b5⟩ := newf_ np5 eh5
    refine ⟨[.int 0], e5, ⟨by decide, by decide⟩, by rw [szL]; decide, fun p6 np6 => ?_⟩
    generalize eh6 : up h5 p6 _ = h6
    obtain ⟨k6, e6, b6⟩ := newf_ np6 eh6
    exact ha p6 h6 (keep_none k5 np6) (k5.trans k6) (by rw [e6]; rfl)
  have kk := k3'.trans k4
  rw [rng_len] at ll
  refine ⟨_, kk _ _ ep, ?_⟩
  refine forL_ (fun i ρ h' => ∃ o5 o6 o7 o8 o9 : Option D, ρ = [some F.d, some (.str w.kind), some (.ref p), some (.int la), some (.ref q1), o5, o6, o7, o8, o9, none] ∧ Keep h h' ∧ LL h' q1 qs (tabF (nMo ss) fun m co => costO w (co : Int) ((ss.take i).filter fun s => s.mo == (m : Int)))) ?_ ?_ _ _ ⟨none, none, none, none, none, rfl, kk, ?_⟩
  · rintro i g ρ h5 N eg ⟨o5, o6, o7, o8, o9, rfl, k5, l5⟩ hN
    have mg : g ∈ ss := List.mem_of_getElem? eg
    have go := so g mg
    have gl := mo_lt mg go.m0
    have et := take_some eg
    obtain ⟨mo, sd, cols⟩ := g
    obtain ⟨m, rfl⟩ : ∃ m : Nat, mo = m := ⟨mo.toNat, by have := go.m0; dsimp only at this; omega⟩
    have lm : m < nMo ss := by dsimp only at gl; omega
    refine ⟨k5 _ _ ep, rfl, ?_⟩
    have flt : ∀ a : Nat, (ss.take (i + 1)).filter (fun s => s.mo == (a : Int)) = if a = m then (ss.take i).filter (fun s => s.mo == (a : Int)) ++ [⟨m, sd, cols⟩] else (ss.take i).filter (fun s => s.mo == (a : Int)) := by
      intro a
      rw [et, List.filter_append]
      by_cases z : a = m
      · subst z
        rw [if_pos rfl]
        congr 1
        simp
      · rw [if_neg z]
        have : ¬ ((m : Int) = (a : Int)) := by omega
        have e : ([⟨m, sd, cols⟩] : List Sight).filter (fun s => s.mo == (a : Int)) = [] := by simp [this]
        rw [e, List.append_nil]
    refine ⟨⟨by decide, by decide⟩, ?_⟩
    refine forR0_ (n := 32) (fun j ρ h' => ∃ o8 o9 : Option D, ρ = [some F.d, some (.str w.kind), some (.ref p), some (.int la), some (.ref q1), some (.int m), some (.int sd), some (.tup (cols.map D.str)), o8, o9, none] ∧ Keep h h' ∧
      LL h' q1 qs (tabF (nMo ss) fun a co => if a = m ∧ co < j then costO w (co : Int) ((ss.take (i + 1)).filter fun s => s.mo == (a : Int)) else costO w (co : Int) ((ss.take i).filter fun s => s.mo == (a : Int)))) ?_ ?_ _ _ ⟨o8, o9, rfl, k5, ?_⟩
    · rintro j ρ h6 N6 lj ⟨o8', o9', rfl, k6, l6⟩ hN6
      refine ⟨trivial, by walk_at "s", lcolumn_ ok fun h7 k7 => ?_⟩
      have esh : F.column w.kind (j : Int) sd = w.shown ((sd - (j : Int)) % 32) := by unfold Fleet.column; rw [ew]
      rw [esh]
      refine lhidden_ (lcosts_len ok ew _) (by have := go.cn; dsimp only at this; omega) fun h8 k8 => ?_
      have l8 := (l6.keep k7).keep k8
      have k8' := (k6.trans k7).trans k8
      obtain ⟨a, ha, hat, hv, hc⟩ := l8.cell lm lj
      have fa : h a = none := keep_none k3' (nqs _ (List.mem_of_getElem? ha))
      have ev : (if m = m ∧ j < j then costO w (j : Int) ((ss.take (i + 1)).filter fun s => s.mo == (m : Int)) else costO w (j : Int) ((ss.take i).filter fun s => s.mo == (m : Int))) = costO w (j : Int) ((ss.take i).filter fun s => s.mo == (m : Int)) := by rw [if_neg (by omega)]
      rw [ev] at hc
      have enew : costO w (j : Int) ((ss.take (i + 1)).filter fun s => s.mo == (m : Int)) = (costO w (j : Int) ((ss.take i).filter fun s => s.mo == (m : Int))).bind fun a => (hid (w.shown ((sd - (j : Int)) % 32)) cols).map (a + ·) := by
        rw [flt m, if_pos rfl, costO_snoc]
      have W : ∀ h9, up h8 a (.lst (((List.range 32).map fun co => oD (if m = m ∧ co < j then costO w (co : Int) ((ss.take (i + 1)).filter fun s => s.mo == (m : Int)) else costO w (co : Int) ((ss.take i).filter fun s => s.mo == (m : Int)))).set j (oD (costO w (j : Int) ((ss.take (i + 1)).filter fun s => s.mo == (m : Int)))))) = h9 →
          ∀ o9, N6 [some F.d, some (.str w.kind), some (.ref p), some (.int la), some (.ref q1), some (.int m), some (.int sd), some (.tup (cols.map D.str)), some (.int (j : Int)), o9, none] h9 := by
        intro h9 eh9 o9
        obtain ⟨e9, b9⟩ := putf_ eh9
        have l9 := l8.put ha eh9
        refine hN6 _ _ ⟨_, _, rfl, keep_but k8' b9 fa, ?_⟩
        have es := tabF_set (n := nMo ss) (m := m) (j := j) (f := fun a co => if a = m ∧ co < j then costO w (co : Int) ((ss.take (i + 1)).filter fun s => s.mo == (a : Int)) else costO w (co : Int) ((ss.take i).filter fun s => s.mo == (a : Int)))
          (f' := fun a co => if a = m ∧ co < j + 1 then costO w (co : Int) ((ss.take (i + 1)).filter fun s => s.mo == (a : Int)) else costO w (co : Int) ((ss.take i).filter fun s => s.mo == (a : Int))) (fun a b z => by
            by_cases y : a = m ∧ b < j
            · rw [if_pos y, if_pos ⟨y.1, by omega⟩]
            · rw [if_neg y, if_neg (fun y' => y ⟨y'.1, by have := z y'.1; omega⟩)])
        rw [if_pos ⟨rfl, Nat.lt_succ_self j⟩] at es
        rw [es] at l9
        exact l9
      have IX : ixN ((List.range 32).map fun co => oD (if m = m ∧ co < j then costO w (co : Int) ((ss.take (i + 1)).filter fun s => s.mo == (m : Int)) else costO w (co : Int) ((ss.take i).filter fun s => s.mo == (m : Int)))).length (j : Int) = some j := by
        rw [List.length_map, List.length_range, ixN_of (by omega) (by omega), Int.toNat_natCast]
      rw [enew] at W
      show if isNonD (oD (hid (w.shown ((sd - (j : Int)) % 32)) cols)) = true then _ else _
      cases z1 : hid (w.shown ((sd - (j : Int)) % 32)) cols with
      | none =>
        rw [z1] at W
        refine ix_lst l8.e hat ⟨_, j, hv, IX, ?_⟩
        have zb : ((costO w (j : Int) ((ss.take i).filter fun s => s.mo == (m : Int))).bind fun a => Option.map (fun x => a + x) (none : Option Int)) = none := by cases costO w (j : Int) ((ss.take i).filter fun s => s.mo == (m : Int)) <;> rfl
        rw [zb] at W
        exact W _ rfl _
      | some b =>
        rw [z1] at W
        refine ix_lst l8.e hat (ix_lst hv hc ?_)
        show if isNonD (oD (costO w (j : Int) ((ss.take i).filter fun s => s.mo == (m : Int)))) = true then _ else _
        cases z2 : costO w (j : Int) ((ss.take i).filter fun s => s.mo == (m : Int)) with
        | none =>
          rw [z2] at W
          refine ix_lst l8.e hat ⟨_, j, hv, IX, ?_⟩
          exact W _ rfl _
        | some c =>
          rw [z2] at W hc
          refine ix_lst l8.e hat (ix_lst hv hc ?_)
          refine ix_lst l8.e hat ⟨_, j, hv, IX, ?_⟩
          exact W _ rfl _
    · rintro ρ h6 ⟨o8', o9', rfl, k6, l6⟩
      refine ⟨trivial, hN _ _ ⟨_, _, _, _, _, rfl, k6, ?_⟩⟩
      rw [tabF_congr (f' := fun m co => costO w (co : Int) ((ss.take (i + 1)).filter fun s => s.mo == (m : Int))) (fun a b la lb => by
        by_cases y : a = m
        · rw [if_pos ⟨y, lb⟩]
        · rw [if_neg (fun y' => y y'.1), flt a, if_neg y])] at l6
      exact l6
    · rw [tabF_congr (f' := fun m co => costO w (co : Int) ((ss.take i).filter fun s => s.mo == (m : Int))) (fun a b la lb => by rw [if_neg (by omega)])]
      exact l5
  · rintro ρ h5 ⟨o5, o6, o7, o8, o9, rfl, k5, l5⟩
    refine ⟨k5 _ _ ep, q q1 qs h5 k5 ?_⟩
    rw [costTab_F]
    rw [List.take_length] at l5
    exact l5
  · have e : (List.range (nMo ss)).map (fun _ => List.replicate 32 (D.int 0)) = tabF (nMo ss) fun m co => costO w (co : Int) ((ss.take 0).filter fun s => s.mo == (m : Int)) := by
      unfold tabF
      apply List.map_congr_left
      intro a _
      rfl
    rw [← e]; exact ll
end Dl
end
section
local macro_rules | `(tactic| walk_at "s") => `(tactic| first | (decide) | (omega) | (dsimp only; omega) | exact Dl.sz_ (Nat.le_of_ble_eq_true rfl) | (refine Dl.sz_ ?_; simp only [List.length_map, List.length_append, List.length_cons, List.length_nil]; omega))
local macro_rules | `(tactic| walk_at "cmul") => `(tactic| first | exact Or.inr ⟨by decide, by decide⟩ | exact Or.inl ⟨by decide, by decide⟩ | exact Or.inr ⟨by omega, by omega⟩ | exact Or.inl ⟨by omega, by omega⟩)
namespace Dl
open PySem PySem.Spec PyProof.Rows L2
theorem lcosts_ {ca : CA} {p : Addr} {F : Fleet} {w : Row} {ss : List Sight} {h : Hd} {Q : DK} {E : DXK} (ep : h p = some (.lst (ss.map Sight.d))) (ok : F.ok) (e : F.row w.kind = some w) (so : ∀ s ∈ ss, s.ok F) (few : ss.length ≤ 200)
    (q : ∀ q qs h', Keep h h' → LL h' q qs ((costTab w ss).map fun x => x.map oD) → Q (.ref q) h') : sp_Lcosts ca [F.d, .str w.kind, .ref p] h Q E := by unfold sp_Lcosts; exact ⟨p, F, w, ss, rfl, ep, ok, e, so, few, q⟩
theorem lapart_ {ca : CA} {c o : Int} {h : Hd} {Q : DK} {E : DXK} (q : Q (.int (min ((c - o) % 32) ((o - c) % 32))) h) : sp_Lapart ca [.int c, .int o] h Q E := by unfold sp_Lapart; exact ⟨c, o, rfl, q⟩
theorem lwhole_ {ca : CA} {d : D} {h : Hd} {Q : DK} {E : DXK} (k : Kn h d) (q : Q (.bl (isI d && !isB d)) h) : sp_Lwhole ca [d] h Q E := by unfold sp_Lwhole; exact ⟨d, rfl, k, q⟩
def atP (P : Nat → Bool) (row : ORow) : List Int := row.zipIdx.filterMap fun p => if P p.2 then p.1 else none
def pickF (P : Nat → Bool) : D → Option D
  | .tup [.int o, d] => if P o.toNat then some d else none
  | _ => none
def intF : D → Option D
  | .int i => some (.int i)
  | _ => none
theorem atP_fm (P : Nat → Bool) : ∀ (row : ORow) (k : Nat), ((((row.map oD).zipIdx k).map fun p => D.tup [.int (p.2 : Nat), p.1]).filterMap (pickF P)).filterMap intF = ((row.zipIdx k).filterMap fun p => if P p.2 then p.1 else none).map D.int
  | [], _ => rfl
  | o :: r, k => by
    have ih := atP_fm P r (k + 1)
    rw [List.map_cons, List.zipIdx_cons, List.map_cons, List.filterMap_cons, List.zipIdx_cons, List.filterMap_cons]
    have e : pickF P (.tup [.int (k : Nat), oD o]) = if P k then some (oD o) else none := by
      show (if P ((k : Int)).toNat then _ else _) = _
      rw [Int.toNat_natCast]
    rw [e]
    cases z : P k with
    | false => exact ih
    | true =>
      cases o with
      | none => exact ih
      | some v =>
        rw [if_pos rfl, if_pos rfl]
        show D.int v :: _ = D.int v :: _
        rw [ih]
theorem atP_mem {P : Nat → Bool} {row : ORow} {x : Int} : x ∈ atP P row ↔ ∃ o : Nat, P o = true ∧ row[o]? = some (some x) := by
  unfold atP
  rw [List.mem_filterMap]
  constructor
  · rintro ⟨⟨v, o⟩, m, e⟩
    have m' := List.mem_zipIdx_iff_getElem?.mp m
    by_cases z : P o = true
    · rw [if_pos z] at e
      dsimp only at e m'
      exact ⟨o, z, by rw [m', e]⟩
    · rw [if_neg z] at e; cases e
  · rintro ⟨o, z, e⟩
    exact ⟨(some x, o), List.mem_zipIdx_iff_getElem?.mpr e, by rw [if_pos z]⟩
theorem atP_least {row : ORow} {c t : Int} (l : row.length = 32) : minL (atP (fun o => nearB c o t) row) = leastN row c t := by
  unfold leastN
  refine minL_congr fun x => ?_
  rw [atP_mem, List.mem_filterMap]
  constructor
  · rintro ⟨o, z, e⟩
    have := lt_of_get e
    exact ⟨o, List.mem_range.mpr (by omega), by rw [if_pos z, e]; rfl⟩
  · rintro ⟨o, mo, e⟩
    by_cases z : nearB c o t = true
    · rw [if_pos z] at e
      refine ⟨o, z, ?_⟩
      cases z2 : row[o]? with
      | none => rw [z2] at e; cases e
      | some v => rw [z2] at e; rw [show v = some x from e]
    · rw [if_neg z] at e; cases e
def curAt (t : Int) (tab : List ORow) : Nat → ORow
  | 0 => List.replicate 32 (some 0)
  | i + 1 => ((rowsM t tab)[i]?).getD []
def leastAt (t : Int) (tab : List ORow) (i : Nat) (j : Int) : Option Int := if i = 0 then some 0 else leastN (curAt t tab i) j t
theorem curAt_len {t : Int} {tab : List ORow} (h32 : ∀ c ∈ tab, c.length = 32) {i : Nat} (l : i ≤ tab.length) : (curAt t tab i).length = 32 := by
  cases i with
  | zero => rfl
  | succ i =>
    have lr : i < (rowsM t tab).length := by rw [rowsM_len]; omega
    have er := List.getElem?_eq_getElem lr
    show (((rowsM t tab)[i]?).getD []).length = 32
    rw [er]
    exact rowsFrom_all t tab none h32 _ (List.getElem_mem lr)
theorem curAt_next {t : Int} {tab : List ORow} {i : Nat} {c : ORow} (e : tab[i]? = some c) {j : Nat} {v : Option Int} (ev : c[j]? = some v) : (curAt t tab (i + 1))[j]? = some (addO v (leastAt t tab i j)) := by
  show (((rowsM t tab)[i]?).getD [])[j]? = _
  cases i with
  | zero =>
    rw [show rowsM t tab = rowsFrom t none tab from rfl, rowsFrom_zero, e]
    show c[j]? = _
    rw [ev]
    cases v with
    | none => rfl
    | some a => show some (some a) = some (some (0 + a)); rw [Int.zero_add]
  | succ i =>
    have li := lt_of_get e
    have lr : i < (rowsM t tab).length := by rw [rowsM_len]; omega
    have er := List.getElem?_eq_getElem lr
    have en := rowsFrom_succ t tab none i _ _ er e
    rw [show rowsM t tab = rowsFrom t none tab from rfl, en]
    show (nextRow _ c t)[j]? = _
    rw [nextRow_get, ev]
    show some (addO v (leastN _ j t)) = some (addO v (leastAt t tab (i + 1) j))
    unfold leastAt
    rw [if_neg (by omega)]
    show _ = some (addO v (leastN (((rowsM t tab)[i]?).getD []) j t))
    rw [er]; rfl
theorem curAt_last {t : Int} {tab : List ORow} : minL ((curAt t tab tab.length).filterMap id) = numOf t tab := by
  unfold numOf
  cases z : tab.length with
  | zero =>
    have : tab = [] := List.eq_nil_of_length_eq_zero z
    subst this
    rfl
  | succ n =>
    have lr : n < (rowsM t tab).length := by rw [rowsM_len]; omega
    rw [List.getLast?_eq_getElem?, rowsM_len, z, Nat.add_sub_cancel]
    show minL ((((rowsM t tab)[n]?).getD []).filterMap id) = _
    rw [List.getElem?_eq_getElem lr]; rfl
theorem near_min {c o t : Int} : decide (min ((c - o) % 32) ((o - c) % 32) ≤ t) = nearB c o t := by
  unfold nearB
  by_cases a : (c - o) % 32 ≤ t <;> by_cases b : (o - c) % 32 ≤ t <;> simp only [a, b, decide_true, decide_false, Bool.or_true, Bool.or_false, Bool.true_or] <;> first | (apply decide_eq_true; omega) | (apply decide_eq_false; omega)
theorem numO_mem {row : ORow} {x : D} (m : x ∈ numL (row.map oD)) : ∃ (k : Nat) (o : Option Int), x = .tup [.int (k : Nat), oD o] := by
  obtain ⟨i, hi⟩ := List.getElem?_of_mem m
  obtain ⟨y, _, rfl⟩ := numM_get hi
  exact ⟨i, y, rfl⟩
theorem numO (row : ORow) (P : Nat → Bool) : ((numL (row.map oD)).filterMap (pickF P)).filterMap intF = (atP P row).map D.int := atP_fm P row 0
theorem pure_Lleast (ca : CA) : ∀ ds h Q E, sp_Lleast ca ds h Q E → t_Lleast ca E { nx := fun _ h' => Q .non h', rt := Q } (dstart ["_law_fleet_here", "_law_row", "_law_sights_here", "_law_kind", "_law_turn", "_law_lamps_here", "_law_least_here", "_law_moment", "_law_costs_here", "_law_fresh", "_law_course", "_law_cost", "_law_near", "_law_some", "_law_other", "_law_one"] ds) h := by
  intro vs h Q E hh
  unfold sp_Lleast at hh
  obtain ⟨p, F, w, ss, rfl, ep, ok, mw, ew, so, few, q⟩ := hh
  have wok := ok.rows w mw
  have t0 := wok.t0
  have t1 := wok.t1
  refine ⟨rfl, by walk_at "s", fun p1 np1 => ?_⟩
  generalize eh1 : up h p1 _ = h1
  obtain ⟨k1, e1, b1⟩ := newf_ np1 eh1
  refine ⟨[.int 0], e1, ⟨by decide, by decide⟩, by rw [szL]; decide, fun p2 np2 => ?_⟩
  generalize eh2 : up h1 p2 _ = h2
  obtain ⟨k2, e2, b2⟩ := newf_ np2 eh2
  have kk2 := k1.trans k2
  refine lcosts_ (kk2 _ _ ep) ok ew so few fun q1 qs h3 k3 ll => ⟨_, ll.e, ?_⟩
  have h32 := costTab_len (w := w) (ss := ss)
  have tf := costTab_few (w := w) so
  generalize costTab w ss = tab at ll h32 tf q
  have kk3 := kk2.trans k3
  have lql := ll.len
  rw [List.length_map] at lql
  refine forE_ (fun i ρ h' => ∃ (pl : Addr) (o7 o8 o9 o10 o11 o12 o13 : Option D), ρ = [some F.d, some w.d, some (.ref p), some (.str w.kind), some (.int w.turn), some (.tup (w.lamps.map Lamp.d)), some (.ref pl), o7, o8, o9, o10, o11, o12, o13, none, none] ∧ Keep h h' ∧ LL h' q1 qs (tab.map fun x => x.map oD) ∧ h' pl = some (.lst ((curAt w.turn tab i).map oD)) ∧ i ≤ tab.length) ?_ ?_ _ _
    ⟨p2, none, none, none, none, none, none, none, rfl, kk3, ll, by rw [k3 _ _ e2]; rfl, Nat.zero_le _⟩
  · rintro i qa ρ h4 N ei ⟨pl, o7, o8, o9, o10, o11, o12, o13, rfl, k4, l4, el, li⟩ hN
    have liq := lt_of_get ei
    have lit : i < tab.length := by omega
    have ec : tab[i]? = some tab[i] := List.getElem?_eq_getElem lit
    have c32 := h32 _ (List.getElem_mem lit)
    generalize tab[i] = c at ec c32
    have ecq := l4.it i qa _ ei (by rw [List.getElem?_map, ec]; rfl)
    refine ⟨l4.e, rfl, by walk_at "s", fun pf npf => ?_⟩
    generalize eh5 : up h4 pf _ = h5
    obtain ⟨k5, e5, b5⟩ := newf_ npf eh5
    have fpf := keep_none k4 npf
    have zl : pl ≠ pf := by rintro rfl; rw [el] at npf; cases npf
    have zc : qa ≠ pf := by rintro rfl; rw [ecq] at npf; cases npf
    have cl := curAt_len (t := w.turn) h32 li
    have nx := fun j v => curAt_next (t := w.turn) (j := j) (v := v) ec
    have nl := curAt_len (t := w.turn) h32 (i := i + 1) lit
    refine ⟨_, k5 _ _ ecq, ?_⟩
    refine forE_ (fun j ρ h' => ∃ (o10 o11 o12 o13 : Option D), ρ = [some F.d, some w.d, some (.ref p), some (.str w.kind), some (.int w.turn), some (.tup (w.lamps.map Lamp.d)), some (.ref pl), some (.int (i : Int)), some (.ref qa), some (.ref pf), o10, o11, o12, o13, none, none] ∧ Keep h4 h' ∧ h' pf = some (.lst (((curAt w.turn tab (i + 1)).take j).map oD))) ?_ ?_ _ _
      ⟨o10, o11, o12, o13, rfl, k5, by rw [e5]; rfl⟩
    · rintro j v ρ h6 N6 ej ⟨o10', o11', o12', o13', rfl, k6, e6⟩ hN6
      refine ⟨k6 _ _ ecq, rfl, ?_⟩
      refine ⟨_, k6 _ _ el, fun p7 np7 => ?_⟩
      have z7 : pl ≠ p7 := by rintro rfl; rw [k6 _ _ el] at np7; cases np7
      have z7f : pf ≠ p7 := by rintro rfl; rw [e6] at np7; cases np7
      refine lcp_ (h0 := h6) (pickF fun o => decide (i = 0) || nearB j o w.turn) (fun x m h7 A S b7 ha hs => ?_) (fun h7 b7 e7 => ?_) _ (But.refl p7 h6).up up_same
      · obtain ⟨k, o, rfl⟩ := numO_mem m
        refine ⟨(b7 _ z7).trans (k6 _ _ el), rfl, eq_int ?_⟩
        have ef : pickF (fun o => decide (i = 0) || nearB j o w.turn) (.tup [.int (k : Nat), oD o]) = if (decide (i = 0) || nearB j k w.turn) = true then some (oD o) else none := by
          show (if (decide (i = 0) || nearB j (((k : Int)).toNat : Nat) w.turn) = true then _ else _) = _
          rw [Int.toNat_natCast]
        have ei0 : decide ((i : Int) = 0) = decide (i = 0) := by
          by_cases z : i = 0
          · rw [decide_eq_true z]; exact decide_eq_true (by omega)
          · rw [decide_eq_false z]; exact decide_eq_false (by omega)
        rw [ei0]
        refine if_b (fun z => ?_) fun z => lapart_ ?_
        · exact if_t rfl (ha _ (ef.trans (by rw [z]; rfl)))
        · show if decide (min (((j : Int) - (k : Int)) % 32) (((k : Int) - (j : Int)) % 32) ≤ w.turn) = true then _ else _
          rw [near_min]
          refine if_b (fun z2 => ?_) fun z2 => ?_
          · exact ha _ (ef.trans (by rw [z, z2]; rfl))
          · exact hs (ef.trans (by rw [z, z2]; rfl))
      have k7 := b7.keep np7
      refine ⟨(b7 _ z7).trans (k6 _ _ el), _, e7, fun p8 np8 => ?_⟩
      have z8 : p7 ≠ p8 := by rintro rfl; rw [e7] at np8; cases np8
      refine lcp_ (h0 := h7) intF (fun x m h8 A S b8 ha hs => ?_) (fun h8 b8 e8 => ?_) _ (But.refl p8 h7).up up_same
      · refine ⟨(b8 _ z8).trans e7, ?_⟩
        have : ∃ o, x = oD o := by
          obtain ⟨y, my, ey⟩ := List.mem_filterMap.mp m
          obtain ⟨k, o, rfl⟩ := numO_mem my
          refine ⟨o, ?_⟩
          have ey' : (if (decide (i = 0) || nearB j (((k : Int)).toNat : Nat) w.turn) = true then some (oD o) else none) = some x := ey
          split at ey'
          · exact (Option.some.inj ey').symm
          · cases ey'
        obtain ⟨o, rfl⟩ := this
        cases o with
        | none => exact hs rfl
        | some i => exact ha _ rfl
      rw [numO] at e8
      have k8 := b8.keep np8
      have kk8 := k6.trans (k7.trans k8)
      have em : minL (atP (fun o => decide (i = 0) || nearB j o w.turn) (curAt w.turn tab i)) = leastAt w.turn tab i j := by
        unfold leastAt
        by_cases z : i = 0
        · subst z
          rw [if_pos rfl]
          refine minL_of (atP_mem.mpr ⟨0, rfl, rfl⟩) fun y my => ?_
          obtain ⟨o, _, eo⟩ := atP_mem.mp my
          have : (List.replicate 32 (some (0 : Int)))[o]? = some (some y) := eo
          have := List.mem_of_getElem? this
          have := List.eq_of_mem_replicate this
          simp at this
          omega
        · rw [if_neg z, ← atP_least cl]
          congr 2
          funext o
          rw [decide_eq_false z, Bool.false_or]
      have er := nx j v ej
      have lj := lt_of_get ej
      have et := take_some er
      refine ⟨(b8 _ z8).trans e7, ⟨rfl, _, k8 _ _ (k7 _ _ e6)⟩, by walk_at "s", fun p9 np9 => ?_⟩
      generalize eh9 : up h8 p9 _ = h9
      obtain ⟨k9, e9, b9⟩ := newf_ np9 eh9
      have e10 := k9 _ _ e8
      have ef9 := k9 _ _ (k8 _ _ (k7 _ _ e6))
      have len : (((curAt w.turn tab (i + 1)).take j).map oD).length < sizeLine := by rw [List.length_map, List.length_take, szL]; omega
      have FIN : ∀ d, d = oD (addO v (leastAt w.turn tab i j)) → ∃ ds, h9 pf = some (.lst ds) ∧ ds.length < sizeLine ∧ N6 [some F.d, some w.d, some (.ref p), some (.str w.kind), some (.int w.turn), some (.tup (w.lamps.map Lamp.d)), some (.ref pl), some (.int (i : Int)), some (.ref qa), some (.ref pf), some (.int (j : Int)), some (oD v), some (.ref p7), some (.ref p8), none, none] (up h9 pf (.lst (ds ++ [d]))) := by
        rintro d rfl
        refine ⟨_, ef9, len, ?_⟩
        generalize eh11 : up h9 pf _ = h11
        obtain ⟨e11, b11⟩ := putf_ eh11
        exact hN6 _ _ ⟨_, _, _, _, rfl, keep_but (kk8.trans k9) b11 npf, by rw [e11, et, List.map_append]; rfl⟩
      rw [← em] at FIN
      generalize atP (fun o => decide (i = 0) || nearB j o w.turn) (curAt w.turn tab i) = ms at e10 FIN
      refine ne_ (b := !ms.isEmpty) (toP_lst e10 (mapO_int ms)) (toP_lst (ps := []) e9 rfl) (by rw [Bool.not_not]; exact eqvAll_empty _) ?_
      cases ms with
      | nil => exact FIN .non (by cases v <;> rfl)
      | cons m0 ms =>
        cases v with
        | none => exact FIN .non rfl
        | some a =>
          refine ints_lst e10 ⟨by simp, fun m mm ml => ?_⟩
          rw [minL_of mm ml] at FIN
          exact FIN (.int (m + a)) rfl
    · rintro ρ h6 ⟨o10', o11', o12', o13', rfl, k6, e6⟩
      refine ⟨k6 _ _ ecq, ?_⟩
      rw [List.take_of_length_le (by rw [nl]; omega)] at e6
      exact hN _ _ ⟨pf, _, _, _, _, _, _, _, rfl, k4.trans k6, l4.keep k6, e6, lit⟩
  · rintro ρ h4 ⟨pl, o7, o8, o9, o10, o11, o12, o13, rfl, k4, l4, el, li⟩
    rw [lql] at el
    refine ⟨l4.e, _, el, fun p5 np5 => ?_⟩
    have z5 : pl ≠ p5 := by rintro rfl; rw [el] at np5; cases np5
    refine lcp_ (h0 := h4) (fun x => match x with | .int i => some (.int i) | _ => none) (fun x mx h5 A S b5 ha hs => ?_) (fun h5 b5 e5 => ?_) _ (But.refl p5 h4).up up_same
    · obtain ⟨o, mo, rfl⟩ := List.mem_map.mp mx
      refine ⟨(b5 _ z5).trans el, ?_⟩
      cases o with
      | none => exact hs rfl
      | some i => exact ha _ rfl
    replace e5 : h5 p5 = some (.lst (((curAt w.turn tab tab.length).filterMap id).map D.int)) := by rw [← nn_fm]; exact e5
    have k5 := b5.keep np5
    have en := curAt_last (t := w.turn) (tab := tab)
    refine ⟨(b5 _ z5).trans el, by walk_at "s", fun p6 np6 => ?_⟩
    generalize eh6 : up h5 p6 _ = h6
    obtain ⟨k6, e6, b6⟩ := newf_ np6 eh6
    have e7 := k6 _ _ e5
    have kk6 := k4.trans (k5.trans k6)
    rw [← en] at q
    generalize (curAt w.turn tab tab.length).filterMap id = ms at e7 q
    refine ne_ (b := !ms.isEmpty) (toP_lst e7 (mapO_int ms)) (toP_lst (ps := []) e6 rfl) (by rw [Bool.not_not]; exact eqvAll_empty _) ?_
    cases ms with
    | nil => exact q h6 kk6
    | cons v vs =>
      refine ints_lst e7 ⟨by simp, fun m mm ml => ?_⟩
      rw [minL_of mm ml] at q
      exact q h6 kk6
end Dl
end
section
local macro_rules | `(tactic| walk_at "s") => `(tactic| first | (decide) | (omega) | (dsimp only; omega) | exact Dl.sz_ (Nat.le_of_ble_eq_true rfl) | (refine Dl.sz_ ?_; simp only [List.length_map, List.length_append, List.length_cons, List.length_nil]; omega))
local macro_rules | `(tactic| walk_at "cmul") => `(tactic| first | exact Or.inr ⟨by decide, by decide⟩ | exact Or.inl ⟨by decide, by decide⟩ | exact Or.inr ⟨by omega, by omega⟩ | exact Or.inl ⟨by omega, by omega⟩)
namespace Dl
open PySem PySem.Spec PyProof.Rows L2
theorem lleast_ {ca : CA} {p : Addr} {F : Fleet} {w : Row} {ss : List Sight} {h : Hd} {Q : DK} {E : DXK} (ep : h p = some (.lst (ss.map Sight.d))) (ok : F.ok) (m : w ∈ F.rows) (e : F.row w.kind = some w) (so : ∀ s ∈ ss, s.ok F) (few : ss.length ≤ 200)
    (q : ∀ h', Keep h h' → Q (oD (numOf w.turn (costTab w ss))) h') : sp_Lleast ca [F.d, w.d, .ref p] h Q E := by unfold sp_Lleast; exact ⟨p, F, w, ss, rfl, ep, ok, m, e, so, few, q⟩
theorem pure_Ldue (ca : CA) : ∀ ds h Q E, sp_Ldue ca ds h Q E → t_Ldue ca E { nx := fun _ h' => Q .non h', rt := Q } (dstart ["_law_fleet_here", "_law_sights_here", "_law_found", "_law_place", "_law_row", "_law_many", "_law_kind"] ds) h := by
  intro vs h Q E hh
  unfold sp_Ldue at hh
  obtain ⟨p, F, ss, rfl, ep, ok, so, few, q⟩ := hh
  refine ⟨by walk_at "s", fun pf npf => ?_⟩
  generalize eh1 : up h pf _ = h1
  obtain ⟨k1, e1, b1⟩ := newf_ npf eh1
  have rl := ok.r1
  have zp : p ≠ pf := by rintro rfl; rw [ep] at npf; cases npf
  refine ix_tup (d := .tup (F.rows.map Row.d)) (at_nn (by decide) rfl) ?_
  refine forE_ (fun j ρ h' => ∃ (o1 o2 o3 : Option D), ρ = [some F.d, some (.ref p), some (.ref pf), o1, o2, o3, none] ∧ Keep h h' ∧
    h' pf = some (.lst (((F.rows.zipIdx.take j).filterMap (fun p => (numOf p.1.turn (costTab p.1 ss)).map fun v => ((v, p.2, p.1.kind) : Due))).map Due.d))) ?_ ?_ _ _ ⟨none, none, none, rfl, k1, e1⟩
  · rintro j w ρ h3 N er ⟨o1, o2, o3, rfl, k3, e4⟩ hN
    have et := dues_take ss F.rows j _ er
    have ew := row_nth ok er
    refine ⟨trivial, rfl, lleast_ (k3 _ _ ep) ok (List.mem_of_getElem? er) ew so few fun h4 k4 => ?_⟩
    have e5 := k4 _ _ e4
    show if (!isNonD (oD (numOf w.turn (costTab w ss)))) = true then _ else _
    cases ev : numOf w.turn (costTab w ss) with
    | none =>
      rw [ev, List.append_nil] at et
      exact hN _ _ ⟨_, _, _, rfl, k3.trans k4, by rw [et]; exact e5⟩
    | some v =>
      rw [ev] at et
      refine ⟨⟨rfl, _, e5⟩, ?_⟩
      refine ix_tup (d := .str w.kind) (at_nn (by decide) rfl) ?_
      refine ⟨by walk_at "s", _, e5, ?_, ?_⟩
      · have := List.length_filterMap_le (fun p : Row × Nat => (numOf p.1.turn (costTab p.1 ss)).map fun v => ((v, p.2, p.1.kind) : Due)) (F.rows.zipIdx.take j)
        have lj := lt_of_get er
        rw [List.length_take] at this
        rw [List.length_map, szL]; omega
      generalize eh6 : up h4 pf _ = h6
      obtain ⟨e6, b6⟩ := putf_ eh6
      exact hN _ _ ⟨_, _, _, rfl, keep_but (k3.trans k4) b6 npf, by rw [e6, et, List.map_append]; rfl⟩
  · rintro ρ h3 ⟨o1, o2, o3, rfl, k3, e4⟩
    rw [List.take_of_length_le (by rw [List.length_zipIdx]; exact Nat.le_refl _)] at e4
    refine ⟨trivial, sortPD_ (l := duesOf ss F.rows) e4 fun p4 n4 => ?_⟩
    generalize eh5 : up h3 p4 _ = h5
    obtain ⟨k5, e5, b5⟩ := newf_ n4 eh5
    refine ⟨_, e5, fun p6 np6 => ?_⟩
    have z6 : p4 ≠ p6 := by rintro rfl; rw [e5] at np6; cases np6
    generalize sorted_ (duesOf ss F.rows) = so at e5 q
    refine lcp_ (h0 := h5) (fun x => match x with | .tup [m, p, k] => some (.tup [m, k]) | _ => none) (fun x mx h6 A S b6 ha hs => ?_) (fun h6 b6 e6 => ?_) _ (But.refl p6 h5).up up_same
    · obtain ⟨y, my, rfl⟩ := List.mem_map.mp mx
      exact ⟨(b6 _ z6).trans e5, rfl, by walk_at "s", ha _ rfl⟩
    · have eo : (so.map Due.d).filterMap (fun x => match x with | .tup [m, p, k] => some (D.tup [m, k]) | _ => none) = so.map Due.out := by
        rw [List.filterMap_map]
        exact fm_some so
      rw [eo] at e6
      have kk := k3.trans (k5.trans (b6.keep np6))
      exact ⟨(b6 _ z6).trans e5, q p6 h6 (keep_none (k3.trans k5) np6) kk e6⟩
theorem likely_ {ca : CA} {a f r k : Addr} {F : Fleet} {ss : List Sight} {h : Hd} {Q : DK} {E : DXK} (wa : WaI ca h a f r k F ss) (ok : F.ok) (q : ∀ p h', h p = none → Keep h h' → h' p = some (.lst ((sorted_ (duesOf ss F.rows)).map Due.out)) → Q (.ref p) h') : sp_likely ca [.ref a] h Q E := by unfold sp_likely; exact ⟨a, f, r, k, F, ss, rfl, wa, ok, q⟩
theorem ldue_ {ca : CA} {p : Addr} {F : Fleet} {ss : List Sight} {h : Hd} {Q : DK} {E : DXK} (ep : h p = some (.lst (ss.map Sight.d))) (ok : F.ok) (so : ∀ s ∈ ss, s.ok F) (few : ss.length ≤ 200) (q : ∀ q h', h q = none → Keep h h' → h' q = some (.lst ((sorted_ (duesOf ss F.rows)).map Due.out)) → Q (.ref q) h') : sp_Ldue ca [F.d, .ref p] h Q E := by unfold sp_Ldue; exact ⟨p, F, ss, rfl, ep, ok, so, few, q⟩
def Due.opd (x : Due) : PyData := .tuple [.int x.1, .str x.2.2]
theorem Due.oToP (h : Hd) (n : Nat) (x : Due) : Dl.toP h (n + 1) x.out = some x.opd := toP_tup (by simp only [mapO, toP_int, toP_str])
theorem dues_eqv : ∀ l : List Due, PyData.eqvAll (l.map Due.opd) (l.map Due.opd) = true
  | [] => rfl
  | x :: l => by simp [List.map_cons, PyData.eqvAll, dues_eqv l, Due.opd, PyData.eqv]
theorem isi_lst {h : Hd} {a : Addr} {ds : List D} {Q : DK} (e : h a = some (.lst ds)) (k : Q (.bl true) h) : isiD [.ref a, .ty "list"] h Q := isi_of ⟨"list", by simp [tyO, e]⟩ (fun T z => by
  rw [show tyO h (.ref a) = some "list" by simp [tyO, e]] at z
  obtain rfl := Option.some.inj z
  exact (show isiB _ _ = some true from by decide +kernel)) k
theorem pure_Lright (ca : CA) : ∀ ds h Q E, sp_Lright ca ds h Q E → t_Lright ca E { nx := fun _ h' => Q .non h', rt := Q } (dstart ["_law_watch_here", "_law_fleet_here", "_law_sights_here", "_law_due_here", "_law_again", "_law_found", "_law_one"] ds) h := by
  intro vs h Q E hh
  unfold sp_Lright at hh
  obtain ⟨w, f, r, k, p, F, ss, rfl, wa, ep, ok, q⟩ := hh
  refine ldue_ ep ok wa.ok wa.few fun p1 h1 n1 k1 e1 => ?_
  refine ⟨⟨by decide, by decide⟩, ?_⟩
  refine forR0_ (n := 2) (fun i ρ h' => ∃ (o1 o2 : Option D), ρ = [some (.ref w), some F.d, some (.ref p), some (.ref p1), o1, o2, none] ∧ Keep h1 h') ?_ ?_ _ _ ⟨none, none, rfl, Keep.refl h1⟩
  · rintro i ρ h2 N li ⟨o1, o2, rfl, k2⟩ hN
    refine ⟨trivial, likely_ (wa.keep (k1.trans k2)) ok fun p3 h3 n3 k3 e3 => ?_⟩
    have e1' := k3 _ _ (k2 _ _ e1)
    have lso : (sorted_ (duesOf ss F.rows)).length ≤ 6 := by
      unfold sorted_ duesOf
      rw [List.length_mergeSort]
      refine Nat.le_trans (List.length_filterMap_le _ _) ?_
      rw [List.length_zipIdx]; exact ok.r1
    generalize sorted_ (duesOf ss F.rows) = so at e1' e3 lso
    refine isi_lst e3 ?_
    refine (ne_ (b := false) (toP_lst e3 (mapO_map fun x _ => Due.oToP h3 _ x)) (toP_lst e1' (mapO_map fun x _ => Due.oToP h3 _ x)) (dues_eqv so) ?_)
    refine ⟨_, e3, fun p4 np4 => ?_⟩
    have z4 : p3 ≠ p4 := by rintro rfl; rw [e3] at np4; cases np4
    refine lcp_ (h0 := h3) (fun x => some (.bl true)) (fun x mx h4 A S b4 ha hs => ?_) (fun h4 b4 e4 => ?_) _ (But.refl p4 h3).up up_same
    · obtain ⟨y, my, rfl⟩ := List.mem_map.mp mx
      refine ⟨(b4 _ z4).trans e3, isi_tup ⟨_, rfl⟩ (ix_tup (d := .int y.1) (at_nn (by decide) rfl) (lwhole_ ⟨_, rfl⟩ (ha _ rfl)))⟩
    · refine ⟨(b4 _ z4).trans e3, all_lst (ns := so.map fun _ => true) (by rw [e4, List.filterMap_map, List.map_map]; exact congrArg (fun l => some (MO.lst l)) (fm_some so)) ?_⟩
      have ea : (so.map fun _ => true).all id = true := by rw [List.all_map]; exact List.all_eq_true.mpr fun _ _ => rfl
      rw [ea]
      have e5 := (b4 _ z4).trans e3
      refine ⟨⟨rfl, _, e5⟩, _, e5, ?_, ?_⟩
      · rw [List.length_map, szL]
        omega
      generalize eh6 : up h4 p3 _ = h6
      obtain ⟨e6, b6⟩ := putf_ eh6
      exact hN _ _ ⟨_, _, rfl, keep_but (k2.trans (k3.trans (b4.keep np4))) b6 (keep_none k2 n3)⟩
  · rintro ρ h2 ⟨o1, o2, rfl, k2⟩
    exact ⟨trivial, q h2 (k1.trans k2)⟩
theorem lright_ {ca : CA} {w f r k p : Addr} {F : Fleet} {ss : List Sight} {h : Hd} {Q : DK} {E : DXK} (wa : WaI ca h w f r k F ss) (ep : h p = some (.lst (ss.map Sight.d))) (ok : F.ok) (q : ∀ h', Keep h h' → Q (.bl true) h') : sp_Lright ca [.ref w, F.d, .ref p] h Q E := by unfold sp_Lright; exact ⟨w, f, r, k, p, F, ss, rfl, wa, ep, ok, q⟩
theorem lwatch_ {ca : CA} {p : Addr} {F : Fleet} {ss : List Sight} {h : Hd} {Q : DK} {E : DXK} (ep : h p = some (.lst (ss.map Sight.d))) (ok : F.ok) (so : ∀ s ∈ ss, s.ok F) (few : ss.length ≤ 200)
    (q : ∀ w f r k h', h w = none → h f = none → h r = none → h k = none → Keep h h' → WaI ca h' w f r k F ss → Q (.ref w) h') : sp_Lwatch ca [F.d, .ref p] h Q E := by unfold sp_Lwatch; exact ⟨p, F, ss, rfl, ep, ok, so, few, q⟩
@[irreducible] def sp_law (_ : CA) : DSp := fun vs h Q _ => ∃ ns : List Int, vs = [.sc (ns.map D.int)] ∧ ns.length ≤ 63 ∧ ∀ h', Q (.bl true) h'
theorem pure_law (ca : CA) : ∀ ds h Q E, sp_law ca ds h Q E → t_law ca E { nx := fun _ h' => Q .non h', rt := Q } (dstart ["_law_script", "_law_m", "_law_fleet_here", "_law_sights_here", "_law_watch_here", "_law_k", "_law_sight"] ds) h := by
  intro vs h Q E hh
  unfold sp_law at hh
  obtain ⟨scr, rfl, l63, q⟩ := hh
  refine begun_ l63 fun a c d x y ns ks h1 na k1 dm => ?_
  refine fleet_ (n := 4000) (dm.less (by decide)) fun h2 F dm2 k2 ok => ?_
  refine lsights_ (n := 0) dm2 ok ⟨by decide, by decide⟩ fun p h3 ss n3 dm3 k3 ep ls so => ?_
  refine ⟨by walk_at "s", fun p4 n4 => ?_⟩
  generalize eh4 : up h3 p4 _ = h4
  obtain ⟨k4, e4, b4⟩ := newf_ n4 eh4
  refine lwatch_ (ss := []) e4 ok (by simp) (by simp) fun w f r k h5 nw nf nr nk k5 wa => ?_
  have ep5 := k5 _ _ (k4 _ _ ep)
  have pk : p ≠ k := by rintro rfl; rw [k4 _ _ ep] at nk; cases nk
  refine ⟨by walk_at "s", fun p6 n6 => ?_⟩
  generalize eh6 : up h5 p6 _ = h6
  obtain ⟨k6, e6, b6⟩ := newf_ n6 eh6
  refine lright_ (ss := []) (wa.keep k6) e6 ok fun h7 k7 => ⟨_, k7 _ _ (k6 _ _ ep5), ?_⟩
  refine forE_ (fun i ρ h' => ∃ (o1 o2 : Option D), ρ = [some (.sc (scr.map D.int)), some (.ref a), some F.d, some (.ref p), some (.ref w), o1, o2] ∧ h' p = some (.lst (ss.map Sight.d)) ∧ WaI ca h' w f r k F (ss.take i)) ?_ ?_ _ _ ⟨none, none, rfl, k7 _ _ (k6 _ _ ep5), (wa.keep k6).keep k7⟩
  · rintro i g ρ h8 N eg ⟨o1, o2, rfl, e8, w8⟩ hN
    have go := so g (List.mem_of_getElem? eg)
    have li := lt_of_get eg
    have et := take_some eg
    refine ⟨e8, rfl, _, w8.e, lw_non _ (by decide +kernel) (by decide +kernel), put_sight_ w8 go (by rw [List.length_take]; omega) fun h9 w9 kb => ?_⟩
    rw [← et] at w9
    have e9 := kb p _ pk e8
    have FIN : ∀ h', Keep h9 h' → N [some (.sc (scr.map D.int)), some (.ref a), some F.d, some (.ref p), some (.ref w), some (.int (i : Int)), some g.d] h' := fun h' k' => hN _ _ ⟨_, _, rfl, k' _ _ e9, w9.keep k'⟩
    have RT : sp_Lright ca [.ref w, F.d, .ref p] h9 (fun d h' => blQ d fun b => if (!b) = true then Q (.bl false) h' else N [some (.sc (scr.map D.int)), some (.ref a), some F.d, some (.ref p), some (.ref w), some (.int (i : Int)), some g.d] h') E → True := fun _ => trivial
    have RIGHT : ∀ p' h', Keep h9 h' → h' p' = some (.lst ((ss.take (i + 1)).map Sight.d)) → ∀ Qd : DK, (∀ h2, Keep h9 h2 → Qd (.bl true) h2) → sp_Lright ca [.ref w, F.d, .ref p'] h' Qd E := fun p' h' k' e' Qd qd => lright_ (w9.keep k') e' ok fun h2 k2 => qd h2 (k'.trans k2)
    have CUT : ∀ Qd : DK, (∀ p' h', Keep h9 h' → h' p' = some (.lst ((ss.take (i + 1)).map Sight.d)) → Qd (.ref p') h') → slD (.ref p) none (some ((i : Int) + 1)) h9 Qd := fun Qd qd => sl_lst e9 fun p' np' => by
      generalize eh' : up h9 p' _ = h'
      obtain ⟨k', e', b'⟩ := newf_ np' eh'
      refine qd p' h' k' ?_
      rw [e', show ((i : Int) + 1) = ((i + 1 : Nat) : Int) by push_cast; rfl, cutD_to, List.map_take]
    refine len_lst e9 (eq_int (if_b (fun z => ?_) fun z => ⟨by walk_at "s", eq_int (if_b (fun z2 => ?_) fun z2 => ?_)⟩))
    · exact CUT _ fun p' h' k' e' => RIGHT p' h' k' e' _ fun h2 k2 => FIN h2 k2
    · exact CUT _ fun p' h' k' e' => RIGHT p' h' k' e' _ fun h2 k2 => FIN h2 k2
    · exact FIN h9 (Keep.refl h9)
  · rintro ρ h8 ⟨o1, o2, rfl, e8, w8⟩
    rw [List.take_length] at w8
    refine ⟨e8, _, w8.e, lw_non _ (by decide +kernel) (by decide +kernel), sights_ w8 fun p9 h9 n9 k9 e9 => ?_⟩
    have w9 := w8.keep k9
    refine eq_ (b := true) (toP_lst e9 (mapO_map fun s _ => Sight.toP h9 _ s)) (toP_lst (k9 _ _ e8) (mapO_map fun s _ => Sight.toP h9 _ s)) (by show PyData.eqvAll _ _ = true; rw [eqvAll_map Sight.eqv]; exact decide_eq_true rfl) ?_
    refine ⟨_, w9.e, lw_non _ (by decide +kernel) (by decide +kernel), wfleet_ w9 ⟨_, w9.fl.e, lk_non _ (by decide +kernel) (by decide +kernel), plain_ w9.fl ?_⟩⟩
    exact eq_ (b := true) (Fleet.toP h9 _ F) (Fleet.toP h9 _ F) (by rw [Fleet.eqv]; exact decide_eq_true rfl) (q h9)
end Dl
end
section
namespace Dl
open PySem PySem.Spec PyProof.Rows L2
def top (i : Nat) : Stmt := PySem.Challenge.pw_lanternwatch_k33_likely_kinds.main.body.getD i (.Pass ⟨0, 0, 0, 0⟩)
def inner (i j : Nat) : Stmt := match top i with
  | .ClassDef _ _ _ body _ _ _ _ _ _ _ => body.getD j (.Pass ⟨0, 0, 0, 0⟩)
  | _ => .Pass ⟨0, 0, 0, 0⟩
def d_is_among : He.DefD := ⟨("is_among", none), "is_among", "is_among", defArgs (top 9), defBody (top 9), defScope (top 9), [], []⟩
def d_is_point : He.DefD := ⟨("is_point", none), "is_point", "is_point", defArgs (top 10), defBody (top 10), defScope (top 10), [], []⟩
def d_need_point : He.DefD := ⟨("need_point", none), "need_point", "need_point", defArgs (top 11), defBody (top 11), defScope (top 11), [], []⟩
def d_shows : He.DefD := ⟨("shows", none), "shows", "shows", defArgs (top 12), defBody (top 12), defScope (top 12), [], []⟩
def d_column : He.DefD := ⟨("column", none), "column", "column", defArgs (top 13), defBody (top 13), defScope (top 13), [], []⟩
def d_seen : He.DefD := ⟨("seen", none), "seen", "seen", defArgs (top 14), defBody (top 14), defScope (top 14), [], []⟩
def d_is_moment : He.DefD := ⟨("is_moment", none), "is_moment", "is_moment", defArgs (top 19), defBody (top 19), defScope (top 19), [], []⟩
def d_is_column : He.DefD := ⟨("is_column", none), "is_column", "is_column", defArgs (top 20), defBody (top 20), defScope (top 20), [], []⟩
def d_is_sight : He.DefD := ⟨("is_sight", none), "is_sight", "is_sight", defArgs (top 21), defBody (top 21), defScope (top 21), [], []⟩
def d_need_sight : He.DefD := ⟨("need_sight", none), "need_sight", "need_sight", defArgs (top 22), defBody (top 22), defScope (top 22), [], []⟩
def d_left_out : He.DefD := ⟨("left_out", none), "left_out", "left_out", defArgs (top 26), defBody (top 26), defScope (top 26), [], []⟩
def d_hides : He.DefD := ⟨("hides", none), "hides", "hides", defArgs (top 27), defBody (top 27), defScope (top 27), [], []⟩
def d_by_moments : He.DefD := ⟨("by_moments", none), "by_moments", "by_moments", defArgs (top 28), defBody (top 28), defScope (top 28), [], []⟩
def d_cost_of : He.DefD := ⟨("cost_of", none), "cost_of", "cost_of", defArgs (top 29), defBody (top 29), defScope (top 29), [], []⟩
def d_costs_of : He.DefD := ⟨("costs_of", none), "costs_of", "costs_of", defArgs (top 30), defBody (top 30), defScope (top 30), [], []⟩
def d_near_ones : He.DefD := ⟨("near_ones", none), "near_ones", "near_ones", defArgs (top 31), defBody (top 31), defScope (top 31), [], []⟩
def d_least_near : He.DefD := ⟨("least_near", none), "least_near", "least_near", defArgs (top 32), defBody (top 32), defScope (top 32), [], []⟩
def d_row_behind : He.DefD := ⟨("row_behind", none), "row_behind", "row_behind", defArgs (top 33), defBody (top 33), defScope (top 33), [], []⟩
def d_rows_of : He.DefD := ⟨("rows_of", none), "rows_of", "rows_of", defArgs (top 34), defBody (top 34), defScope (top 34), [], []⟩
def d_traced : He.DefD := ⟨("traced", none), "traced", "traced", defArgs (top 35), defBody (top 35), defScope (top 35), [], []⟩
def d_history : He.DefD := ⟨("history", none), "history", "history", defArgs (top 36), defBody (top 36), defScope (top 36), [], []⟩
def d_likely : He.DefD := ⟨("likely", none), "likely", "likely", defArgs (top 37), defBody (top 37), defScope (top 37), [], []⟩
def d_Lmixed : He.DefD := ⟨("_law_mixed", none), "_law_mixed", "_law_mixed", defArgs (top 41), defBody (top 41), defScope (top 41), [], []⟩
def d_Lfolded : He.DefD := ⟨("_law_folded", none), "_law_folded", "_law_folded", defArgs (top 42), defBody (top 42), defScope (top 42), [], []⟩
def d_Ldraw : He.DefD := ⟨("_law_draw", none), "_law_draw", "_law_draw", defArgs (top 43), defBody (top 43), defScope (top 43), [], []⟩
def d_Lnames : He.DefD := ⟨("_law_names", none), "_law_names", "_law_names", defArgs (top 44), defBody (top 44), defScope (top 44), [], []⟩
def d_Llamp : He.DefD := ⟨("_law_lamp", none), "_law_lamp", "_law_lamp", defArgs (top 45), defBody (top 45), defScope (top 45), [], []⟩
def d_Llamps : He.DefD := ⟨("_law_lamps", none), "_law_lamps", "_law_lamps", defArgs (top 46), defBody (top 46), defScope (top 46), [], []⟩
def d_Lfleet : He.DefD := ⟨("_law_fleet", none), "_law_fleet", "_law_fleet", defArgs (top 47), defBody (top 47), defScope (top 47), [], []⟩
def d_Lcolumn : He.DefD := ⟨("_law_column", none), "_law_column", "_law_column", defArgs (top 48), defBody (top 48), defScope (top 48), [], []⟩
def d_Lsights : He.DefD := ⟨("_law_sights", none), "_law_sights", "_law_sights", defArgs (top 49), defBody (top 49), defScope (top 49), [], []⟩
def d_Lbegun : He.DefD := ⟨("_law_begun", none), "_law_begun", "_law_begun", defArgs (top 50), defBody (top 50), defScope (top 50), [], []⟩
def d_Lwhole : He.DefD := ⟨("_law_whole", none), "_law_whole", "_law_whole", defArgs (top 51), defBody (top 51), defScope (top 51), [], []⟩
def d_Lhidden : He.DefD := ⟨("_law_hidden", none), "_law_hidden", "_law_hidden", defArgs (top 52), defBody (top 52), defScope (top 52), [], []⟩
def d_Lwatch : He.DefD := ⟨("_law_watch", none), "_law_watch", "_law_watch", defArgs (top 53), defBody (top 53), defScope (top 53), [], []⟩
def d_Lcosts : He.DefD := ⟨("_law_costs", none), "_law_costs", "_law_costs", defArgs (top 54), defBody (top 54), defScope (top 54), [], []⟩
def d_Lapart : He.DefD := ⟨("_law_apart", none), "_law_apart", "_law_apart", defArgs (top 55), defBody (top 55), defScope (top 55), [], []⟩
def d_Lleast : He.DefD := ⟨("_law_least", none), "_law_least", "_law_least", defArgs (top 56), defBody (top 56), defScope (top 56), [], []⟩
def d_Ldue : He.DefD := ⟨("_law_due", none), "_law_due", "_law_due", defArgs (top 57), defBody (top 57), defScope (top 57), [], []⟩
def d_Lright : He.DefD := ⟨("_law_right", none), "_law_right", "_law_right", defArgs (top 58), defBody (top 58), defScope (top 58), [], []⟩
def d_law : He.DefD := ⟨("law", none), "law", "law", defArgs (top 59), defBody (top 59), defScope (top 59), [], []⟩
def d_Watch_init : He.DefD := ⟨("Watch", some "__init__"), "__init__", "Watch.__init__", defArgs (inner 23 0), defBody (inner 23 0), defScope (inner 23 0), [], []⟩
def d_Watch_fleet : He.DefD := ⟨("Watch", some "fleet"), "fleet", "Watch.fleet", defArgs (inner 23 1), defBody (inner 23 1), defScope (inner 23 1), [], []⟩
def d_Watch_put : He.DefD := ⟨("Watch", some "put"), "put", "Watch.put", defArgs (inner 23 2), defBody (inner 23 2), defScope (inner 23 2), [], []⟩
def d_Watch_sights : He.DefD := ⟨("Watch", some "sights"), "sights", "Watch.sights", defArgs (inner 23 3), defBody (inner 23 3), defScope (inner 23 3), [], []⟩
def d_Watch_last_moment : He.DefD := ⟨("Watch", some "last_moment"), "last_moment", "Watch.last_moment", defArgs (inner 23 4), defBody (inner 23 4), defScope (inner 23 4), [], []⟩
def d_Watch_agreeing : He.DefD := ⟨("Watch", some "agreeing"), "agreeing", "Watch.agreeing", defArgs (inner 23 5), defBody (inner 23 5), defScope (inner 23 5), [], []⟩
def d_Watch_steady : He.DefD := ⟨("Watch", some "steady"), "steady", "Watch.steady", defArgs (inner 23 6), defBody (inner 23 6), defScope (inner 23 6), [], []⟩
def d_Fleet_init : He.DefD := ⟨("Fleet", some "__init__"), "__init__", "Fleet.__init__", defArgs (inner 39 0), defBody (inner 39 0), defScope (inner 39 0), [], []⟩
def d_Fleet_plain : He.DefD := ⟨("Fleet", some "plain"), "plain", "Fleet.plain", defArgs (inner 39 1), defBody (inner 39 1), defScope (inner 39 1), [], []⟩
def d_Fleet_kinds : He.DefD := ⟨("Fleet", some "kinds"), "kinds", "Fleet.kinds", defArgs (inner 39 2), defBody (inner 39 2), defScope (inner 39 2), [], []⟩
def d_Fleet_row_of : He.DefD := ⟨("Fleet", some "row_of"), "row_of", "Fleet.row_of", defArgs (inner 39 3), defBody (inner 39 3), defScope (inner 39 3), [], []⟩
def d_Fleet_turn : He.DefD := ⟨("Fleet", some "turn"), "turn", "Fleet.turn", defArgs (inner 39 4), defBody (inner 39 4), defScope (inner 39 4), [], []⟩
def d_Fleet_lamps : He.DefD := ⟨("Fleet", some "lamps"), "lamps", "Fleet.lamps", defArgs (inner 39 5), defBody (inner 39 5), defScope (inner 39 5), [], []⟩
def fn : List He.DefD := [d_is_among, d_is_point, d_need_point, d_shows, d_column, d_seen, d_is_moment, d_is_column, d_is_sight, d_need_sight, d_left_out, d_hides, d_by_moments, d_cost_of, d_costs_of, d_near_ones, d_least_near, d_row_behind, d_rows_of, d_traced, d_history, d_likely, d_Lmixed, d_Lfolded, d_Ldraw, d_Lnames, d_Llamp, d_Llamps, d_Lfleet, d_Lcolumn, d_Lsights, d_Lbegun, d_Lwhole, d_Lhidden, d_Lwatch, d_Lcosts, d_Lapart, d_Lleast, d_Ldue, d_Lright, d_law, d_Watch_init, d_Watch_fleet, d_Watch_put, d_Watch_sights, d_Watch_last_moment, d_Watch_agreeing, d_Watch_steady, d_Fleet_init, d_Fleet_plain, d_Fleet_kinds, d_Fleet_row_of, d_Fleet_turn, d_Fleet_lamps]
def fa : List He.Fa := [.glo "is_among",
  .glo "is_point",
  .glo "need_point",
  .glo "shows",
  .glo "column",
  .glo "seen",
  .glo "is_moment",
  .glo "is_column",
  .glo "is_sight",
  .glo "need_sight",
  .glo "left_out",
  .glo "hides",
  .glo "by_moments",
  .glo "cost_of",
  .glo "costs_of",
  .glo "near_ones",
  .glo "least_near",
  .glo "row_behind",
  .glo "rows_of",
  .glo "traced",
  .glo "history",
  .glo "likely",
  .glo "_law_mixed",
  .glo "_law_folded",
  .glo "_law_draw",
  .glo "_law_names",
  .glo "_law_lamp",
  .glo "_law_lamps",
  .glo "_law_fleet",
  .glo "_law_column",
  .glo "_law_sights",
  .glo "_law_begun",
  .glo "_law_whole",
  .glo "_law_hidden",
  .glo "_law_watch",
  .glo "_law_costs",
  .glo "_law_apart",
  .glo "_law_least",
  .glo "_law_due",
  .glo "_law_right",
  .glo "law",
  .glo "LightError",
  .exc "LightError",
  .glo "NoKind",
  .exc "NoKind",
  .glo "BadPoint",
  .exc "BadPoint",
  .glo "BadSight",
  .exc "BadSight",
  .glo "Full",
  .exc "Full",
  .glo "Watch",
  .cls "Watch",
  .meth "Watch" "fleet",
  .meth "Watch" "put",
  .meth "Watch" "sights",
  .meth "Watch" "last_moment",
  .meth "Watch" "agreeing",
  .meth "Watch" "steady",
  .mkr "Watch",
  .glo "Fleet",
  .cls "Fleet",
  .meth "Fleet" "plain",
  .meth "Fleet" "kinds",
  .meth "Fleet" "row_of",
  .meth "Fleet" "turn",
  .meth "Fleet" "lamps",
  .mkr "Fleet",
  .int "POINTS_columns" 32,
  .int "LAST_MOMENT" 99,
  .int "MOST_COLOURS" 6,
  .int "MOST_SIGHTS" 200,
  .int "POINTS_histories" 32,
  .free "len",
  .free "range",
  .free "isinstance",
  .free "list",
  .free "tuple",
  .free "dict",
  .free "enumerate",
  .free "repr",
  .free "int",
  .free "str",
  .free "sorted",
  .free "set",
  .free "min",
  .free "max",
  .free "all",
  .free "sum",
  .free "zip",
  .free "bool",
  .noat "Fleet" "rows",
  .noat "Fleet" "told",
  .noat "Watch" "kept",
  .noat "Watch" "ships"]
def loose0 : List PySem.Str := ["_wall", "LightError", "NoKind", "BadPoint", "BadSight", "Full", "POINTS_columns", "is_among", "is_point", "need_point", "shows", "column", "seen", "LAST_MOMENT", "MOST_COLOURS", "MOST_SIGHTS", "is_moment", "is_column", "is_sight", "need_sight", "Watch", "POINTS_histories", "left_out", "hides", "by_moments", "cost_of", "costs_of", "near_ones", "least_near", "row_behind"]
def loose1 : List PySem.Str := ["rows_of", "traced", "history", "likely", "Fleet", "_law_mixed", "_law_folded", "_law_draw", "_law_names", "_law_lamp", "_law_lamps", "_law_fleet", "_law_column", "_law_sights", "_law_begun", "_law_whole", "_law_hidden", "_law_watch", "_law_costs", "_law_apart", "_law_least", "_law_due", "_law_right"]
def loose : List PySem.Str := loose0 ++ loose1
abbrev R : PySem.W.OpenRow := PySem.W.OpenLaw.row PySem.Challenge.rw_lanternwatch_k33_likely_kinds
abbrev hk : PySem.W.Hook := He.hookD 4 fa fn
def ob (s : PySem.W.SharedT) : He.AlD := He.obsDG 4 fa fn (HandSHeadRun.getT s)
theorem ob_eq (s : PySem.W.SharedT) : ob s = hk.obs s.abs := He.obsDG_eq (HandSHeadRun.getT_eq s)
theorem run (w : World) : HandSHeadRun.RunEq R (PySem.W.view R.prog [59]) hk ob 6000 loose w := by
  intro os
  kernel_rfl
end Dl
end
section
namespace Dl
open PySem PySem.Spec PyProof.Rows L2
theorem gl_is_among : fa[0]? = some (.glo "is_among") := rfl
theorem gl_is_point : fa[1]? = some (.glo "is_point") := rfl
theorem gl_need_point : fa[2]? = some (.glo "need_point") := rfl
theorem gl_shows : fa[3]? = some (.glo "shows") := rfl
theorem gl_column : fa[4]? = some (.glo "column") := rfl
theorem gl_seen : fa[5]? = some (.glo "seen") := rfl
theorem gl_is_moment : fa[6]? = some (.glo "is_moment") := rfl
theorem gl_is_column : fa[7]? = some (.glo "is_column") := rfl
theorem gl_is_sight : fa[8]? = some (.glo "is_sight") := rfl
theorem gl_need_sight : fa[9]? = some (.glo "need_sight") := rfl
theorem gl_left_out : fa[10]? = some (.glo "left_out") := rfl
theorem gl_hides : fa[11]? = some (.glo "hides") := rfl
theorem gl_by_moments : fa[12]? = some (.glo "by_moments") := rfl
theorem gl_cost_of : fa[13]? = some (.glo "cost_of") := rfl
theorem gl_costs_of : fa[14]? = some (.glo "costs_of") := rfl
theorem gl_near_ones : fa[15]? = some (.glo "near_ones") := rfl
theorem gl_least_near : fa[16]? = some (.glo "least_near") := rfl
theorem gl_row_behind : fa[17]? = some (.glo "row_behind") := rfl
theorem gl_rows_of : fa[18]? = some (.glo "rows_of") := rfl
theorem gl_traced : fa[19]? = some (.glo "traced") := rfl
theorem gl_history : fa[20]? = some (.glo "history") := rfl
theorem gl_likely : fa[21]? = some (.glo "likely") := rfl
theorem gl__law_mixed : fa[22]? = some (.glo "_law_mixed") := rfl
theorem gl__law_folded : fa[23]? = some (.glo "_law_folded") := rfl
theorem gl__law_draw : fa[24]? = some (.glo "_law_draw") := rfl
theorem gl__law_names : fa[25]? = some (.glo "_law_names") := rfl
theorem gl__law_lamp : fa[26]? = some (.glo "_law_lamp") := rfl
theorem gl__law_lamps : fa[27]? = some (.glo "_law_lamps") := rfl
theorem gl__law_fleet : fa[28]? = some (.glo "_law_fleet") := rfl
theorem gl__law_column : fa[29]? = some (.glo "_law_column") := rfl
theorem gl__law_sights : fa[30]? = some (.glo "_law_sights") := rfl
theorem gl__law_begun : fa[31]? = some (.glo "_law_begun") := rfl
theorem gl__law_whole : fa[32]? = some (.glo "_law_whole") := rfl
theorem gl__law_hidden : fa[33]? = some (.glo "_law_hidden") := rfl
theorem gl__law_watch : fa[34]? = some (.glo "_law_watch") := rfl
theorem gl__law_costs : fa[35]? = some (.glo "_law_costs") := rfl
theorem gl__law_apart : fa[36]? = some (.glo "_law_apart") := rfl
theorem gl__law_least : fa[37]? = some (.glo "_law_least") := rfl
theorem gl__law_due : fa[38]? = some (.glo "_law_due") := rfl
theorem gl__law_right : fa[39]? = some (.glo "_law_right") := rfl
theorem gl_law : fa[40]? = some (.glo "law") := rfl
theorem gl_LightError : fa[41]? = some (.glo "LightError") := rfl
theorem ex_LightError : fa[42]? = some (.exc "LightError") := rfl
theorem gl_NoKind : fa[43]? = some (.glo "NoKind") := rfl
theorem ex_NoKind : fa[44]? = some (.exc "NoKind") := rfl
theorem gl_BadPoint : fa[45]? = some (.glo "BadPoint") := rfl
theorem ex_BadPoint : fa[46]? = some (.exc "BadPoint") := rfl
theorem gl_BadSight : fa[47]? = some (.glo "BadSight") := rfl
theorem ex_BadSight : fa[48]? = some (.exc "BadSight") := rfl
theorem gl_Full : fa[49]? = some (.glo "Full") := rfl
theorem ex_Full : fa[50]? = some (.exc "Full") := rfl
theorem gl_Watch : fa[51]? = some (.glo "Watch") := rfl
theorem cl_Watch : fa[52]? = some (.cls "Watch") := rfl
theorem mt_Watch_fleet : fa[53]? = some (.meth "Watch" "fleet") := rfl
theorem mt_Watch_put : fa[54]? = some (.meth "Watch" "put") := rfl
theorem mt_Watch_sights : fa[55]? = some (.meth "Watch" "sights") := rfl
theorem mt_Watch_last_moment : fa[56]? = some (.meth "Watch" "last_moment") := rfl
theorem mt_Watch_agreeing : fa[57]? = some (.meth "Watch" "agreeing") := rfl
theorem mt_Watch_steady : fa[58]? = some (.meth "Watch" "steady") := rfl
theorem mk_Watch : fa[59]? = some (.mkr "Watch") := rfl
theorem gl_Fleet : fa[60]? = some (.glo "Fleet") := rfl
theorem cl_Fleet : fa[61]? = some (.cls "Fleet") := rfl
theorem mt_Fleet_plain : fa[62]? = some (.meth "Fleet" "plain") := rfl
theorem mt_Fleet_kinds : fa[63]? = some (.meth "Fleet" "kinds") := rfl
theorem mt_Fleet_row_of : fa[64]? = some (.meth "Fleet" "row_of") := rfl
theorem mt_Fleet_turn : fa[65]? = some (.meth "Fleet" "turn") := rfl
theorem mt_Fleet_lamps : fa[66]? = some (.meth "Fleet" "lamps") := rfl
theorem mk_Fleet : fa[67]? = some (.mkr "Fleet") := rfl
theorem in_POINTS_columns : fa[68]? = some (.int "POINTS_columns" 32) := rfl
theorem in_LAST_MOMENT : fa[69]? = some (.int "LAST_MOMENT" 99) := rfl
theorem in_MOST_COLOURS : fa[70]? = some (.int "MOST_COLOURS" 6) := rfl
theorem in_MOST_SIGHTS : fa[71]? = some (.int "MOST_SIGHTS" 200) := rfl
theorem in_POINTS_histories : fa[72]? = some (.int "POINTS_histories" 32) := rfl
theorem fr_len : fa[73]? = some (.free "len") := rfl
theorem fr_range : fa[74]? = some (.free "range") := rfl
theorem fr_isinstance : fa[75]? = some (.free "isinstance") := rfl
theorem fr_list : fa[76]? = some (.free "list") := rfl
theorem fr_tuple : fa[77]? = some (.free "tuple") := rfl
theorem fr_dict : fa[78]? = some (.free "dict") := rfl
theorem fr_enumerate : fa[79]? = some (.free "enumerate") := rfl
theorem fr_repr : fa[80]? = some (.free "repr") := rfl
theorem fr_int : fa[81]? = some (.free "int") := rfl
theorem fr_str : fa[82]? = some (.free "str") := rfl
theorem fr_sorted : fa[83]? = some (.free "sorted") := rfl
theorem fr_set : fa[84]? = some (.free "set") := rfl
theorem fr_min : fa[85]? = some (.free "min") := rfl
theorem fr_max : fa[86]? = some (.free "max") := rfl
theorem fr_all : fa[87]? = some (.free "all") := rfl
theorem fr_sum : fa[88]? = some (.free "sum") := rfl
theorem fr_zip : fa[89]? = some (.free "zip") := rfl
theorem fr_bool : fa[90]? = some (.free "bool") := rfl
theorem na_Fleet_rows : fa[91]? = some (.noat "Fleet" "rows") := rfl
theorem na_Fleet_told : fa[92]? = some (.noat "Fleet" "told") := rfl
theorem na_Watch_kept : fa[93]? = some (.noat "Watch" "kept") := rfl
theorem na_Watch_ships : fa[94]? = some (.noat "Watch" "ships") := rfl
theorem fd_is_among : fn[0]? = some d_is_among := rfl
theorem fd_is_point : fn[1]? = some d_is_point := rfl
theorem fd_need_point : fn[2]? = some d_need_point := rfl
theorem fd_shows : fn[3]? = some d_shows := rfl
theorem fd_column : fn[4]? = some d_column := rfl
theorem fd_seen : fn[5]? = some d_seen := rfl
theorem fd_is_moment : fn[6]? = some d_is_moment := rfl
theorem fd_is_column : fn[7]? = some d_is_column := rfl
theorem fd_is_sight : fn[8]? = some d_is_sight := rfl
theorem fd_need_sight : fn[9]? = some d_need_sight := rfl
theorem fd_left_out : fn[10]? = some d_left_out := rfl
theorem fd_hides : fn[11]? = some d_hides := rfl
theorem fd_by_moments : fn[12]? = some d_by_moments := rfl
theorem fd_cost_of : fn[13]? = some d_cost_of := rfl
theorem fd_costs_of : fn[14]? = some d_costs_of := rfl
theorem fd_near_ones : fn[15]? = some d_near_ones := rfl
theorem fd_least_near : fn[16]? = some d_least_near := rfl
theorem fd_row_behind : fn[17]? = some d_row_behind := rfl
theorem fd_rows_of : fn[18]? = some d_rows_of := rfl
theorem fd_traced : fn[19]? = some d_traced := rfl
theorem fd_history : fn[20]? = some d_history := rfl
theorem fd_likely : fn[21]? = some d_likely := rfl
theorem fd_Lmixed : fn[22]? = some d_Lmixed := rfl
theorem fd_Lfolded : fn[23]? = some d_Lfolded := rfl
theorem fd_Ldraw : fn[24]? = some d_Ldraw := rfl
theorem fd_Lnames : fn[25]? = some d_Lnames := rfl
theorem fd_Llamp : fn[26]? = some d_Llamp := rfl
theorem fd_Llamps : fn[27]? = some d_Llamps := rfl
theorem fd_Lfleet : fn[28]? = some d_Lfleet := rfl
theorem fd_Lcolumn : fn[29]? = some d_Lcolumn := rfl
theorem fd_Lsights : fn[30]? = some d_Lsights := rfl
theorem fd_Lbegun : fn[31]? = some d_Lbegun := rfl
theorem fd_Lwhole : fn[32]? = some d_Lwhole := rfl
theorem fd_Lhidden : fn[33]? = some d_Lhidden := rfl
theorem fd_Lwatch : fn[34]? = some d_Lwatch := rfl
theorem fd_Lcosts : fn[35]? = some d_Lcosts := rfl
theorem fd_Lapart : fn[36]? = some d_Lapart := rfl
theorem fd_Lleast : fn[37]? = some d_Lleast := rfl
theorem fd_Ldue : fn[38]? = some d_Ldue := rfl
theorem fd_Lright : fn[39]? = some d_Lright := rfl
theorem fd_law : fn[40]? = some d_law := rfl
theorem fd_Watch_init : fn[41]? = some d_Watch_init := rfl
theorem fd_Watch_fleet : fn[42]? = some d_Watch_fleet := rfl
theorem fd_Watch_put : fn[43]? = some d_Watch_put := rfl
theorem fd_Watch_sights : fn[44]? = some d_Watch_sights := rfl
theorem fd_Watch_last_moment : fn[45]? = some d_Watch_last_moment := rfl
theorem fd_Watch_agreeing : fn[46]? = some d_Watch_agreeing := rfl
theorem fd_Watch_steady : fn[47]? = some d_Watch_steady := rfl
theorem fd_Fleet_init : fn[48]? = some d_Fleet_init := rfl
theorem fd_Fleet_plain : fn[49]? = some d_Fleet_plain := rfl
theorem fd_Fleet_kinds : fn[50]? = some d_Fleet_kinds := rfl
theorem fd_Fleet_row_of : fn[51]? = some d_Fleet_row_of := rfl
theorem fd_Fleet_turn : fn[52]? = some d_Fleet_turn := rfl
theorem fd_Fleet_lamps : fn[53]? = some d_Fleet_lamps := rfl
abbrev caOf (K : PySem.W.Frag) : CA := ⟨He.ga K "Fleet", He.ga K "Watch", He.ga K "Source", He.ga K "Looker", He.ga K "Foe", He.ga K "Desk", He.ga K "LightError", He.ga K "BadText", He.ga K "NoKind", He.ga K "BadPoint", He.ga K "BadSight", He.ga K "Full", He.ga K "BadMoment", He.ga K "BadBoats", He.ga K "BadMany", He.ga K "NoFoe"⟩
end Dl
end
section
namespace Dl
open PySem PySem.Spec PyProof.Rows L2
variable {P : Program} {w : World} {K : PySem.W.Frag} {mg : Str → Option Value} {base : Heap}
theorem sc_Fleet_plain : FnScope ["self"] ["self"] d_Fleet_plain.scope := ⟨rfl, rfl, rfl, by decide +kernel, rfl, by decide +kernel, by decide +kernel⟩
theorem len_Fleet_plain (ca : CA) : ∀ ds h Q E, sp_Fleet_plain ca ds h Q E → ds.length = 1 := by
  rintro ds h Q E hh
  unfold sp_Fleet_plain at hh
  repeat (first | (obtain ⟨e, _⟩ := hh; subst e; rfl) | obtain ⟨_, hh⟩ := hh)
theorem ok_Fleet_plain (Z : Zs P w fa fn K mg base) : GotM P w K mg base (He.ga K "Fleet") "plain" 1 ["self"] (sp_Fleet_plain (caOf K)) := by
  refine Z.fn_m 49 61 62 fd_Fleet_plain cl_Fleet mt_Fleet_plain rfl rfl rfl sc_Fleet_plain (fun _ _ _ _ _ _ us hl => match us, hl with | [_], _ => rfl) (len_Fleet_plain _) (t_Fleet_plain (caOf K)) ?_ (pure_Fleet_plain (caOf K))
  intro f cdv A outer s H E Ed hr tk
  have sc := sc_Fleet_plain
  unfold t_Fleet_plain
  exact (ss_one (s_ret (e_fld (Z.cls _ cl_Fleet) (Z.noat _ na_Fleet_told) e_var)))
theorem sc_Lmixed : FnScope ["_law_cell", "_law_k", "_law_number"] ["_law_cell", "_law_k"] d_Lmixed.scope := ⟨rfl, rfl, rfl, by decide +kernel, rfl, by decide +kernel, by decide +kernel⟩
theorem len_Lmixed (ca : CA) : ∀ ds h Q E, sp_Lmixed ca ds h Q E → ds.length = 2 := by
  rintro ds h Q E hh
  unfold sp_Lmixed at hh
  repeat (first | (obtain ⟨e, _⟩ := hh; subst e; rfl) | obtain ⟨_, hh⟩ := hh)
theorem ok_Lmixed (Z : Zs P w fa fn K mg base) : GotF P w K mg base "_law_mixed" 1 ["_law_cell", "_law_k"] (sp_Lmixed (caOf K)) := by
  refine Z.fn_f 22 22 fd_Lmixed gl__law_mixed rfl rfl rfl sc_Lmixed (fun _ _ _ _ _ _ us hl => match us, hl with | [_, _], _ => rfl) (len_Lmixed _) (t_Lmixed (caOf K)) ?_ (pure_Lmixed (caOf K))
  intro f cdv A outer s H E Ed hr tk
  have sc := sc_Lmixed
  unfold t_Lmixed
  exact (ss_cons (s_set sc.nd (e_add (e_add (e_mod (e_mul (e_mul e_var (e_add e_int (e_mul e_int e_var))) e_int) e_int) (e_mul (e_mul e_int e_var) e_var)) (e_mul e_int e_var)))
    (ss_one (s_ret (e_fdiv (e_mod (e_mul e_var e_int) e_int) e_int))))
theorem sc_Ldraw : FnScope ["_law_m", "_law_many", "_law_k", "_law_at", "_law_cell"] ["_law_m", "_law_many"] d_Ldraw.scope := ⟨rfl, rfl, rfl, by decide +kernel, rfl, by decide +kernel, by decide +kernel⟩
theorem len_Ldraw (ca : CA) : ∀ ds h Q E, sp_Ldraw ca ds h Q E → ds.length = 2 := by
  rintro ds h Q E hh
  unfold sp_Ldraw at hh
  repeat (first | (obtain ⟨e, _⟩ := hh; subst e; rfl) | obtain ⟨_, hh⟩ := hh)
theorem ok_Ldraw (Z : Zs P w fa fn K mg base) : GotF P w K mg base "_law_draw" 2 ["_law_m", "_law_many"] (sp_Ldraw (caOf K)) := by
  refine Z.fn_f 24 24 fd_Ldraw gl__law_draw rfl rfl rfl sc_Ldraw (fun _ _ _ _ _ _ us hl => match us, hl with | [_, _], _ => rfl) (len_Ldraw _) (t_Ldraw (caOf K)) ?_ (pure_Ldraw (caOf K))
  intro f cdv A outer s H E Ed hr tk
  have sc := sc_Ldraw
  unfold t_Ldraw
  exact (ss_cons (s_set sc.nd (e_dget hr e_var e_str))
    (ss_cons (s_dput hr e_var e_str (e_add e_var e_int))
    (ss_cons (s_if (t_ne hr (e_dget hr e_var e_str) (e_lst a_nil))
    (ss_cons (s_set sc.nd (e_mod e_var (e_len (a_cons (e_dget hr e_var e_str) a_nil) (Z.free _ fr_len))))
    (ss_cons (s_set sc.nd (e_ix (e_dget hr e_var e_str) e_var))
    (ss_cons (s_asg (e_fdiv e_var e_var) (g_sub (e_dget hr e_var e_str) e_var))
    (ss_one (s_ret (e_mod e_var e_var))))))
    ss_nil)
    (ss_one (s_ret (e_mod (e_callF (ok_Lmixed Z) hr (by decide) tk (a_cons (e_callF (ok_Lmixed Z) hr (by decide) tk (a_cons (e_add (e_ix (e_dget hr e_var e_str) (e_mod e_var e_int)) (e_mul e_int (e_fdiv e_var e_int))) (a_cons e_var a_nil))) (a_cons (e_add e_var e_int) a_nil))) e_var))))))
theorem sc_Lfolded : FnScope ["_law_script", "_law_found", "_law_k", "_law_cell"] ["_law_script"] d_Lfolded.scope := ⟨rfl, rfl, rfl, by decide +kernel, rfl, by decide +kernel, by decide +kernel⟩
theorem len_Lfolded (ca : CA) : ∀ ds h Q E, sp_Lfolded ca ds h Q E → ds.length = 1 := by
  rintro ds h Q E hh
  unfold sp_Lfolded at hh
  repeat (first | (obtain ⟨e, _⟩ := hh; subst e; rfl) | obtain ⟨_, hh⟩ := hh)
theorem ok_Lfolded (Z : Zs P w fa fn K mg base) : GotF P w K mg base "_law_folded" 1 ["_law_script"] (sp_Lfolded (caOf K)) := by
  refine Z.fn_f 23 23 fd_Lfolded gl__law_folded rfl rfl rfl sc_Lfolded (fun _ _ _ _ _ _ us hl => match us, hl with | [_], _ => rfl) (len_Lfolded _) (t_Lfolded (caOf K)) ?_ (pure_Lfolded (caOf K))
  intro f cdv A outer s H E Ed hr tk
  have sc := sc_Lfolded
  unfold t_Lfolded
  exact (ss_cons (s_setLc rfl sc.nd (blkOk_by (own := [("_law_k", 2)]) (by kernel_rfl)) rfl (i_rng1 (Z.free _ fr_range) (a_cons e_int a_nil)) (fun _ _ _ _ _ => pg_name (i := 2) sc.nd rfl (Or.inl rfl)) (fun _ _ _ _ _ => pts_yes) (fun _ _ _ _ _ => (e_add e_int e_var)) (sw_true rfl rfl rfl (by decide +kernel)))
    (ss_cons (s_for hp_body rfl (i_enum (Z.free _ fr_enumerate) (a_cons e_var a_nil)) (g_tup rfl (gs_cons (g_name sc.nd) (gs_cons (g_name sc.nd) gs_nil)))
    (ss_one (s_asg (e_mod (e_add (e_mul (e_ix e_var (e_mod e_var e_int)) e_int) e_var) e_int) (g_sub e_var (e_mod e_var e_int)))))
    (ss_cons (s_for hp_body rfl (i_rng2 (Z.free _ fr_range) (a_cons e_int (a_cons e_int a_nil))) (g_name sc.nd)
    (ss_one (s_asg (e_mod (e_add (e_ix e_var e_var) (e_mul (e_ix e_var (e_sub e_var e_int)) e_int)) e_int) (g_sub e_var e_var))))
    (ss_one (s_ret e_var)))))
theorem sc_Lnames : FnScope ["_law_cell", "_law_many", "_law_letters", "_law_size", "_law_at", "_law_row", "_law_found", "_law_k", "_law_sign", "_law_bars", "_law_j", "_law_name"] ["_law_cell", "_law_many"] d_Lnames.scope := ⟨rfl, rfl, rfl, by decide +kernel, rfl, by decide +kernel, by decide +kernel⟩
theorem len_Lnames (ca : CA) : ∀ ds h Q E, sp_Lnames ca ds h Q E → ds.length = 2 := by
  rintro ds h Q E hh
  unfold sp_Lnames at hh
  repeat (first | (obtain ⟨e, _⟩ := hh; subst e; rfl) | obtain ⟨_, hh⟩ := hh)
theorem ok_Lnames (Z : Zs P w fa fn K mg base) : GotF P w K mg base "_law_names" 1 ["_law_cell", "_law_many"] (sp_Lnames (caOf K)) := by
  refine Z.fn_f 25 25 fd_Lnames gl__law_names rfl rfl rfl sc_Lnames (fun _ _ _ _ _ _ us hl => match us, hl with | [_, _], _ => rfl) (len_Lnames _) (t_Lnames (caOf K)) ?_ (pure_Lnames (caOf K))
  intro f cdv A outer s H E Ed hr tk
  have sc := sc_Lnames
  unfold t_Lnames
  exact (ss_cons (s_set sc.nd e_str)
    (ss_cons (s_if (t_eq hr (e_mod e_var e_int) e_int)
    (ss_one (s_ret (e_lc rfl sc.nd (blkOk_by (own := [("_law_k", 7)]) (by kernel_rfl)) rfl (i_rng1 (Z.free _ fr_range) (a_cons e_var a_nil)) (fun _ _ _ _ _ => pg_name (i := 7) sc.nd rfl (Or.inl rfl)) (fun _ _ _ _ _ => pts_yes) (fun _ _ _ _ _ => (e_mul (e_ix e_var (e_mod (e_sub (e_fdiv e_var e_int) e_var) e_int)) (e_add e_int e_var))))))
    ss_nil)
    (ss_cons (s_set sc.nd (e_add e_int (e_mod (e_fdiv e_var e_int) e_int)))
    (ss_cons (s_set sc.nd (e_ix (e_lst (a_cons (e_mod (e_fdiv e_var e_int) e_var) (a_cons e_int (a_cons (e_sub e_var e_int) a_nil)))) (e_mod e_var e_int)))
    (ss_cons (s_setLc rfl sc.nd (blkOk_by (own := [("_law_j", 10)]) (by kernel_rfl)) rfl (i_rng1 (Z.free _ fr_range) (a_cons e_int a_nil)) (fun _ _ _ _ _ => pg_name (i := 10) sc.nd rfl (Or.inl rfl)) (fun _ _ _ _ _ => pts_yes) (fun _ _ _ _ _ => (e_ix e_var (e_mod (e_add (e_fdiv e_var e_int) (e_mul e_int e_var)) e_int))) (sw_true rfl rfl rfl (by decide +kernel)))
    (ss_cons (s_set sc.nd (e_lst a_nil))
    (ss_cons (s_for hp_body rfl (i_rng1 (Z.free _ fr_range) (a_cons e_var a_nil)) (g_name sc.nd)
    (ss_cons (s_set sc.nd (e_ix e_var (e_mod (e_add (e_fdiv e_var e_int) e_var) e_int)))
    (ss_one (s_expr (e_bm PySem.F.plainAttrs_list PySem.F.slot_list_append PySem.F.type_list_append mt_append im_append e_var (a_cons (e_bm PySem.F.plainAttrs_str PySem.F.slot_str_join PySem.F.type_str_join mt_join im_join e_str (a_cons (e_add (e_add (e_sl e_var o_none (o_some e_var)) (e_lst (a_cons e_var a_nil))) (e_sl e_var (o_some (e_add e_var e_int)) (o_some e_var))) a_nil)) a_nil))))))
    (ss_cons (s_set sc.nd (e_lst (a_cons e_str (a_cons e_str (a_cons e_str (a_cons e_str a_nil))))))
    (ss_cons (s_if (t_ne hr (e_lc rfl sc.nd (blkOk_by (own := [("_law_name", 11)]) (by kernel_rfl)) rfl (i_seq e_var) (fun _ _ _ _ _ => pg_name (i := 11) sc.nd rfl (Or.inl rfl)) (fun _ _ _ _ _ => pts_if (t_in e_var e_var)) (fun _ _ _ _ _ => e_var)) (e_lst a_nil))
    (ss_one (s_ret (e_lc rfl sc.nd (blkOk_by (own := [("_law_k", 7)]) (by kernel_rfl)) rfl (i_rng1 (Z.free _ fr_range) (a_cons e_var a_nil)) (fun _ _ _ _ _ => pg_name (i := 7) sc.nd rfl (Or.inl rfl)) (fun _ _ _ _ _ => pts_yes) (fun _ _ _ _ _ => (e_add e_str (e_ix e_var e_var))))))
    ss_nil)
    (ss_one (s_ret e_var)))))))))))
theorem sc_Lbegun : FnScope ["_law_script", "_law_m", "_law_seeds", "_law_k"] ["_law_script"] d_Lbegun.scope := ⟨rfl, rfl, rfl, by decide +kernel, rfl, by decide +kernel, by decide +kernel⟩
theorem len_Lbegun (ca : CA) : ∀ ds h Q E, sp_Lbegun ca ds h Q E → ds.length = 1 := by
  rintro ds h Q E hh
  unfold sp_Lbegun at hh
  repeat (first | (obtain ⟨e, _⟩ := hh; subst e; rfl) | obtain ⟨_, hh⟩ := hh)
theorem ok_Lbegun (Z : Zs P w fa fn K mg base) : GotF P w K mg base "_law_begun" 3 ["_law_script"] (sp_Lbegun (caOf K)) := by
  refine Z.fn_f 31 31 fd_Lbegun gl__law_begun rfl rfl rfl sc_Lbegun (fun _ _ _ _ _ _ us hl => match us, hl with | [_], _ => rfl) (len_Lbegun _) (t_Lbegun (caOf K)) ?_ (pure_Lbegun (caOf K))
  intro f cdv A outer s H E Ed hr tk
  have sc := sc_Lbegun
  unfold t_Lbegun
  exact (ss_cons (s_set sc.nd (e_disp (pps_cons pe_str (e_callF (ok_Lfolded Z) hr (by decide) tk (a_cons e_var a_nil)) (pps_cons pe_str (e_lst a_nil) (pps_cons pe_str e_int pps_nil))) (hn := of_decide_eq_true (by kernel_rfl)) (hk := Nat.le_of_ble_eq_true rfl)))
    (ss_cons (s_if (w_pt (w_and (t_ne hr e_var (e_lst a_nil)) (w_and1 (t_eq hr (e_mod (e_ix e_var e_int) e_int) e_int))))
    (ss_one (s_dput hr e_var e_str (e_add (e_lst (a_cons (e_fdiv (e_ix e_var e_int) e_int) a_nil)) (e_sl e_var (o_some e_int) o_none))))
    ss_nil)
    (ss_cons (s_setLc rfl sc.nd (blkOk_by (own := [("_law_k", 3)]) (by kernel_rfl)) rfl (i_rng1 (Z.free _ fr_range) (a_cons e_int a_nil)) (fun _ _ _ _ _ => pg_name (i := 3) sc.nd rfl (Or.inl rfl)) (fun _ _ _ _ _ => pts_yes) (fun _ _ _ _ _ => (e_callF (ok_Ldraw Z) hr (by decide) takes_none (a_cons e_var (a_cons (e_pow e_int e_int) a_nil)))) (sw_true rfl rfl rfl (by decide +kernel)))
    (ss_cons (s_if (t_eq hr (e_callF (ok_Ldraw Z) hr (by decide) tk (a_cons e_var (a_cons e_int a_nil))) e_int)
    (ss_one (s_set sc.nd (e_mul (e_sl e_var o_none (o_some e_int)) e_int)))
    ss_nil)
    (ss_cons (s_dput hr e_var e_str (e_callF (ok_Lnames Z) hr (by decide) tk (a_cons (e_ix e_var e_int) (a_cons e_int a_nil))))
    (ss_cons (s_dput hr e_var e_str (e_callF (ok_Lnames Z) hr (by decide) tk (a_cons (e_ix e_var e_int) (a_cons e_int a_nil))))
    (ss_one (s_ret e_var))))))))
theorem sc_Llamp : FnScope ["_law_m", "_law_colours", "_law_first", "_law_wide"] ["_law_m", "_law_colours"] d_Llamp.scope := ⟨rfl, rfl, rfl, by decide +kernel, rfl, by decide +kernel, by decide +kernel⟩
theorem len_Llamp (ca : CA) : ∀ ds h Q E, sp_Llamp ca ds h Q E → ds.length = 2 := by
  rintro ds h Q E hh
  unfold sp_Llamp at hh
  repeat (first | (obtain ⟨e, _⟩ := hh; subst e; rfl) | obtain ⟨_, hh⟩ := hh)
theorem ok_Llamp (Z : Zs P w fa fn K mg base) : GotF P w K mg base "_law_lamp" 3 ["_law_m", "_law_colours"] (sp_Llamp (caOf K)) := by
  refine Z.fn_f 26 26 fd_Llamp gl__law_lamp rfl rfl rfl sc_Llamp (fun _ _ _ _ _ _ us hl => match us, hl with | [_, _], _ => rfl) (len_Llamp _) (t_Llamp (caOf K)) ?_ (pure_Llamp (caOf K))
  intro f cdv A outer s H E Ed hr tk
  have sc := sc_Llamp
  unfold t_Llamp
  exact (ss_cons (s_set sc.nd (e_callF (ok_Ldraw Z) hr (by decide) tk (a_cons e_var (a_cons e_int a_nil))))
    (ss_cons (s_set sc.nd (e_ix (e_lst (a_cons e_int (a_cons e_int (a_cons e_int (a_cons e_int (a_cons e_int (a_cons e_int (a_cons (e_callF (ok_Ldraw Z) hr (by decide) tk (a_cons e_var (a_cons e_int a_nil))) a_nil)))))))) (e_callF (ok_Ldraw Z) hr (by decide) tk (a_cons e_var (a_cons e_int a_nil)))))
    (ss_one (s_ret (e_tup (a_cons (e_ix e_var (e_callF (ok_Ldraw Z) hr (by decide) tk (a_cons e_var (a_cons (e_len (a_cons e_var a_nil) (Z.free _ fr_len)) a_nil)))) (a_cons e_var (a_cons (e_mod (e_add e_var e_var) e_int) a_nil))))))))
theorem sc_Llamps : FnScope ["_law_m", "_law_colours", "_law_rows", "_law_lamps_here", "_law_at", "_law_way", "_law_colour", "_law_first", "_law_last", "_law_k"] ["_law_m", "_law_colours", "_law_rows"] d_Llamps.scope := ⟨rfl, rfl, rfl, by decide +kernel, rfl, by decide +kernel, by decide +kernel⟩
theorem len_Llamps (ca : CA) : ∀ ds h Q E, sp_Llamps ca ds h Q E → ds.length = 3 := by
  rintro ds h Q E hh
  unfold sp_Llamps at hh
  repeat (first | (obtain ⟨e, _⟩ := hh; subst e; rfl) | obtain ⟨_, hh⟩ := hh)
theorem ok_Llamps (Z : Zs P w fa fn K mg base) : GotF P w K mg base "_law_lamps" 4 ["_law_m", "_law_colours", "_law_rows"] (sp_Llamps (caOf K)) := by
  refine Z.fn_f 27 27 fd_Llamps gl__law_lamps rfl rfl rfl sc_Llamps (fun _ _ _ _ _ _ us hl => match us, hl with | [_, _, _], _ => rfl) (len_Llamps _) (t_Llamps (caOf K)) ?_ (pure_Llamps (caOf K))
  intro f cdv A outer s H E Ed hr tk
  have sc := sc_Llamps
  unfold t_Llamps
  exact (ss_cons (s_if (w_pt (w_or (t_eq hr e_var (e_lst a_nil)) (w_or1 (t_lt (e_callF (ok_Ldraw Z) hr (by decide) tk (a_cons e_var (a_cons e_int a_nil))) e_int))))
    (ss_one (s_ret (e_tuple (a_cons (e_lc rfl sc.nd (blkOk_by (own := [("_law_k", 9)]) (by kernel_rfl)) rfl (i_rng1 (Z.free _ fr_range) (a_cons (e_add e_int (e_callF (ok_Ldraw Z) hr (by decide) tk (a_cons e_var (a_cons e_int a_nil)))) a_nil)) (fun _ _ _ _ _ => pg_name (i := 9) sc.nd rfl (Or.inl rfl)) (fun _ _ _ _ _ => pts_yes) (fun _ _ _ _ _ => (e_callF (ok_Llamp Z) hr (by decide) takes_none (a_cons e_var (a_cons e_var a_nil))))) a_nil) (Z.free _ fr_tuple))))
    ss_nil)
    (ss_cons (s_set sc.nd (e_list (a_cons (e_ix (e_ix e_var (e_callF (ok_Ldraw Z) hr (by decide) tk (a_cons e_var (a_cons (e_len (a_cons e_var a_nil) (Z.free _ fr_len)) a_nil)))) e_int) a_nil) (Z.free _ fr_list)))
    (ss_cons (s_set sc.nd (e_callF (ok_Ldraw Z) hr (by decide) tk (a_cons e_var (a_cons (e_len (a_cons e_var a_nil) (Z.free _ fr_len)) a_nil))))
    (ss_cons (s_set sc.nd (e_callF (ok_Ldraw Z) hr (by decide) tk (a_cons e_var (a_cons e_int a_nil))))
    (ss_cons (s_if (w_pt (w_and (t_eq hr e_var e_int) (w_and1 (t_lt (e_len (a_cons e_var a_nil) (Z.free _ fr_len)) e_int))))
    (ss_one (s_expr (e_bm PySem.F.plainAttrs_list PySem.F.slot_list_insert PySem.F.type_list_insert mt_insert im_insert e_var (a_cons e_var (a_cons (e_callF (ok_Llamp Z) hr (by decide) tk (a_cons e_var (a_cons e_var a_nil))) a_nil)))))
    (ss_one (s_if (w_pt (w_and (t_eq hr e_var e_int) (w_and1 (t_gt (e_len (a_cons e_var a_nil) (Z.free _ fr_len)) e_int))))
    (ss_one (s_expr (e_bm PySem.F.plainAttrs_list PySem.F.slot_list_pop PySem.F.type_list_pop mt_popD im_pop e_var (a_cons e_var a_nil))))
    (ss_one (s_if (t_eq hr e_var e_int)
    (ss_cons (s_asg (e_ix e_var e_var) (g_tup rfl (gs_cons (g_name sc.nd) (gs_cons (g_name sc.nd) (gs_cons (g_name sc.nd) gs_nil)))))
    (ss_one (s_asg (e_tup (a_cons e_var (a_cons e_var (a_cons (e_mod (e_add (e_add e_var e_int) (e_callF (ok_Ldraw Z) hr (by decide) tk (a_cons e_var (a_cons e_int a_nil)))) e_int) a_nil)))) (g_sub e_var e_var))))
    (ss_one (s_asg (e_callF (ok_Llamp Z) hr (by decide) tk (a_cons e_var (a_cons e_var a_nil))) (g_sub e_var e_var))))))))
    (ss_one (s_ret (e_tuple (a_cons e_var a_nil) (Z.free _ fr_tuple)))))))))
theorem sc_Lfleet : FnScope ["_law_m", "_law_great", "_law_colours", "_law_rows", "_law_name", "_law_turn"] ["_law_m"] d_Lfleet.scope := ⟨rfl, rfl, rfl, by decide +kernel, rfl, by decide +kernel, by decide +kernel⟩
theorem len_Lfleet (ca : CA) : ∀ ds h Q E, sp_Lfleet ca ds h Q E → ds.length = 1 := by
  rintro ds h Q E hh
  unfold sp_Lfleet at hh
  repeat (first | (obtain ⟨e, _⟩ := hh; subst e; rfl) | obtain ⟨_, hh⟩ := hh)
theorem ok_Lfleet (Z : Zs P w fa fn K mg base) : GotF P w K mg base "_law_fleet" 5 ["_law_m"] (sp_Lfleet (caOf K)) := by
  refine Z.fn_f 28 28 fd_Lfleet gl__law_fleet rfl rfl rfl sc_Lfleet (fun _ _ _ _ _ _ us hl => match us, hl with | [_], _ => rfl) (len_Lfleet _) (t_Lfleet (caOf K)) ?_ (pure_Lfleet (caOf K))
  intro f cdv A outer s H E Ed hr tk
  have sc := sc_Lfleet
  unfold t_Lfleet
  exact (ss_cons (s_set sc.nd (e_intc (a_cons (e_eq hr (e_callF (ok_Ldraw Z) hr (by decide) tk (a_cons e_var (a_cons e_int a_nil))) e_int) a_nil) (Z.free _ fr_int)))
    (ss_cons (s_set sc.nd (e_tuple (a_cons (e_sl (e_dget hr e_var e_str) o_none (o_some (e_add e_int (e_callF (ok_Ldraw Z) hr (by decide) tk (a_cons e_var (a_cons (e_ix (e_lst (a_cons e_int (a_cons e_int a_nil))) e_var) a_nil)))))) a_nil) (Z.free _ fr_tuple)))
    (ss_cons (s_set sc.nd (e_lst a_nil))
    (ss_cons (s_for hp_body rfl (i_seq (e_sl (e_dget hr e_var e_str) o_none (o_some (e_add e_int (e_callF (ok_Ldraw Z) hr (by decide) tk (a_cons e_var (a_cons (e_ix (e_lst (a_cons e_int (a_cons e_int a_nil))) e_var) a_nil))))))) (g_name sc.nd)
    (ss_cons (s_set sc.nd (e_ix (e_lst (a_cons e_int (a_cons e_int (a_cons e_int (a_cons e_int (a_cons e_int (a_cons (e_callF (ok_Ldraw Z) hr (by decide) tk (a_cons e_var (a_cons e_int a_nil))) a_nil))))))) (e_callF (ok_Ldraw Z) hr (by decide) tk (a_cons e_var (a_cons e_int a_nil)))))
    (ss_one (s_expr (e_bm PySem.F.plainAttrs_list PySem.F.slot_list_append PySem.F.type_list_append mt_append im_append e_var (a_cons (e_tup (a_cons e_var (a_cons e_var (a_cons (e_callF (ok_Llamps Z) hr (by decide) tk (a_cons e_var (a_cons e_var (a_cons e_var a_nil)))) a_nil)))) a_nil))))))
    (ss_one (s_ret (e_tup (a_cons e_var (a_cons (e_tuple (a_cons e_var a_nil) (Z.free _ fr_tuple)) a_nil)))))))))
theorem sc_Lapart : FnScope ["_law_one", "_law_other"] ["_law_one", "_law_other"] d_Lapart.scope := ⟨rfl, rfl, rfl, by decide +kernel, rfl, by decide +kernel, by decide +kernel⟩
theorem len_Lapart (ca : CA) : ∀ ds h Q E, sp_Lapart ca ds h Q E → ds.length = 2 := by
  rintro ds h Q E hh
  unfold sp_Lapart at hh
  repeat (first | (obtain ⟨e, _⟩ := hh; subst e; rfl) | obtain ⟨_, hh⟩ := hh)
theorem ok_Lapart (Z : Zs P w fa fn K mg base) : GotF P w K mg base "_law_apart" 1 ["_law_one", "_law_other"] (sp_Lapart (caOf K)) := by
  refine Z.fn_f 36 36 fd_Lapart gl__law_apart rfl rfl rfl sc_Lapart (fun _ _ _ _ _ _ us hl => match us, hl with | [_, _], _ => rfl) (len_Lapart _) (t_Lapart (caOf K)) ?_ (pure_Lapart (caOf K))
  intro f cdv A outer s H E Ed hr tk
  have sc := sc_Lapart
  unfold t_Lapart
  exact (ss_one (s_ret (e_min2 (a_cons (e_mod (e_sub e_var e_var) e_int) (a_cons (e_mod (e_sub e_var e_var) e_int) a_nil)) rfl (Z.free _ fr_min))))
theorem sc_Lcolumn : FnScope ["_law_fleet_here", "_law_boat", "_law_side", "_law_bearing", "_law_found", "_law_kind", "_law_turn", "_law_lamps_here", "_law_colour", "_law_first", "_law_last"] ["_law_fleet_here", "_law_boat", "_law_side"] d_Lcolumn.scope := ⟨rfl, rfl, rfl, by decide +kernel, rfl, by decide +kernel, by decide +kernel⟩
theorem len_Lcolumn (ca : CA) : ∀ ds h Q E, sp_Lcolumn ca ds h Q E → ds.length = 3 := by
  rintro ds h Q E hh
  unfold sp_Lcolumn at hh
  repeat (first | (obtain ⟨e, _⟩ := hh; subst e; rfl) | obtain ⟨_, hh⟩ := hh)
theorem ok_Lcolumn (Z : Zs P w fa fn K mg base) : GotF P w K mg base "_law_column" 1 ["_law_fleet_here", "_law_boat", "_law_side"] (sp_Lcolumn (caOf K)) := by
  refine Z.fn_f 29 29 fd_Lcolumn gl__law_column rfl rfl rfl sc_Lcolumn (fun _ _ _ _ _ _ us hl => match us, hl with | [_, _, _], _ => rfl) (len_Lcolumn _) (t_Lcolumn (caOf K)) ?_ (pure_Lcolumn (caOf K))
  intro f cdv A outer s H E Ed hr tk
  have sc := sc_Lcolumn
  unfold t_Lcolumn
  exact (ss_cons (s_set sc.nd (e_mod (e_sub e_var (e_ix e_var e_int)) e_int))
    (ss_cons (s_set sc.nd (e_lst a_nil))
    (ss_cons (s_for hp_body rfl (i_seq (e_ix e_var e_int)) (g_tup rfl (gs_cons (g_name sc.nd) (gs_cons (g_name sc.nd) (gs_cons (g_name sc.nd) gs_nil))))
    (ss_one (s_for hp_body rfl (i_seq e_var) (g_tup rfl (gs_cons (g_name sc.nd) (gs_cons (g_name sc.nd) (gs_cons (g_name sc.nd) gs_nil))))
    (ss_one (s_if (w_pt (w_and (t_eq hr e_var (e_ix e_var e_int)) (w_and1 (t_le (e_mod (e_sub e_var e_var) e_int) (e_mod (e_sub e_var e_var) e_int)))))
    (ss_one (s_expr (e_bm PySem.F.plainAttrs_list PySem.F.slot_list_append PySem.F.type_list_append mt_append im_append e_var (a_cons e_var a_nil))))
    ss_nil)))))
    (ss_one (s_ret (e_tuple (a_cons e_var a_nil) (Z.free _ fr_tuple)))))))
theorem sc_Lhidden : FnScope ["_law_whole_here", "_law_part", "_law_bits", "_law_left", "_law_k", "_law_colour"] ["_law_whole_here", "_law_part"] d_Lhidden.scope := ⟨rfl, rfl, rfl, by decide +kernel, rfl, by decide +kernel, by decide +kernel⟩
theorem len_Lhidden (ca : CA) : ∀ ds h Q E, sp_Lhidden ca ds h Q E → ds.length = 2 := by
  rintro ds h Q E hh
  unfold sp_Lhidden at hh
  repeat (first | (obtain ⟨e, _⟩ := hh; subst e; rfl) | obtain ⟨_, hh⟩ := hh)
theorem ok_Lhidden (Z : Zs P w fa fn K mg base) : GotF P w K mg base "_law_hidden" 1 ["_law_whole_here", "_law_part"] (sp_Lhidden (caOf K)) := by
  refine Z.fn_f 33 33 fd_Lhidden gl__law_hidden rfl rfl rfl sc_Lhidden (fun _ _ _ _ _ _ us hl => match us, hl with | [_, _], _ => rfl) (len_Lhidden _) (t_Lhidden (caOf K)) ?_ (pure_Lhidden (caOf K))
  intro f cdv A outer s H E Ed hr tk
  have sc := sc_Lhidden
  unfold t_Lhidden
  exact (ss_cons (s_for hp_body rfl (i_rng1 (Z.free _ fr_range) (a_cons (e_shl e_int (e_len (a_cons e_var a_nil) (Z.free _ fr_len))) a_nil)) (g_name sc.nd)
    (ss_cons (s_setLc rfl sc.nd (blkOk_by (own := [("_law_k", 4), ("_law_colour", 5)]) (by kernel_rfl)) rfl (i_enum (Z.free _ fr_enumerate) (a_cons e_var a_nil)) (fun _ _ _ _ _ => tg_tup rfl (gn_cons (pg_name (i := 4) sc.nd rfl (by first | exact Or.inl rfl | exact Or.inr rfl)) (gn_cons (pg_name (i := 5) sc.nd rfl (by first | exact Or.inl rfl | exact Or.inr rfl)) gn_nil))) (fun _ _ _ _ _ => pts_if (t_eq hr (e_band (e_shr e_var e_var) e_int) e_int)) (fun _ _ _ _ _ => e_var) (sw_true rfl rfl rfl (by decide +kernel)))
    (ss_one (s_if (t_eq hr (e_tuple (a_cons e_var a_nil) (Z.free _ fr_tuple)) e_var)
    (ss_one (s_ret (e_sub (e_len (a_cons e_var a_nil) (Z.free _ fr_len)) (e_len (a_cons e_var a_nil) (Z.free _ fr_len)))))
    ss_nil))))
    (ss_one (s_ret e_non)))
end Dl
end
section
namespace Dl
open PySem PySem.Spec PyProof.Rows L2
variable {P : Program} {w : World} {K : PySem.W.Frag} {mg : Str → Option Value} {base : Heap}
theorem sc_Lcosts : FnScope ["_law_fleet_here", "_law_kind", "_law_sights_here", "_law_last", "_law_found", "_law_moment", "_law_side", "_law_part", "_law_course", "_law_hidden_here", "_law_sight"] ["_law_fleet_here", "_law_kind", "_law_sights_here"] d_Lcosts.scope := ⟨rfl, rfl, rfl, by decide +kernel, rfl, by decide +kernel, by decide +kernel⟩
theorem len_Lcosts (ca : CA) : ∀ ds h Q E, sp_Lcosts ca ds h Q E → ds.length = 3 := by
  rintro ds h Q E hh
  unfold sp_Lcosts at hh
  repeat (first | (obtain ⟨e, _⟩ := hh; subst e; rfl) | obtain ⟨_, hh⟩ := hh)
theorem ok_Lcosts (Z : Zs P w fa fn K mg base) : GotF P w K mg base "_law_costs" 2 ["_law_fleet_here", "_law_kind", "_law_sights_here"] (sp_Lcosts (caOf K)) := by
  refine Z.fn_f 35 35 fd_Lcosts gl__law_costs rfl rfl rfl sc_Lcosts (fun _ _ _ _ _ _ us hl => match us, hl with | [_, _, _], _ => rfl) (len_Lcosts _) (t_Lcosts (caOf K)) ?_ (pure_Lcosts (caOf K))
  intro f cdv A outer s H E Ed hr tk
  have sc := sc_Lcosts
  unfold t_Lcosts
  exact (ss_cons (s_set sc.nd (e_max1 (a_cons (e_add (e_lst (a_cons e_neg a_nil)) (e_lc rfl sc.nd (blkOk_by (own := [("_law_sight", 10)]) (by kernel_rfl)) rfl (i_seq e_var) (fun _ _ _ _ _ => pg_name (i := 10) sc.nd rfl (Or.inl rfl)) (fun _ _ _ _ _ => pts_yes) (fun _ _ _ _ _ => (e_ix e_var e_int)))) a_nil) rfl (Z.free _ fr_max)))
    (ss_cons (s_setLc rfl sc.nd (blkOk_by (own := [("_law_moment", 5)]) (by kernel_rfl)) rfl (i_rng1 (Z.free _ fr_range) (a_cons (e_add e_var e_int) a_nil)) (fun _ _ _ _ _ => pg_name (i := 5) sc.nd rfl (Or.inl rfl)) (fun _ _ _ _ _ => pts_yes) (fun _ _ _ _ _ => (e_mul (e_lst (a_cons e_int a_nil)) e_int)) (sw_true rfl rfl rfl (by decide +kernel)))
    (ss_cons (s_for hp_body rfl (i_seq e_var) (g_tup rfl (gs_cons (g_name sc.nd) (gs_cons (g_name sc.nd) (gs_cons (g_name sc.nd) gs_nil))))
    (ss_one (s_for hp_body rfl (i_rng1 (Z.free _ fr_range) (a_cons e_int a_nil)) (g_name sc.nd)
    (ss_cons (s_set sc.nd (e_callF (ok_Lhidden Z) hr (by decide) tk (a_cons (e_callF (ok_Lcolumn Z) hr (by decide) tk (a_cons e_var (a_cons (e_tup (a_cons e_var (a_cons e_var a_nil))) (a_cons e_var a_nil)))) (a_cons e_var a_nil))))
    (ss_one (s_if (w_pt (w_or (t_isN e_var) (w_or1 (t_isN (e_ix (e_ix e_var e_var) e_var)))))
    (ss_one (s_asg e_non (g_sub (e_ix e_var e_var) e_var)))
    (ss_one (s_asg (e_add (e_ix (e_ix e_var e_var) e_var) e_var) (g_sub (e_ix e_var e_var) e_var)))))))))
    (ss_one (s_ret e_var)))))
theorem sc_Lleast : FnScope ["_law_fleet_here", "_law_row", "_law_sights_here", "_law_kind", "_law_turn", "_law_lamps_here", "_law_least_here", "_law_moment", "_law_costs_here", "_law_fresh", "_law_course", "_law_cost", "_law_near", "_law_some", "_law_other", "_law_one"] ["_law_fleet_here", "_law_row", "_law_sights_here"] d_Lleast.scope := ⟨rfl, rfl, rfl, by decide +kernel, rfl, by decide +kernel, by decide +kernel⟩
theorem len_Lleast (ca : CA) : ∀ ds h Q E, sp_Lleast ca ds h Q E → ds.length = 3 := by
  rintro ds h Q E hh
  unfold sp_Lleast at hh
  repeat (first | (obtain ⟨e, _⟩ := hh; subst e; rfl) | obtain ⟨_, hh⟩ := hh)
theorem ok_Lleast (Z : Zs P w fa fn K mg base) : GotF P w K mg base "_law_least" 3 ["_law_fleet_here", "_law_row", "_law_sights_here"] (sp_Lleast (caOf K)) := by
  refine Z.fn_f 37 37 fd_Lleast gl__law_least rfl rfl rfl sc_Lleast (fun _ _ _ _ _ _ us hl => match us, hl with | [_, _, _], _ => rfl) (len_Lleast _) (t_Lleast (caOf K)) ?_ (pure_Lleast (caOf K))
  intro f cdv A outer s H E Ed hr tk
  have sc := sc_Lleast
  unfold t_Lleast
  exact (ss_cons (s_asg e_var (g_tup rfl (gs_cons (g_name sc.nd) (gs_cons (g_name sc.nd) (gs_cons (g_name sc.nd) gs_nil)))))
    (ss_cons (s_set sc.nd (e_mul (e_lst (a_cons e_int a_nil)) e_int))
    (ss_cons (s_for hp_body rfl (i_enum (Z.free _ fr_enumerate) (a_cons (e_callF (ok_Lcosts Z) hr (by decide) tk (a_cons e_var (a_cons e_var (a_cons e_var a_nil)))) a_nil)) (g_tup rfl (gs_cons (g_name sc.nd) (gs_cons (g_name sc.nd) gs_nil)))
    (ss_cons (s_set sc.nd (e_lst a_nil))
    (ss_cons (s_for hp_body rfl (i_enum (Z.free _ fr_enumerate) (a_cons e_var a_nil)) (g_tup rfl (gs_cons (g_name sc.nd) (gs_cons (g_name sc.nd) gs_nil)))
    (ss_cons (s_setLc rfl sc.nd (blkOk_by (own := [("_law_other", 14), ("_law_one", 15)]) (by kernel_rfl)) rfl (i_enum (Z.free _ fr_enumerate) (a_cons e_var a_nil)) (fun _ _ _ _ _ => tg_tup rfl (gn_cons (pg_name (i := 14) sc.nd rfl (by first | exact Or.inl rfl | exact Or.inr rfl)) (gn_cons (pg_name (i := 15) sc.nd rfl (by first | exact Or.inl rfl | exact Or.inr rfl)) gn_nil))) (fun _ _ _ _ _ => pts_if (w_pt (w_or (t_eq hr e_var e_int) (w_or1 (t_le (e_callF (ok_Lapart Z) hr (by decide) takes_none (a_cons e_var (a_cons e_var a_nil))) e_var))))) (fun _ _ _ _ _ => e_var) (sw_true rfl rfl rfl (by decide +kernel)))
    (ss_cons (s_setLc rfl sc.nd (blkOk_by (own := [("_law_one", 15)]) (by kernel_rfl)) rfl (i_seq e_var) (fun _ _ _ _ _ => pg_name (i := 15) sc.nd rfl (Or.inl rfl)) (fun _ _ _ _ _ => pts_if (t_notN e_var)) (fun _ _ _ _ _ => e_var) (sw_true rfl rfl rfl (by decide +kernel)))
    (ss_one (s_expr (e_bm PySem.F.plainAttrs_list PySem.F.slot_list_append PySem.F.type_list_append mt_append im_append e_var (a_cons (e_if (w_pt (w_and (t_ne hr e_var (e_lst a_nil)) (w_and1 (t_notN e_var)))) (e_add (e_min1 (a_cons e_var a_nil) rfl (Z.free _ fr_min)) e_var) e_non) a_nil)))))))
    (ss_one (s_set sc.nd e_var)))))
    (ss_cons (s_setLc rfl sc.nd (blkOk_by (own := [("_law_one", 15)]) (by kernel_rfl)) rfl (i_seq e_var) (fun _ _ _ _ _ => pg_name (i := 15) sc.nd rfl (Or.inl rfl)) (fun _ _ _ _ _ => pts_if (t_notN e_var)) (fun _ _ _ _ _ => e_var) (sw_true rfl rfl rfl (by decide +kernel)))
    (ss_one (s_ret (e_if (t_ne hr e_var (e_lst a_nil)) (e_min1 (a_cons e_var a_nil) rfl (Z.free _ fr_min)) e_non)))))))
theorem sc_Ldue : FnScope ["_law_fleet_here", "_law_sights_here", "_law_found", "_law_place", "_law_row", "_law_many", "_law_kind"] ["_law_fleet_here", "_law_sights_here"] d_Ldue.scope := ⟨rfl, rfl, rfl, by decide +kernel, rfl, by decide +kernel, by decide +kernel⟩
theorem len_Ldue (ca : CA) : ∀ ds h Q E, sp_Ldue ca ds h Q E → ds.length = 2 := by
  rintro ds h Q E hh
  unfold sp_Ldue at hh
  repeat (first | (obtain ⟨e, _⟩ := hh; subst e; rfl) | obtain ⟨_, hh⟩ := hh)
theorem ok_Ldue (Z : Zs P w fa fn K mg base) : GotF P w K mg base "_law_due" 4 ["_law_fleet_here", "_law_sights_here"] (sp_Ldue (caOf K)) := by
  refine Z.fn_f 38 38 fd_Ldue gl__law_due rfl rfl rfl sc_Ldue (fun _ _ _ _ _ _ us hl => match us, hl with | [_, _], _ => rfl) (len_Ldue _) (t_Ldue (caOf K)) ?_ (pure_Ldue (caOf K))
  intro f cdv A outer s H E Ed hr tk
  have sc := sc_Ldue
  unfold t_Ldue
  exact (ss_cons (s_set sc.nd (e_lst a_nil))
    (ss_cons (s_for hp_body rfl (i_enum (Z.free _ fr_enumerate) (a_cons (e_ix e_var e_int) a_nil)) (g_tup rfl (gs_cons (g_name sc.nd) (gs_cons (g_name sc.nd) gs_nil)))
    (ss_cons (s_set sc.nd (e_callF (ok_Lleast Z) hr (by decide) tk (a_cons e_var (a_cons e_var (a_cons e_var a_nil)))))
    (ss_one (s_if (t_notN e_var)
    (ss_one (s_expr (e_bm PySem.F.plainAttrs_list PySem.F.slot_list_append PySem.F.type_list_append mt_append im_append e_var (a_cons (e_tup (a_cons e_var (a_cons e_var (a_cons (e_ix e_var e_int) a_nil)))) a_nil))))
    ss_nil))))
    (ss_one (s_ret (e_lc rfl sc.nd (blkOk_by (own := [("_law_many", 5), ("_law_place", 3), ("_law_kind", 6)]) (by kernel_rfl)) rfl (i_seq (e_sortP hr (a_cons e_var a_nil) (Z.free _ fr_sorted))) (fun _ _ _ _ _ => tg_tup rfl (gn_cons (pg_name (i := 5) sc.nd rfl (by first | exact Or.inl rfl | exact Or.inr rfl)) (gn_cons (pg_name (i := 3) sc.nd rfl (by first | exact Or.inl rfl | exact Or.inr rfl)) (gn_cons (pg_name (i := 6) sc.nd rfl (by first | exact Or.inl rfl | exact Or.inr rfl)) gn_nil)))) (fun _ _ _ _ _ => pts_yes) (fun _ _ _ _ _ => (e_tup (a_cons e_var (a_cons e_var a_nil)))))))))
theorem sc_Lwhole : FnScope ["_law_thing"] ["_law_thing"] d_Lwhole.scope := ⟨rfl, rfl, rfl, by decide +kernel, rfl, by decide +kernel, by decide +kernel⟩
theorem len_Lwhole (ca : CA) : ∀ ds h Q E, sp_Lwhole ca ds h Q E → ds.length = 1 := by
  rintro ds h Q E hh
  unfold sp_Lwhole at hh
  repeat (first | (obtain ⟨e, _⟩ := hh; subst e; rfl) | obtain ⟨_, hh⟩ := hh)
theorem ok_Lwhole (Z : Zs P w fa fn K mg base) : GotF P w K mg base "_law_whole" 1 ["_law_thing"] (sp_Lwhole (caOf K)) := by
  refine Z.fn_f 32 32 fd_Lwhole gl__law_whole rfl rfl rfl sc_Lwhole (fun _ _ _ _ _ _ us hl => match us, hl with | [_], _ => rfl) (len_Lwhole _) (t_Lwhole (caOf K)) ?_ (pure_Lwhole (caOf K))
  intro f cdv A outer s H E Ed hr tk
  have sc := sc_Lwhole
  unfold t_Lwhole
  exact (ss_one (s_ret (e_and (e_isi (a_cons e_var (a_cons (e_ty rfl (Z.free _ fr_int) (by decide +kernel)) a_nil)) (Z.free _ fr_isinstance)) (e_one (e_not (e_isi (a_cons e_var (a_cons (e_ty rfl (Z.free _ fr_bool) (by decide +kernel)) a_nil)) (Z.free _ fr_isinstance)))))))
theorem sc_Fleet_kinds : FnScope ["self", "row"] ["self"] d_Fleet_kinds.scope := ⟨rfl, rfl, rfl, by decide +kernel, rfl, by decide +kernel, by decide +kernel⟩
theorem len_Fleet_kinds (ca : CA) : ∀ ds h Q E, sp_Fleet_kinds ca ds h Q E → ds.length = 1 := by
  rintro ds h Q E hh
  unfold sp_Fleet_kinds at hh
  repeat (first | (obtain ⟨e, _⟩ := hh; subst e; rfl) | obtain ⟨_, hh⟩ := hh)
theorem ok_Fleet_kinds (Z : Zs P w fa fn K mg base) : GotM P w K mg base (He.ga K "Fleet") "kinds" 1 ["self"] (sp_Fleet_kinds (caOf K)) := by
  refine Z.fn_m 50 61 63 fd_Fleet_kinds cl_Fleet mt_Fleet_kinds rfl rfl rfl sc_Fleet_kinds (fun _ _ _ _ _ _ us hl => match us, hl with | [_], _ => rfl) (len_Fleet_kinds _) (t_Fleet_kinds (caOf K)) ?_ (pure_Fleet_kinds (caOf K))
  intro f cdv A outer s H E Ed hr tk
  have sc := sc_Fleet_kinds
  unfold t_Fleet_kinds
  exact (ss_one (s_ret (e_lc rfl sc.nd (blkOk_by (own := [("row", 1)]) (by kernel_rfl)) rfl (i_seq (e_ix (e_fld (Z.cls _ cl_Fleet) (Z.noat _ na_Fleet_told) e_var) e_int)) (fun _ _ _ _ _ => pg_name (i := 1) sc.nd rfl (Or.inl rfl)) (fun _ _ _ _ _ => pts_yes) (fun _ _ _ _ _ => (e_ix e_var e_int)))))
theorem sc_Watch_fleet : FnScope ["self"] ["self"] d_Watch_fleet.scope := ⟨rfl, rfl, rfl, by decide +kernel, rfl, by decide +kernel, by decide +kernel⟩
theorem len_Watch_fleet (ca : CA) : ∀ ds h Q E, sp_Watch_fleet ca ds h Q E → ds.length = 1 := by
  rintro ds h Q E hh
  unfold sp_Watch_fleet at hh
  repeat (first | (obtain ⟨e, _⟩ := hh; subst e; rfl) | obtain ⟨_, hh⟩ := hh)
theorem ok_Watch_fleet (Z : Zs P w fa fn K mg base) : GotM P w K mg base (He.ga K "Watch") "fleet" 1 ["self"] (sp_Watch_fleet (caOf K)) := by
  refine Z.fn_m 42 52 53 fd_Watch_fleet cl_Watch mt_Watch_fleet rfl rfl rfl sc_Watch_fleet (fun _ _ _ _ _ _ us hl => match us, hl with | [_], _ => rfl) (len_Watch_fleet _) (t_Watch_fleet (caOf K)) ?_ (pure_Watch_fleet (caOf K))
  intro f cdv A outer s H E Ed hr tk
  have sc := sc_Watch_fleet
  unfold t_Watch_fleet
  exact (ss_one (s_ret (e_fld (Z.cls _ cl_Watch) (Z.noat _ na_Watch_ships) e_var)))
theorem sc_Fleet_row_of : FnScope ["self", "kind"] ["self", "kind"] d_Fleet_row_of.scope := ⟨rfl, rfl, rfl, by decide +kernel, rfl, by decide +kernel, by decide +kernel⟩
theorem len_Fleet_row_of (ca : CA) : ∀ ds h Q E, sp_Fleet_row_of ca ds h Q E → ds.length = 2 := by
  rintro ds h Q E hh
  unfold sp_Fleet_row_of at hh
  repeat (first | (obtain ⟨e, _⟩ := hh; subst e; rfl) | obtain ⟨_, hh⟩ := hh)
theorem ok_Fleet_row_of (Z : Zs P w fa fn K mg base) : GotM P w K mg base (He.ga K "Fleet") "row_of" 1 ["self", "kind"] (sp_Fleet_row_of (caOf K)) := by
  refine Z.fn_m 51 61 64 fd_Fleet_row_of cl_Fleet mt_Fleet_row_of rfl rfl rfl sc_Fleet_row_of (fun _ _ _ _ _ _ us hl => match us, hl with | [_, _], _ => rfl) (len_Fleet_row_of _) (t_Fleet_row_of (caOf K)) ?_ (pure_Fleet_row_of (caOf K))
  intro f cdv A outer s H E Ed hr tk
  have sc := sc_Fleet_row_of
  unfold t_Fleet_row_of
  exact (ss_cons (s_if (w_pt (w_or (t_not (t_val (e_isi (a_cons e_var (a_cons (e_ty rfl (Z.free _ fr_str) (by decide +kernel)) a_nil)) (Z.free _ fr_isinstance)))) (w_or1 (t_dnotIn hr e_var (e_fld (Z.cls _ cl_Fleet) (Z.noat _ na_Fleet_rows) e_var)))))
    (ss_one (s_raise (Z.exc _ _ gl_NoKind ex_NoKind) tk))
    ss_nil)
    (ss_one (s_ret (e_dget hr (e_fld (Z.cls _ cl_Fleet) (Z.noat _ na_Fleet_rows) e_var) e_var))))
theorem sc_Fleet_turn : FnScope ["self", "kind"] ["self", "kind"] d_Fleet_turn.scope := ⟨rfl, rfl, rfl, by decide +kernel, rfl, by decide +kernel, by decide +kernel⟩
theorem len_Fleet_turn (ca : CA) : ∀ ds h Q E, sp_Fleet_turn ca ds h Q E → ds.length = 2 := by
  rintro ds h Q E hh
  unfold sp_Fleet_turn at hh
  repeat (first | (obtain ⟨e, _⟩ := hh; subst e; rfl) | obtain ⟨_, hh⟩ := hh)
theorem ok_Fleet_turn (Z : Zs P w fa fn K mg base) : GotM P w K mg base (He.ga K "Fleet") "turn" 2 ["self", "kind"] (sp_Fleet_turn (caOf K)) := by
  refine Z.fn_m 52 61 65 fd_Fleet_turn cl_Fleet mt_Fleet_turn rfl rfl rfl sc_Fleet_turn (fun _ _ _ _ _ _ us hl => match us, hl with | [_, _], _ => rfl) (len_Fleet_turn _) (t_Fleet_turn (caOf K)) ?_ (pure_Fleet_turn (caOf K))
  intro f cdv A outer s H E Ed hr tk
  have sc := sc_Fleet_turn
  unfold t_Fleet_turn
  exact (ss_one (s_ret (e_ix (e_methM (ok_Fleet_row_of Z) hr (by decide) tk e_var (a_cons e_var a_nil)) e_int)))
theorem sc_Watch_last_moment : FnScope ["self", "moment", "side", "colours"] ["self"] d_Watch_last_moment.scope := ⟨rfl, rfl, rfl, by decide +kernel, rfl, by decide +kernel, by decide +kernel⟩
theorem len_Watch_last_moment (ca : CA) : ∀ ds h Q E, sp_Watch_last_moment ca ds h Q E → ds.length = 1 := by
  rintro ds h Q E hh
  unfold sp_Watch_last_moment at hh
  repeat (first | (obtain ⟨e, _⟩ := hh; subst e; rfl) | obtain ⟨_, hh⟩ := hh)
theorem ok_Watch_last_moment (Z : Zs P w fa fn K mg base) : GotM P w K mg base (He.ga K "Watch") "last_moment" 1 ["self"] (sp_Watch_last_moment (caOf K)) := by
  refine Z.fn_m 45 52 56 fd_Watch_last_moment cl_Watch mt_Watch_last_moment rfl rfl rfl sc_Watch_last_moment (fun _ _ _ _ _ _ us hl => match us, hl with | [_], _ => rfl) (len_Watch_last_moment _) (t_Watch_last_moment (caOf K)) ?_ (pure_Watch_last_moment (caOf K))
  intro f cdv A outer s H E Ed hr tk
  have sc := sc_Watch_last_moment
  unfold t_Watch_last_moment
  exact (ss_one (s_ret (e_maxN hr rfl (a_cons (e_lc rfl sc.nd (blkOk_by (own := [("moment", 1), ("side", 2), ("colours", 3)]) (by kernel_rfl)) rfl (i_seq (e_fld (Z.cls _ cl_Watch) (Z.noat _ na_Watch_kept) e_var)) (fun _ _ _ _ _ => tg_tup rfl (gn_cons (pg_name (i := 1) sc.nd rfl (by first | exact Or.inl rfl | exact Or.inr rfl)) (gn_cons (pg_name (i := 2) sc.nd rfl (by first | exact Or.inl rfl | exact Or.inr rfl)) (gn_cons (pg_name (i := 3) sc.nd rfl (by first | exact Or.inl rfl | exact Or.inr rfl)) gn_nil)))) (fun _ _ _ _ _ => pts_yes) (fun _ _ _ _ _ => e_var)) a_nil) (Z.free _ fr_max) (hg := by rfl) (kw := _) (hk := pk_cons pe_non pk_nil))))
theorem sc_Watch_sights : FnScope ["self"] ["self"] d_Watch_sights.scope := ⟨rfl, rfl, rfl, by decide +kernel, rfl, by decide +kernel, by decide +kernel⟩
theorem len_Watch_sights (ca : CA) : ∀ ds h Q E, sp_Watch_sights ca ds h Q E → ds.length = 1 := by
  rintro ds h Q E hh
  unfold sp_Watch_sights at hh
  repeat (first | (obtain ⟨e, _⟩ := hh; subst e; rfl) | obtain ⟨_, hh⟩ := hh)
theorem ok_Watch_sights (Z : Zs P w fa fn K mg base) : GotM P w K mg base (He.ga K "Watch") "sights" 1 ["self"] (sp_Watch_sights (caOf K)) := by
  refine Z.fn_m 44 52 55 fd_Watch_sights cl_Watch mt_Watch_sights rfl rfl rfl sc_Watch_sights (fun _ _ _ _ _ _ us hl => match us, hl with | [_], _ => rfl) (len_Watch_sights _) (t_Watch_sights (caOf K)) ?_ (pure_Watch_sights (caOf K))
  intro f cdv A outer s H E Ed hr tk
  have sc := sc_Watch_sights
  unfold t_Watch_sights
  exact (ss_one (s_ret (e_list (a_cons (e_fld (Z.cls _ cl_Watch) (Z.noat _ na_Watch_kept) e_var) a_nil) (Z.free _ fr_list))))
theorem sc_by_moments : FnScope ["watch", "last", "found", "sight", "moment"] ["watch"] d_by_moments.scope := ⟨rfl, rfl, rfl, by decide +kernel, rfl, by decide +kernel, by decide +kernel⟩
theorem len_by_moments (ca : CA) : ∀ ds h Q E, sp_by_moments ca ds h Q E → ds.length = 1 := by
  rintro ds h Q E hh
  unfold sp_by_moments at hh
  repeat (first | (obtain ⟨e, _⟩ := hh; subst e; rfl) | obtain ⟨_, hh⟩ := hh)
theorem ok_by_moments (Z : Zs P w fa fn K mg base) : GotF P w K mg base "by_moments" 2 ["watch"] (sp_by_moments (caOf K)) := by
  refine Z.fn_f 12 12 fd_by_moments gl_by_moments rfl rfl rfl sc_by_moments (fun _ _ _ _ _ _ us hl => match us, hl with | [_], _ => rfl) (len_by_moments _) (t_by_moments (caOf K)) ?_ (pure_by_moments (caOf K))
  intro f cdv A outer s H E Ed hr tk
  have sc := sc_by_moments
  unfold t_by_moments
  exact (ss_cons (s_set sc.nd (e_methM0 (ok_Watch_last_moment Z) hr (by decide) tk e_var))
    (ss_cons (s_set sc.nd (e_if (t_isN e_var) (e_lst a_nil) (e_lc rfl sc.nd (blkOk_by (own := [("moment", 4)]) (by kernel_rfl)) rfl (i_rng1 (Z.free _ fr_range) (a_cons (e_add e_var e_int) a_nil)) (fun _ _ _ _ _ => pg_name (i := 4) sc.nd rfl (Or.inl rfl)) (fun _ _ _ _ _ => pts_yes) (fun _ _ _ _ _ => (e_lst a_nil)))))
    (ss_cons (s_for hp_body rfl (i_seq (e_methM0 (ok_Watch_sights Z) hr (by decide) tk e_var)) (g_name sc.nd)
    (ss_one (s_expr (e_bm PySem.F.plainAttrs_list PySem.F.slot_list_append PySem.F.type_list_append mt_append im_append (e_ix e_var (e_ix e_var e_int)) (a_cons e_var a_nil)))))
    (ss_one (s_ret e_var)))))
theorem sc_left_out : FnScope ["whole", "part", "at", "colour"] ["whole", "part"] d_left_out.scope := ⟨rfl, rfl, rfl, by decide +kernel, rfl, by decide +kernel, by decide +kernel⟩
theorem len_left_out (ca : CA) : ∀ ds h Q E, sp_left_out ca ds h Q E → ds.length = 2 := by
  rintro ds h Q E hh
  unfold sp_left_out at hh
  repeat (first | (obtain ⟨e, _⟩ := hh; subst e; rfl) | obtain ⟨_, hh⟩ := hh)
theorem ok_left_out (Z : Zs P w fa fn K mg base) : GotF P w K mg base "left_out" 1 ["whole", "part"] (sp_left_out (caOf K)) := by
  refine Z.fn_f 10 10 fd_left_out gl_left_out rfl rfl rfl sc_left_out (fun _ _ _ _ _ _ us hl => match us, hl with | [_, _], _ => rfl) (len_left_out _) (t_left_out (caOf K)) ?_ (pure_left_out (caOf K))
  intro f cdv A outer s H E Ed hr tk
  have sc := sc_left_out
  unfold t_left_out
  exact (ss_cons (s_set sc.nd e_int)
    (ss_cons (s_for hp_body rfl (i_seq e_var) (g_name sc.nd)
    (ss_one (s_if (w_pt (w_and (t_lt e_var (e_len (a_cons e_var a_nil) (Z.free _ fr_len))) (w_and1 (t_eq hr (e_ix e_var e_var) e_var))))
    (ss_one (s_set sc.nd (e_add e_var e_int)))
    ss_nil)))
    (ss_one (s_ret (e_if (t_eq hr e_var (e_len (a_cons e_var a_nil) (Z.free _ fr_len))) (e_sub (e_len (a_cons e_var a_nil) (Z.free _ fr_len)) (e_len (a_cons e_var a_nil) (Z.free _ fr_len))) e_non)))))
end Dl
end
section
namespace Dl
open PySem PySem.Spec PyProof.Rows L2
variable {P : Program} {w : World} {K : PySem.W.Frag} {mg : Str → Option Value} {base : Heap}
theorem sc_is_among : FnScope ["thing", "least", "most"] ["thing", "least", "most"] d_is_among.scope := ⟨rfl, rfl, rfl, by decide +kernel, rfl, by decide +kernel, by decide +kernel⟩
theorem len_is_among (ca : CA) : ∀ ds h Q E, sp_is_among ca ds h Q E → ds.length = 3 := by
  rintro ds h Q E hh
  unfold sp_is_among at hh
  repeat (first | (obtain ⟨e, _⟩ := hh; subst e; rfl) | obtain ⟨_, hh⟩ := hh)
theorem ok_is_among (Z : Zs P w fa fn K mg base) : GotF P w K mg base "is_among" 1 ["thing", "least", "most"] (sp_is_among (caOf K)) := by
  refine Z.fn_f 0 0 fd_is_among gl_is_among rfl rfl rfl sc_is_among (fun _ _ _ _ _ _ us hl => match us, hl with | [_, _, _], _ => rfl) (len_is_among _) (t_is_among (caOf K)) ?_ (pure_is_among (caOf K))
  intro f cdv A outer s H E Ed hr tk
  have sc := sc_is_among
  unfold t_is_among
  exact (ss_one (s_ret (e_and (e_isi (a_cons e_var (a_cons (e_ty rfl (Z.free _ fr_int) (by decide +kernel)) a_nil)) (Z.free _ fr_isinstance)) (e_and (e_not (e_isi (a_cons e_var (a_cons (e_ty rfl (Z.free _ fr_bool) (by decide +kernel)) a_nil)) (Z.free _ fr_isinstance))) (e_one (e_leLe e_var e_var e_var))))))
theorem sc_is_point : FnScope ["thing"] ["thing"] d_is_point.scope := ⟨rfl, rfl, rfl, by decide +kernel, rfl, by decide +kernel, by decide +kernel⟩
theorem len_is_point (ca : CA) : ∀ ds h Q E, sp_is_point ca ds h Q E → ds.length = 1 := by
  rintro ds h Q E hh
  unfold sp_is_point at hh
  repeat (first | (obtain ⟨e, _⟩ := hh; subst e; rfl) | obtain ⟨_, hh⟩ := hh)
theorem ok_is_point (Z : Zs P w fa fn K mg base) : GotF P w K mg base "is_point" 2 ["thing"] (sp_is_point (caOf K)) := by
  refine Z.fn_f 1 1 fd_is_point gl_is_point rfl rfl rfl sc_is_point (fun _ _ _ _ _ _ us hl => match us, hl with | [_], _ => rfl) (len_is_point _) (t_is_point (caOf K)) ?_ (pure_is_point (caOf K))
  intro f cdv A outer s H E Ed hr tk
  have sc := sc_is_point
  unfold t_is_point
  exact (ss_one (s_ret (e_callF (ok_is_among Z) hr (by decide) tk (a_cons e_var (a_cons e_int (a_cons (e_sub (e_gint (Z.int _ in_POINTS_columns)) e_int) a_nil))))))
theorem sc_need_point : FnScope ["thing"] ["thing"] d_need_point.scope := ⟨rfl, rfl, rfl, by decide +kernel, rfl, by decide +kernel, by decide +kernel⟩
theorem len_need_point (ca : CA) : ∀ ds h Q E, sp_need_point ca ds h Q E → ds.length = 1 := by
  rintro ds h Q E hh
  unfold sp_need_point at hh
  repeat (first | (obtain ⟨e, _⟩ := hh; subst e; rfl) | obtain ⟨_, hh⟩ := hh)
theorem ok_need_point (Z : Zs P w fa fn K mg base) : GotF P w K mg base "need_point" 3 ["thing"] (sp_need_point (caOf K)) := by
  refine Z.fn_f 2 2 fd_need_point gl_need_point rfl rfl rfl sc_need_point (fun _ _ _ _ _ _ us hl => match us, hl with | [_], _ => rfl) (len_need_point _) (t_need_point (caOf K)) ?_ (pure_need_point (caOf K))
  intro f cdv A outer s H E Ed hr tk
  have sc := sc_need_point
  unfold t_need_point
  exact (ss_one (s_if (t_not (t_val (e_callF (ok_is_point Z) hr (by decide) tk (a_cons e_var a_nil))))
    (ss_one (s_raise (Z.exc _ _ gl_BadPoint ex_BadPoint) tk))
    ss_nil))
theorem sc_is_column : FnScope ["fleet", "thing", "colours", "colour"] ["fleet", "thing"] d_is_column.scope := ⟨rfl, rfl, rfl, by decide +kernel, rfl, by decide +kernel, by decide +kernel⟩
theorem len_is_column (ca : CA) : ∀ ds h Q E, sp_is_column ca ds h Q E → ds.length = 2 := by
  rintro ds h Q E hh
  unfold sp_is_column at hh
  repeat (first | (obtain ⟨e, _⟩ := hh; subst e; rfl) | obtain ⟨_, hh⟩ := hh)
theorem ok_is_column (Z : Zs P w fa fn K mg base) : GotF P w K mg base "is_column" 2 ["fleet", "thing"] (sp_is_column (caOf K)) := by
  refine Z.fn_f 7 7 fd_is_column gl_is_column rfl rfl rfl sc_is_column (fun _ _ _ _ _ _ us hl => match us, hl with | [_, _], _ => rfl) (len_is_column _) (t_is_column (caOf K)) ?_ (pure_is_column (caOf K))
  intro f cdv A outer s H E Ed hr tk
  have sc := sc_is_column
  unfold t_is_column
  exact (ss_cons (s_if (w_pt (w_or (t_not (t_val (e_isi (a_cons e_var (a_cons (e_ty rfl (Z.free _ fr_tuple) (by decide +kernel)) a_nil)) (Z.free _ fr_isinstance)))) (w_or1 (t_gt (e_len (a_cons e_var a_nil) (Z.free _ fr_len)) (e_gint (Z.int _ in_MOST_COLOURS))))))
    (ss_one (s_ret e_bl))
    ss_nil)
    (ss_cons (s_set sc.nd (e_ix (e_methM0 (ok_Fleet_plain Z) hr (by decide) tk e_var) e_int))
    (ss_one (s_ret (e_all (a_cons (e_lc rfl sc.nd (blkOk_by (own := [("colour", 3)]) (by kernel_rfl)) rfl (i_seq e_var) (fun _ _ _ _ _ => pg_name (i := 3) sc.nd rfl (Or.inl rfl)) (fun _ _ _ _ _ => pts_yes) (fun _ _ _ _ _ => (e_and (e_isi (a_cons e_var (a_cons (e_ty rfl (Z.free _ fr_str) (by decide +kernel)) a_nil)) (Z.free _ fr_isinstance)) (e_one (e_in e_var e_var))))) a_nil) rfl (Z.free _ fr_all))))))
theorem sc_is_moment : FnScope ["thing"] ["thing"] d_is_moment.scope := ⟨rfl, rfl, rfl, by decide +kernel, rfl, by decide +kernel, by decide +kernel⟩
theorem len_is_moment (ca : CA) : ∀ ds h Q E, sp_is_moment ca ds h Q E → ds.length = 1 := by
  rintro ds h Q E hh
  unfold sp_is_moment at hh
  repeat (first | (obtain ⟨e, _⟩ := hh; subst e; rfl) | obtain ⟨_, hh⟩ := hh)
theorem ok_is_moment (Z : Zs P w fa fn K mg base) : GotF P w K mg base "is_moment" 2 ["thing"] (sp_is_moment (caOf K)) := by
  refine Z.fn_f 6 6 fd_is_moment gl_is_moment rfl rfl rfl sc_is_moment (fun _ _ _ _ _ _ us hl => match us, hl with | [_], _ => rfl) (len_is_moment _) (t_is_moment (caOf K)) ?_ (pure_is_moment (caOf K))
  intro f cdv A outer s H E Ed hr tk
  have sc := sc_is_moment
  unfold t_is_moment
  exact (ss_one (s_ret (e_callF (ok_is_among Z) hr (by decide) tk (a_cons e_var (a_cons e_int (a_cons (e_gint (Z.int _ in_LAST_MOMENT)) a_nil))))))
theorem sc_is_sight : FnScope ["fleet", "thing"] ["fleet", "thing"] d_is_sight.scope := ⟨rfl, rfl, rfl, by decide +kernel, rfl, by decide +kernel, by decide +kernel⟩
theorem len_is_sight (ca : CA) : ∀ ds h Q E, sp_is_sight ca ds h Q E → ds.length = 2 := by
  rintro ds h Q E hh
  unfold sp_is_sight at hh
  repeat (first | (obtain ⟨e, _⟩ := hh; subst e; rfl) | obtain ⟨_, hh⟩ := hh)
theorem ok_is_sight (Z : Zs P w fa fn K mg base) : GotF P w K mg base "is_sight" 3 ["fleet", "thing"] (sp_is_sight (caOf K)) := by
  refine Z.fn_f 8 8 fd_is_sight gl_is_sight rfl rfl rfl sc_is_sight (fun _ _ _ _ _ _ us hl => match us, hl with | [_, _], _ => rfl) (len_is_sight _) (t_is_sight (caOf K)) ?_ (pure_is_sight (caOf K))
  intro f cdv A outer s H E Ed hr tk
  have sc := sc_is_sight
  unfold t_is_sight
  exact (ss_cons (s_if (w_pt (w_or (t_not (t_val (e_isi (a_cons e_var (a_cons (e_ty rfl (Z.free _ fr_tuple) (by decide +kernel)) a_nil)) (Z.free _ fr_isinstance)))) (w_or1 (t_ne hr (e_len (a_cons e_var a_nil) (Z.free _ fr_len)) e_int))))
    (ss_one (s_ret e_bl))
    ss_nil)
    (ss_one (s_ret (e_and (e_callF (ok_is_moment Z) hr (by decide) tk (a_cons (e_ix e_var e_int) a_nil)) (e_and (e_callF (ok_is_point Z) hr (by decide) tk (a_cons (e_ix e_var e_int) a_nil)) (e_one (e_callF (ok_is_column Z) hr (by decide) tk (a_cons e_var (a_cons (e_ix e_var e_int) a_nil)))))))))
theorem sc_need_sight : FnScope ["fleet", "thing"] ["fleet", "thing"] d_need_sight.scope := ⟨rfl, rfl, rfl, by decide +kernel, rfl, by decide +kernel, by decide +kernel⟩
theorem len_need_sight (ca : CA) : ∀ ds h Q E, sp_need_sight ca ds h Q E → ds.length = 2 := by
  rintro ds h Q E hh
  unfold sp_need_sight at hh
  repeat (first | (obtain ⟨e, _⟩ := hh; subst e; rfl) | obtain ⟨_, hh⟩ := hh)
theorem ok_need_sight (Z : Zs P w fa fn K mg base) : GotF P w K mg base "need_sight" 4 ["fleet", "thing"] (sp_need_sight (caOf K)) := by
  refine Z.fn_f 9 9 fd_need_sight gl_need_sight rfl rfl rfl sc_need_sight (fun _ _ _ _ _ _ us hl => match us, hl with | [_, _], _ => rfl) (len_need_sight _) (t_need_sight (caOf K)) ?_ (pure_need_sight (caOf K))
  intro f cdv A outer s H E Ed hr tk
  have sc := sc_need_sight
  unfold t_need_sight
  exact (ss_one (s_if (t_not (t_val (e_callF (ok_is_sight Z) hr (by decide) tk (a_cons e_var (a_cons e_var a_nil)))))
    (ss_one (s_raise (Z.exc _ _ gl_BadSight ex_BadSight) tk))
    ss_nil))
theorem sc_Fleet_lamps : FnScope ["self", "kind"] ["self", "kind"] d_Fleet_lamps.scope := ⟨rfl, rfl, rfl, by decide +kernel, rfl, by decide +kernel, by decide +kernel⟩
theorem len_Fleet_lamps (ca : CA) : ∀ ds h Q E, sp_Fleet_lamps ca ds h Q E → ds.length = 2 := by
  rintro ds h Q E hh
  unfold sp_Fleet_lamps at hh
  repeat (first | (obtain ⟨e, _⟩ := hh; subst e; rfl) | obtain ⟨_, hh⟩ := hh)
theorem ok_Fleet_lamps (Z : Zs P w fa fn K mg base) : GotM P w K mg base (He.ga K "Fleet") "lamps" 2 ["self", "kind"] (sp_Fleet_lamps (caOf K)) := by
  refine Z.fn_m 53 61 66 fd_Fleet_lamps cl_Fleet mt_Fleet_lamps rfl rfl rfl sc_Fleet_lamps (fun _ _ _ _ _ _ us hl => match us, hl with | [_, _], _ => rfl) (len_Fleet_lamps _) (t_Fleet_lamps (caOf K)) ?_ (pure_Fleet_lamps (caOf K))
  intro f cdv A outer s H E Ed hr tk
  have sc := sc_Fleet_lamps
  unfold t_Fleet_lamps
  exact (ss_one (s_ret (e_list (a_cons (e_ix (e_methM (ok_Fleet_row_of Z) hr (by decide) tk e_var (a_cons e_var a_nil)) e_int) a_nil) (Z.free _ fr_list))))
theorem sc_shows : FnScope ["lamp", "bearing", "colour", "first", "last"] ["lamp", "bearing"] d_shows.scope := ⟨rfl, rfl, rfl, by decide +kernel, rfl, by decide +kernel, by decide +kernel⟩
theorem len_shows (ca : CA) : ∀ ds h Q E, sp_shows ca ds h Q E → ds.length = 2 := by
  rintro ds h Q E hh
  unfold sp_shows at hh
  repeat (first | (obtain ⟨e, _⟩ := hh; subst e; rfl) | obtain ⟨_, hh⟩ := hh)
theorem ok_shows (Z : Zs P w fa fn K mg base) : GotF P w K mg base "shows" 1 ["lamp", "bearing"] (sp_shows (caOf K)) := by
  refine Z.fn_f 3 3 fd_shows gl_shows rfl rfl rfl sc_shows (fun _ _ _ _ _ _ us hl => match us, hl with | [_, _], _ => rfl) (len_shows _) (t_shows (caOf K)) ?_ (pure_shows (caOf K))
  intro f cdv A outer s H E Ed hr tk
  have sc := sc_shows
  unfold t_shows
  exact (ss_cons (s_asg e_var (g_tup rfl (gs_cons (g_name sc.nd) (gs_cons (g_name sc.nd) (gs_cons (g_name sc.nd) gs_nil)))))
    (ss_one (s_ret (e_le (e_mod (e_sub e_var e_var) (e_gint (Z.int _ in_POINTS_columns))) (e_mod (e_sub e_var e_var) (e_gint (Z.int _ in_POINTS_columns)))))))
theorem sc_column : FnScope ["fleet", "kind", "bearing", "lamps", "lamp"] ["fleet", "kind", "bearing"] d_column.scope := ⟨rfl, rfl, rfl, by decide +kernel, rfl, by decide +kernel, by decide +kernel⟩
theorem len_column (ca : CA) : ∀ ds h Q E, sp_column ca ds h Q E → ds.length = 3 := by
  rintro ds h Q E hh
  unfold sp_column at hh
  repeat (first | (obtain ⟨e, _⟩ := hh; subst e; rfl) | obtain ⟨_, hh⟩ := hh)
theorem ok_column (Z : Zs P w fa fn K mg base) : GotF P w K mg base "column" 4 ["fleet", "kind", "bearing"] (sp_column (caOf K)) := by
  refine Z.fn_f 4 4 fd_column gl_column rfl rfl rfl sc_column (fun _ _ _ _ _ _ us hl => match us, hl with | [_, _, _], _ => rfl) (len_column _) (t_column (caOf K)) ?_ (pure_column (caOf K))
  intro f cdv A outer s H E Ed hr tk
  have sc := sc_column
  unfold t_column
  exact (ss_cons (s_set sc.nd (e_methM (ok_Fleet_lamps Z) hr (by decide) tk e_var (a_cons e_var a_nil)))
    (ss_cons (s_expr (e_callF (ok_need_point Z) hr (by decide) tk (a_cons e_var a_nil)))
    (ss_one (s_ret (e_tuple (a_cons (e_lc rfl sc.nd (blkOk_by (own := [("lamp", 4)]) (by kernel_rfl)) rfl (i_seq e_var) (fun _ _ _ _ _ => pg_name (i := 4) sc.nd rfl (Or.inl rfl)) (fun _ _ _ _ _ => pts_if (t_val (e_callF (ok_shows Z) hr (by decide) takes_none (a_cons e_var (a_cons e_var a_nil))))) (fun _ _ _ _ _ => (e_ix e_var e_int))) a_nil) (Z.free _ fr_tuple))))))
theorem sc_seen : FnScope ["fleet", "kind", "course", "side"] ["fleet", "kind", "course", "side"] d_seen.scope := ⟨rfl, rfl, rfl, by decide +kernel, rfl, by decide +kernel, by decide +kernel⟩
theorem len_seen (ca : CA) : ∀ ds h Q E, sp_seen ca ds h Q E → ds.length = 4 := by
  rintro ds h Q E hh
  unfold sp_seen at hh
  repeat (first | (obtain ⟨e, _⟩ := hh; subst e; rfl) | obtain ⟨_, hh⟩ := hh)
theorem ok_seen (Z : Zs P w fa fn K mg base) : GotF P w K mg base "seen" 5 ["fleet", "kind", "course", "side"] (sp_seen (caOf K)) := by
  refine Z.fn_f 5 5 fd_seen gl_seen rfl rfl rfl sc_seen (fun _ _ _ _ _ _ us hl => match us, hl with | [_, _, _, _], _ => rfl) (len_seen _) (t_seen (caOf K)) ?_ (pure_seen (caOf K))
  intro f cdv A outer s H E Ed hr tk
  have sc := sc_seen
  unfold t_seen
  exact (ss_cons (s_expr (e_methM (ok_Fleet_turn Z) hr (by decide) tk e_var (a_cons e_var a_nil)))
    (ss_cons (s_expr (e_callF (ok_need_point Z) hr (by decide) tk (a_cons e_var a_nil)))
    (ss_cons (s_expr (e_callF (ok_need_point Z) hr (by decide) tk (a_cons e_var a_nil)))
    (ss_one (s_ret (e_callF (ok_column Z) hr (by decide) tk (a_cons e_var (a_cons e_var (a_cons (e_mod (e_sub e_var e_var) (e_gint (Z.int _ in_POINTS_columns))) a_nil)))))))))
theorem sc_hides : FnScope ["fleet", "kind", "course", "sight"] ["fleet", "kind", "course", "sight"] d_hides.scope := ⟨rfl, rfl, rfl, by decide +kernel, rfl, by decide +kernel, by decide +kernel⟩
theorem len_hides (ca : CA) : ∀ ds h Q E, sp_hides ca ds h Q E → ds.length = 4 := by
  rintro ds h Q E hh
  unfold sp_hides at hh
  repeat (first | (obtain ⟨e, _⟩ := hh; subst e; rfl) | obtain ⟨_, hh⟩ := hh)
theorem ok_hides (Z : Zs P w fa fn K mg base) : GotF P w K mg base "hides" 6 ["fleet", "kind", "course", "sight"] (sp_hides (caOf K)) := by
  refine Z.fn_f 11 11 fd_hides gl_hides rfl rfl rfl sc_hides (fun _ _ _ _ _ _ us hl => match us, hl with | [_, _, _, _], _ => rfl) (len_hides _) (t_hides (caOf K)) ?_ (pure_hides (caOf K))
  intro f cdv A outer s H E Ed hr tk
  have sc := sc_hides
  unfold t_hides
  exact (ss_cons (s_expr (e_methM (ok_Fleet_turn Z) hr (by decide) tk e_var (a_cons e_var a_nil)))
    (ss_cons (s_expr (e_callF (ok_need_point Z) hr (by decide) tk (a_cons e_var a_nil)))
    (ss_cons (s_expr (e_callF (ok_need_sight Z) hr (by decide) tk (a_cons e_var (a_cons e_var a_nil))))
    (ss_one (s_ret (e_callF (ok_left_out Z) hr (by decide) tk (a_cons (e_callF (ok_seen Z) hr (by decide) tk (a_cons e_var (a_cons e_var (a_cons e_var (a_cons (e_ix e_var e_int) a_nil))))) (a_cons (e_ix e_var e_int) a_nil))))))))
end Dl
end
section
namespace Dl
open PySem PySem.Spec PyProof.Rows L2
variable {P : Program} {w : World} {K : PySem.W.Frag} {mg : Str → Option Value} {base : Heap}
theorem sc_cost_of : FnScope ["fleet", "kind", "course", "sights", "found", "sight", "hidden"] ["fleet", "kind", "course", "sights"] d_cost_of.scope := ⟨rfl, rfl, rfl, by decide +kernel, rfl, by decide +kernel, by decide +kernel⟩
theorem len_cost_of (ca : CA) : ∀ ds h Q E, sp_cost_of ca ds h Q E → ds.length = 4 := by
  rintro ds h Q E hh
  unfold sp_cost_of at hh
  repeat (first | (obtain ⟨e, _⟩ := hh; subst e; rfl) | obtain ⟨_, hh⟩ := hh)
theorem ok_cost_of (Z : Zs P w fa fn K mg base) : GotF P w K mg base "cost_of" 7 ["fleet", "kind", "course", "sights"] (sp_cost_of (caOf K)) := by
  refine Z.fn_f 13 13 fd_cost_of gl_cost_of rfl rfl rfl sc_cost_of (fun _ _ _ _ _ _ us hl => match us, hl with | [_, _, _, _], _ => rfl) (len_cost_of _) (t_cost_of (caOf K)) ?_ (pure_cost_of (caOf K))
  intro f cdv A outer s H E Ed hr tk
  have sc := sc_cost_of
  unfold t_cost_of
  exact (ss_cons (s_set sc.nd e_int)
    (ss_cons (s_for hp_body rfl (i_seq e_var) (g_name sc.nd)
    (ss_cons (s_set sc.nd (e_callF (ok_hides Z) hr (by decide) tk (a_cons e_var (a_cons e_var (a_cons e_var (a_cons e_var a_nil))))))
    (ss_cons (s_if (t_isN e_var)
    (ss_one (s_ret e_non))
    ss_nil)
    (ss_one (s_set sc.nd (e_add e_var e_var))))))
    (ss_one (s_ret e_var))))
theorem sc_costs_of : FnScope ["watch", "kind", "fleet", "some", "course"] ["watch", "kind"] d_costs_of.scope := ⟨rfl, rfl, rfl, by decide +kernel, rfl, by decide +kernel, by decide +kernel⟩
theorem len_costs_of (ca : CA) : ∀ ds h Q E, sp_costs_of ca ds h Q E → ds.length = 2 := by
  rintro ds h Q E hh
  unfold sp_costs_of at hh
  repeat (first | (obtain ⟨e, _⟩ := hh; subst e; rfl) | obtain ⟨_, hh⟩ := hh)
theorem ok_costs_of (Z : Zs P w fa fn K mg base) : GotF P w K mg base "costs_of" 8 ["watch", "kind"] (sp_costs_of (caOf K)) := by
  refine Z.fn_f 14 14 fd_costs_of gl_costs_of rfl rfl rfl sc_costs_of (fun _ _ _ _ _ _ us hl => match us, hl with | [_, _], _ => rfl) (len_costs_of _) (t_costs_of (caOf K)) ?_ (pure_costs_of (caOf K))
  intro f cdv A outer s H E Ed hr tk
  have sc := sc_costs_of
  unfold t_costs_of
  exact (ss_cons (s_set sc.nd (e_methM0 (ok_Watch_fleet Z) hr (by decide) tk e_var))
    (ss_one (s_ret (e_lc rfl sc.nd (blkOk_by (own := [("some", 3)]) (by kernel_rfl)) rfl (i_seq (e_callF (ok_by_moments Z) hr (by decide) tk (a_cons e_var a_nil))) (fun _ _ _ _ _ => pg_name (i := 3) sc.nd rfl (Or.inr rfl)) (fun _ _ _ _ _ => pts_yes) (fun _ _ _ _ _ => (e_lc rfl sc.nd (blkOk_by (own := [("course", 4)]) (by kernel_rfl)) rfl (i_rng1 (Z.free _ fr_range) (a_cons (e_gint (Z.int _ in_POINTS_histories)) a_nil)) (fun _ _ _ _ _ => pg_name (i := 4) sc.nd rfl (Or.inl rfl)) (fun _ _ _ _ _ => pts_yes) (fun _ _ _ _ _ => (e_callF (ok_cost_of Z) hr (by decide) takes_none (a_cons e_var (a_cons e_var (a_cons e_var (a_cons e_var a_nil))))))))))))
theorem sc_near_ones : FnScope ["course", "turn", "step"] ["course", "turn"] d_near_ones.scope := ⟨rfl, rfl, rfl, by decide +kernel, rfl, by decide +kernel, by decide +kernel⟩
theorem len_near_ones (ca : CA) : ∀ ds h Q E, sp_near_ones ca ds h Q E → ds.length = 2 := by
  rintro ds h Q E hh
  unfold sp_near_ones at hh
  repeat (first | (obtain ⟨e, _⟩ := hh; subst e; rfl) | obtain ⟨_, hh⟩ := hh)
theorem ok_near_ones (Z : Zs P w fa fn K mg base) : GotF P w K mg base "near_ones" 1 ["course", "turn"] (sp_near_ones (caOf K)) := by
  refine Z.fn_f 15 15 fd_near_ones gl_near_ones rfl rfl rfl sc_near_ones (fun _ _ _ _ _ _ us hl => match us, hl with | [_, _], _ => rfl) (len_near_ones _) (t_near_ones (caOf K)) ?_ (pure_near_ones (caOf K))
  intro f cdv A outer s H E Ed hr tk
  have sc := sc_near_ones
  unfold t_near_ones
  exact (ss_one (s_ret (e_sos rfl (e_lc rfl sc.nd (blkOk_by (own := [("step", 2)]) (by kernel_rfl)) rfl (i_rng2 (Z.free _ fr_range) (a_cons (e_sub e_int e_var) (a_cons (e_add e_var e_int) a_nil))) (fun _ _ _ _ _ => pg_name (i := 2) sc.nd rfl (Or.inl rfl)) (fun _ _ _ _ _ => pts_yes) (fun _ _ _ _ _ => (e_mod (e_add e_var e_var) (e_gint (Z.int _ in_POINTS_histories))))) (Z.free _ fr_sorted) (Z.free _ fr_set))))
theorem sc_least_near : FnScope ["row", "course", "turn", "some", "other"] ["row", "course", "turn"] d_least_near.scope := ⟨rfl, rfl, rfl, by decide +kernel, rfl, by decide +kernel, by decide +kernel⟩
theorem len_least_near (ca : CA) : ∀ ds h Q E, sp_least_near ca ds h Q E → ds.length = 3 := by
  rintro ds h Q E hh
  unfold sp_least_near at hh
  repeat (first | (obtain ⟨e, _⟩ := hh; subst e; rfl) | obtain ⟨_, hh⟩ := hh)
theorem ok_least_near (Z : Zs P w fa fn K mg base) : GotF P w K mg base "least_near" 2 ["row", "course", "turn"] (sp_least_near (caOf K)) := by
  refine Z.fn_f 16 16 fd_least_near gl_least_near rfl rfl rfl sc_least_near (fun _ _ _ _ _ _ us hl => match us, hl with | [_, _, _], _ => rfl) (len_least_near _) (t_least_near (caOf K)) ?_ (pure_least_near (caOf K))
  intro f cdv A outer s H E Ed hr tk
  have sc := sc_least_near
  unfold t_least_near
  exact (ss_cons (s_setLc rfl sc.nd (blkOk_by (own := [("other", 4)]) (by kernel_rfl)) rfl (i_seq (e_callF (ok_near_ones Z) hr (by decide) tk (a_cons e_var (a_cons e_var a_nil)))) (fun _ _ _ _ _ => pg_name (i := 4) sc.nd rfl (Or.inl rfl)) (fun _ _ _ _ _ => pts_if (t_notN (e_ix e_var e_var))) (fun _ _ _ _ _ => (e_ix e_var e_var)) (sw_true rfl rfl rfl (by decide +kernel)))
    (ss_one (s_ret (e_if (t_ne hr e_var (e_lst a_nil)) (e_min1 (a_cons e_var a_nil) rfl (Z.free _ fr_min)) e_non))))
theorem sc_row_behind : FnScope ["row", "costs", "turn", "found", "course", "cost", "least"] ["row", "costs", "turn"] d_row_behind.scope := ⟨rfl, rfl, rfl, by decide +kernel, rfl, by decide +kernel, by decide +kernel⟩
theorem len_row_behind (ca : CA) : ∀ ds h Q E, sp_row_behind ca ds h Q E → ds.length = 3 := by
  rintro ds h Q E hh
  unfold sp_row_behind at hh
  repeat (first | (obtain ⟨e, _⟩ := hh; subst e; rfl) | obtain ⟨_, hh⟩ := hh)
theorem ok_row_behind (Z : Zs P w fa fn K mg base) : GotF P w K mg base "row_behind" 3 ["row", "costs", "turn"] (sp_row_behind (caOf K)) := by
  refine Z.fn_f 17 17 fd_row_behind gl_row_behind rfl rfl rfl sc_row_behind (fun _ _ _ _ _ _ us hl => match us, hl with | [_, _, _], _ => rfl) (len_row_behind _) (t_row_behind (caOf K)) ?_ (pure_row_behind (caOf K))
  intro f cdv A outer s H E Ed hr tk
  have sc := sc_row_behind
  unfold t_row_behind
  exact (ss_cons (s_set sc.nd (e_lst a_nil))
    (ss_cons (s_for hp_body rfl (i_enum (Z.free _ fr_enumerate) (a_cons e_var a_nil)) (g_tup rfl (gs_cons (g_name sc.nd) (gs_cons (g_name sc.nd) gs_nil)))
    (ss_cons (s_set sc.nd (e_callF (ok_least_near Z) hr (by decide) tk (a_cons e_var (a_cons e_var (a_cons e_var a_nil)))))
    (ss_one (s_expr (e_bm PySem.F.plainAttrs_list PySem.F.slot_list_append PySem.F.type_list_append mt_append im_append e_var (a_cons (e_if (w_pt (w_or (t_isN e_var) (w_or1 (t_isN e_var)))) e_non (e_add e_var e_var)) a_nil))))))
    (ss_one (s_ret e_var))))
theorem sc_rows_of : FnScope ["costs", "turn", "found", "row"] ["costs", "turn"] d_rows_of.scope := ⟨rfl, rfl, rfl, by decide +kernel, rfl, by decide +kernel, by decide +kernel⟩
theorem len_rows_of (ca : CA) : ∀ ds h Q E, sp_rows_of ca ds h Q E → ds.length = 2 := by
  rintro ds h Q E hh
  unfold sp_rows_of at hh
  repeat (first | (obtain ⟨e, _⟩ := hh; subst e; rfl) | obtain ⟨_, hh⟩ := hh)
theorem ok_rows_of (Z : Zs P w fa fn K mg base) : GotF P w K mg base "rows_of" 4 ["costs", "turn"] (sp_rows_of (caOf K)) := by
  refine Z.fn_f 18 18 fd_rows_of gl_rows_of rfl rfl rfl sc_rows_of (fun _ _ _ _ _ _ us hl => match us, hl with | [_, _], _ => rfl) (len_rows_of _) (t_rows_of (caOf K)) ?_ (pure_rows_of (caOf K))
  intro f cdv A outer s H E Ed hr tk
  have sc := sc_rows_of
  unfold t_rows_of
  exact (ss_cons (s_set sc.nd (e_lst a_nil))
    (ss_cons (s_for hp_body rfl (i_seq e_var) (g_name sc.nd)
    (ss_one (s_expr (e_bm PySem.F.plainAttrs_list PySem.F.slot_list_append PySem.F.type_list_append mt_append im_append e_var (a_cons (e_if (t_eq hr e_var (e_lst a_nil)) (e_list (a_cons e_var a_nil) (Z.free _ fr_list)) (e_callF (ok_row_behind Z) hr (by decide) tk (a_cons (e_ix e_var e_neg) (a_cons e_var (a_cons e_var a_nil))))) a_nil)))))
    (ss_one (s_ret e_var))))
theorem sc_traced : FnScope ["rows", "costs", "turn", "course", "found", "moment", "wanted", "other"] ["rows", "costs", "turn", "course"] d_traced.scope := ⟨rfl, rfl, rfl, by decide +kernel, rfl, by decide +kernel, by decide +kernel⟩
theorem len_traced (ca : CA) : ∀ ds h Q E, sp_traced ca ds h Q E → ds.length = 4 := by
  rintro ds h Q E hh
  unfold sp_traced at hh
  repeat (first | (obtain ⟨e, _⟩ := hh; subst e; rfl) | obtain ⟨_, hh⟩ := hh)
theorem ok_traced (Z : Zs P w fa fn K mg base) : GotF P w K mg base "traced" 2 ["rows", "costs", "turn", "course"] (sp_traced (caOf K)) := by
  refine Z.fn_f 19 19 fd_traced gl_traced rfl rfl rfl sc_traced (fun _ _ _ _ _ _ us hl => match us, hl with | [_, _, _, _], _ => rfl) (len_traced _) (t_traced (caOf K)) ?_ (pure_traced (caOf K))
  intro f cdv A outer s H E Ed hr tk
  have sc := sc_traced
  unfold t_traced
  exact (ss_cons (s_set sc.nd (e_lst (a_cons e_var a_nil)))
    (ss_cons (s_for hp_body rfl (i_rng3 (Z.free _ fr_range) (a_cons (e_sub (e_len (a_cons e_var a_nil) (Z.free _ fr_len)) e_int) (a_cons e_int (a_cons e_neg a_nil)))) (g_name sc.nd)
    (ss_cons (s_set sc.nd (e_sub (e_ix (e_ix e_var e_var) (e_ix e_var e_neg)) (e_ix (e_ix e_var e_var) (e_ix e_var e_neg))))
    (ss_one (s_expr (e_bm PySem.F.plainAttrs_list PySem.F.slot_list_append PySem.F.type_list_append mt_append im_append e_var (a_cons (e_ix (e_lc rfl sc.nd (blkOk_by (own := [("other", 7)]) (by kernel_rfl)) rfl (i_seq (e_callF (ok_near_ones Z) hr (by decide) tk (a_cons (e_ix e_var e_neg) (a_cons e_var a_nil)))) (fun _ _ _ _ _ => pg_name (i := 7) sc.nd rfl (Or.inl rfl)) (fun _ _ _ _ _ => pts_if (t_eq hr (e_ix (e_ix e_var (e_sub e_var e_int)) e_var) e_var)) (fun _ _ _ _ _ => e_var)) e_int) a_nil))))))
    (ss_one (s_ret (e_rev e_var)))))
theorem sc_history : FnScope ["watch", "kind", "turn", "costs", "rows", "some", "many"] ["watch", "kind"] d_history.scope := ⟨rfl, rfl, rfl, by decide +kernel, rfl, by decide +kernel, by decide +kernel⟩
theorem len_history (ca : CA) : ∀ ds h Q E, sp_history ca ds h Q E → ds.length = 2 := by
  rintro ds h Q E hh
  unfold sp_history at hh
  repeat (first | (obtain ⟨e, _⟩ := hh; subst e; rfl) | obtain ⟨_, hh⟩ := hh)
theorem ok_history (Z : Zs P w fa fn K mg base) : GotF P w K mg base "history" 9 ["watch", "kind"] (sp_history (caOf K)) := by
  refine Z.fn_f 20 20 fd_history gl_history rfl rfl rfl sc_history (fun _ _ _ _ _ _ us hl => match us, hl with | [_, _], _ => rfl) (len_history _) (t_history (caOf K)) ?_ (pure_history (caOf K))
  intro f cdv A outer s H E Ed hr tk
  have sc := sc_history
  unfold t_history
  exact (ss_cons (s_set sc.nd (e_methM (ok_Fleet_turn Z) hr (by decide) tk (e_methM0 (ok_Watch_fleet Z) hr (by decide) tk e_var) (a_cons e_var a_nil)))
    (ss_cons (s_set sc.nd (e_callF (ok_costs_of Z) hr (by decide) tk (a_cons e_var (a_cons e_var a_nil))))
    (ss_cons (s_set sc.nd (e_callF (ok_rows_of Z) hr (by decide) tk (a_cons e_var (a_cons e_var a_nil))))
    (ss_cons (s_if (t_eq hr e_var (e_lst a_nil))
    (ss_one (s_ret (e_tup (a_cons e_int (a_cons (e_lst a_nil) a_nil)))))
    ss_nil)
    (ss_cons (s_setLc rfl sc.nd (blkOk_by (own := [("many", 6)]) (by kernel_rfl)) rfl (i_seq (e_ix e_var e_neg)) (fun _ _ _ _ _ => pg_name (i := 6) sc.nd rfl (Or.inl rfl)) (fun _ _ _ _ _ => pts_if (t_notN e_var)) (fun _ _ _ _ _ => e_var) (sw_true rfl rfl rfl (by decide +kernel)))
    (ss_cons (s_if (t_eq hr e_var (e_lst a_nil))
    (ss_one (s_ret e_non))
    ss_nil)
    (ss_one (s_ret (e_tup (a_cons (e_min1 (a_cons e_var a_nil) rfl (Z.free _ fr_min)) (a_cons (e_callF (ok_traced Z) hr (by decide) tk (a_cons e_var (a_cons e_var (a_cons e_var (a_cons (e_bm PySem.F.plainAttrs_list PySem.F.slot_list_index PySem.F.type_list_index (mt_indexD (units65 hr)) im_index (e_ix e_var e_neg) (a_cons (e_min1 (a_cons e_var a_nil) rfl (Z.free _ fr_min)) a_nil)) a_nil))))) a_nil)))))))))))
theorem sc_likely : FnScope ["watch", "found", "place", "kind", "told", "many"] ["watch"] d_likely.scope := ⟨rfl, rfl, rfl, by decide +kernel, rfl, by decide +kernel, by decide +kernel⟩
theorem len_likely (ca : CA) : ∀ ds h Q E, sp_likely ca ds h Q E → ds.length = 1 := by
  rintro ds h Q E hh
  unfold sp_likely at hh
  repeat (first | (obtain ⟨e, _⟩ := hh; subst e; rfl) | obtain ⟨_, hh⟩ := hh)
theorem ok_likely (Z : Zs P w fa fn K mg base) : GotF P w K mg base "likely" 10 ["watch"] (sp_likely (caOf K)) := by
  refine Z.fn_f 21 21 fd_likely gl_likely rfl rfl rfl sc_likely (fun _ _ _ _ _ _ us hl => match us, hl with | [_], _ => rfl) (len_likely _) (t_likely (caOf K)) ?_ (pure_likely (caOf K))
  intro f cdv A outer s H E Ed hr tk
  have sc := sc_likely
  unfold t_likely
  exact (ss_cons (s_set sc.nd (e_lst a_nil))
    (ss_cons (s_for hp_body rfl (i_enum (Z.free _ fr_enumerate) (a_cons (e_methM0 (ok_Fleet_kinds Z) hr (by decide) tk (e_methM0 (ok_Watch_fleet Z) hr (by decide) tk e_var)) a_nil)) (g_tup rfl (gs_cons (g_name sc.nd) (gs_cons (g_name sc.nd) gs_nil)))
    (ss_cons (s_set sc.nd (e_callF (ok_history Z) hr (by decide) tk (a_cons e_var (a_cons e_var a_nil))))
    (ss_one (s_if (t_notN e_var)
    (ss_one (s_expr (e_bm PySem.F.plainAttrs_list PySem.F.slot_list_append PySem.F.type_list_append mt_append im_append e_var (a_cons (e_tup (a_cons (e_ix e_var e_int) (a_cons e_var (a_cons e_var a_nil)))) a_nil))))
    ss_nil))))
    (ss_one (s_ret (e_lc rfl sc.nd (blkOk_by (own := [("many", 5), ("place", 2), ("kind", 3)]) (by kernel_rfl)) rfl (i_seq (e_sortP hr (a_cons e_var a_nil) (Z.free _ fr_sorted))) (fun _ _ _ _ _ => tg_tup rfl (gn_cons (pg_name (i := 5) sc.nd rfl (by first | exact Or.inl rfl | exact Or.inr rfl)) (gn_cons (pg_name (i := 2) sc.nd rfl (by first | exact Or.inl rfl | exact Or.inr rfl)) (gn_cons (pg_name (i := 3) sc.nd rfl (by first | exact Or.inl rfl | exact Or.inr rfl)) gn_nil)))) (fun _ _ _ _ _ => pts_yes) (fun _ _ _ _ _ => (e_tup (a_cons e_var (a_cons e_var a_nil)))))))))
theorem sc_Lright : FnScope ["_law_watch_here", "_law_fleet_here", "_law_sights_here", "_law_due_here", "_law_again", "_law_found", "_law_one"] ["_law_watch_here", "_law_fleet_here", "_law_sights_here"] d_Lright.scope := ⟨rfl, rfl, rfl, by decide +kernel, rfl, by decide +kernel, by decide +kernel⟩
theorem len_Lright (ca : CA) : ∀ ds h Q E, sp_Lright ca ds h Q E → ds.length = 3 := by
  rintro ds h Q E hh
  unfold sp_Lright at hh
  repeat (first | (obtain ⟨e, _⟩ := hh; subst e; rfl) | obtain ⟨_, hh⟩ := hh)
theorem ok_Lright (Z : Zs P w fa fn K mg base) : GotF P w K mg base "_law_right" 11 ["_law_watch_here", "_law_fleet_here", "_law_sights_here"] (sp_Lright (caOf K)) := by
  refine Z.fn_f 39 39 fd_Lright gl__law_right rfl rfl rfl sc_Lright (fun _ _ _ _ _ _ us hl => match us, hl with | [_, _, _], _ => rfl) (len_Lright _) (t_Lright (caOf K)) ?_ (pure_Lright (caOf K))
  intro f cdv A outer s H E Ed hr tk
  have sc := sc_Lright
  unfold t_Lright
  exact (ss_cons (s_set sc.nd (e_callF (ok_Ldue Z) hr (by decide) tk (a_cons e_var (a_cons e_var a_nil))))
    (ss_cons (s_for hp_body rfl (i_rng1 (Z.free _ fr_range) (a_cons e_int a_nil)) (g_name sc.nd)
    (ss_cons (s_set sc.nd (e_callF (ok_likely Z) hr (by decide) tk (a_cons e_var a_nil)))
    (ss_cons (s_if (w_pt (w_or (t_not (t_val (e_isi (a_cons e_var (a_cons (e_ty rfl (Z.free _ fr_list) (by decide +kernel)) a_nil)) (Z.free _ fr_isinstance)))) (w_or1 (t_ne hr e_var e_var))))
    (ss_one (s_ret e_bl))
    ss_nil)
    (ss_cons (s_if (t_not (t_val (e_all (a_cons (e_lc rfl sc.nd (blkOk_by (own := [("_law_one", 6)]) (by kernel_rfl)) rfl (i_seq e_var) (fun _ _ _ _ _ => pg_name (i := 6) sc.nd rfl (Or.inl rfl)) (fun _ _ _ _ _ => pts_yes) (fun _ _ _ _ _ => (e_and (e_isi (a_cons e_var (a_cons (e_ty rfl (Z.free _ fr_tuple) (by decide +kernel)) a_nil)) (Z.free _ fr_isinstance)) (e_one (e_callF (ok_Lwhole Z) hr (by decide) takes_none (a_cons (e_ix e_var e_int) a_nil)))))) a_nil) rfl (Z.free _ fr_all))))
    (ss_one (s_ret e_bl))
    ss_nil)
    (ss_one (s_expr (e_bm PySem.F.plainAttrs_list PySem.F.slot_list_append PySem.F.type_list_append mt_append im_append e_var (a_cons e_int a_nil))))))))
    (ss_one (s_ret e_bl))))
theorem sc_Lsights : FnScope ["_law_m", "_law_fleet_here", "_law_most", "_law_kind", "_law_turn", "_law_lamps_here", "_law_course", "_law_moment", "_law_found", "_law_k", "_law_step", "_law_side", "_law_some", "_law_at", "_law_many", "_law_j"] ["_law_m", "_law_fleet_here", "_law_most"] d_Lsights.scope := ⟨rfl, rfl, rfl, by decide +kernel, rfl, by decide +kernel, by decide +kernel⟩
theorem len_Lsights (ca : CA) : ∀ ds h Q E, sp_Lsights ca ds h Q E → ds.length = 3 := by
  rintro ds h Q E hh
  unfold sp_Lsights at hh
  repeat (first | (obtain ⟨e, _⟩ := hh; subst e; rfl) | obtain ⟨_, hh⟩ := hh)
theorem ok_Lsights (Z : Zs P w fa fn K mg base) : GotF P w K mg base "_law_sights" 3 ["_law_m", "_law_fleet_here", "_law_most"] (sp_Lsights (caOf K)) := by
  refine Z.fn_f 30 30 fd_Lsights gl__law_sights rfl rfl rfl sc_Lsights (fun _ _ _ _ _ _ us hl => match us, hl with | [_, _, _], _ => rfl) (len_Lsights _) (t_Lsights (caOf K)) ?_ (pure_Lsights (caOf K))
  intro f cdv A outer s H E Ed hr tk
  have sc := sc_Lsights
  unfold t_Lsights
  exact (ss_cons (s_asg (e_ix (e_ix e_var e_int) (e_callF (ok_Ldraw Z) hr (by decide) tk (a_cons e_var (a_cons (e_len (a_cons (e_ix e_var e_int) a_nil) (Z.free _ fr_len)) a_nil)))) (g_tup rfl (gs_cons (g_name sc.nd) (gs_cons (g_name sc.nd) (gs_cons (g_name sc.nd) gs_nil)))))
    (ss_cons (s_set sc.nd (e_callF (ok_Ldraw Z) hr (by decide) tk (a_cons e_var (a_cons e_int a_nil))))
    (ss_cons (s_set sc.nd e_int)
    (ss_cons (s_set sc.nd (e_lst a_nil))
    (ss_cons (s_for hp_body rfl (i_rng1 (Z.free _ fr_range) (a_cons (e_callF (ok_Ldraw Z) hr (by decide) tk (a_cons e_var (a_cons (e_add e_var e_int) a_nil))) a_nil)) (g_name sc.nd)
    (ss_cons (s_for hp_body rfl (i_rng1 (Z.free _ fr_range) (a_cons (e_ix (e_lst (a_cons e_int (a_cons e_int (a_cons e_int (a_cons e_int (a_cons e_int (a_cons e_int a_nil))))))) (e_callF (ok_Ldraw Z) hr (by decide) tk (a_cons e_var (a_cons e_int a_nil)))) a_nil)) (g_name sc.nd)
    (ss_one (s_if (t_lt e_var e_int)
    (ss_cons (s_set sc.nd (e_add e_var e_int))
    (ss_one (s_set sc.nd (e_mod (e_sub (e_add e_var (e_callF (ok_Ldraw Z) hr (by decide) tk (a_cons e_var (a_cons (e_add (e_mul e_int e_var) e_int) a_nil)))) e_var) e_int))))
    ss_nil)))
    (ss_cons (s_set sc.nd (e_callF (ok_Ldraw Z) hr (by decide) tk (a_cons e_var (a_cons e_int a_nil))))
    (ss_cons (s_set sc.nd (e_callF (ok_Lcolumn Z) hr (by decide) tk (a_cons e_var (a_cons (e_tup (a_cons e_var (a_cons e_var a_nil))) (a_cons e_var a_nil)))))
    (ss_cons (s_if (w_pt (w_and (t_ne hr e_var (e_tup a_nil)) (w_and1 (t_eq hr (e_callF (ok_Ldraw Z) hr (by decide) tk (a_cons e_var (a_cons e_int a_nil))) e_int))))
    (ss_cons (s_set sc.nd (e_callF (ok_Ldraw Z) hr (by decide) tk (a_cons e_var (a_cons (e_len (a_cons e_var a_nil) (Z.free _ fr_len)) a_nil))))
    (ss_one (s_set sc.nd (e_add (e_sl e_var o_none (o_some e_var)) (e_sl e_var (o_some (e_add e_var e_int)) o_none)))))
    ss_nil)
    (ss_cons (s_if (t_eq hr (e_callF (ok_Ldraw Z) hr (by decide) tk (a_cons e_var (a_cons e_int a_nil))) e_int)
    (ss_cons (s_set sc.nd (e_callF (ok_Ldraw Z) hr (by decide) tk (a_cons e_var (a_cons e_int a_nil))))
    (ss_one (s_set sc.nd (e_tuple (a_cons (e_lc rfl sc.nd (blkOk_by (own := [("_law_j", 15)]) (by kernel_rfl)) rfl (i_rng1 (Z.free _ fr_range) (a_cons e_var a_nil)) (fun _ _ _ _ _ => pg_name (i := 15) sc.nd rfl (Or.inl rfl)) (fun _ _ _ _ _ => pts_yes) (fun _ _ _ _ _ => (e_ix (e_ix e_var e_int) (e_callF (ok_Ldraw Z) hr (by decide) takes_none (a_cons e_var (a_cons (e_len (a_cons (e_ix e_var e_int) a_nil) (Z.free _ fr_len)) a_nil)))))) a_nil) (Z.free _ fr_tuple)))))
    ss_nil)
    (ss_one (s_expr (e_bm PySem.F.plainAttrs_list PySem.F.slot_list_insert PySem.F.type_list_insert mt_insert im_insert e_var (a_cons (e_callF (ok_Ldraw Z) hr (by decide) tk (a_cons e_var (a_cons (e_add (e_len (a_cons e_var a_nil) (Z.free _ fr_len)) e_int) a_nil))) (a_cons (e_tup (a_cons e_var (a_cons e_var (a_cons e_var a_nil)))) a_nil)))))))))))
    (ss_one (s_ret e_var)))))))
theorem sc_Fleet_init : FnScope ["self", "plain", "row"] ["self", "plain"] d_Fleet_init.scope := ⟨rfl, rfl, rfl, by decide +kernel, rfl, by decide +kernel, by decide +kernel⟩
theorem len_Fleet_init (ca : CA) : ∀ ds h Q E, sp_Fleet_init ca ds h Q E → ds.length = 2 := by
  rintro ds h Q E hh
  unfold sp_Fleet_init at hh
  repeat (first | (obtain ⟨e, _⟩ := hh; subst e; rfl) | obtain ⟨_, hh⟩ := hh)
theorem ok_Fleet_init (Z : Zs P w fa fn K mg base) : GotC P w K mg base "Fleet" (He.ga K "Fleet") 1 ["self", "plain"] (sp_Fleet_init (caOf K)) := by
  refine Z.fn_c 48 60 67 fd_Fleet_init gl_Fleet mk_Fleet rfl rfl rfl sc_Fleet_init (fun _ _ _ _ _ _ us hl => match us, hl with | [_, _], _ => rfl) (len_Fleet_init _) (t_Fleet_init (caOf K)) ?_ (pure_Fleet_init (caOf K))
  intro f cdv A outer s H E Ed hr tk
  have sc := sc_Fleet_init
  unfold t_Fleet_init
  exact (ss_cons (s_fld (Z.cls _ cl_Fleet) (Z.noat _ na_Fleet_told) e_var e_var)
    (ss_one (s_fld (Z.cls _ cl_Fleet) (Z.noat _ na_Fleet_rows) e_var (e_dictP rfl (a_cons (e_lc rfl sc.nd (blkOk_by (own := [("row", 2)]) (by kernel_rfl)) rfl (i_seq (e_ix e_var e_int)) (fun _ _ _ _ _ => pg_name (i := 2) sc.nd rfl (Or.inl rfl)) (fun _ _ _ _ _ => pts_yes) (fun _ _ _ _ _ => (e_tup (a_cons (e_ix e_var e_int) (a_cons e_var a_nil))))) a_nil) (Z.free _ fr_dict)))))
end Dl
end
section
namespace Dl
open PySem PySem.Spec PyProof.Rows L2
variable {P : Program} {w : World} {K : PySem.W.Frag} {mg : Str → Option Value} {base : Heap}
theorem sc_Watch_init : FnScope ["self", "fleet"] ["self", "fleet"] d_Watch_init.scope := ⟨rfl, rfl, rfl, by decide +kernel, rfl, by decide +kernel, by decide +kernel⟩
theorem len_Watch_init (ca : CA) : ∀ ds h Q E, sp_Watch_init ca ds h Q E → ds.length = 2 := by
  rintro ds h Q E hh
  unfold sp_Watch_init at hh
  repeat (first | (obtain ⟨e, _⟩ := hh; subst e; rfl) | obtain ⟨_, hh⟩ := hh)
theorem ok_Watch_init (Z : Zs P w fa fn K mg base) : GotC P w K mg base "Watch" (He.ga K "Watch") 1 ["self", "fleet"] (sp_Watch_init (caOf K)) := by
  refine Z.fn_c 41 51 59 fd_Watch_init gl_Watch mk_Watch rfl rfl rfl sc_Watch_init (fun _ _ _ _ _ _ us hl => match us, hl with | [_, _], _ => rfl) (len_Watch_init _) (t_Watch_init (caOf K)) ?_ (pure_Watch_init (caOf K))
  intro f cdv A outer s H E Ed hr tk
  have sc := sc_Watch_init
  unfold t_Watch_init
  exact (ss_cons (s_fld (Z.cls _ cl_Watch) (Z.noat _ na_Watch_ships) e_var e_var)
    (ss_one (s_fld (Z.cls _ cl_Watch) (Z.noat _ na_Watch_kept) e_var (e_lst a_nil))))
theorem sc_Watch_put : FnScope ["self", "sight"] ["self", "sight"] d_Watch_put.scope := ⟨rfl, rfl, rfl, by decide +kernel, rfl, by decide +kernel, by decide +kernel⟩
theorem len_Watch_put (ca : CA) : ∀ ds h Q E, sp_Watch_put ca ds h Q E → ds.length = 2 := by
  rintro ds h Q E hh
  unfold sp_Watch_put at hh
  repeat (first | (obtain ⟨e, _⟩ := hh; subst e; rfl) | obtain ⟨_, hh⟩ := hh)
theorem ok_Watch_put (Z : Zs P w fa fn K mg base) : GotM P w K mg base (He.ga K "Watch") "put" 5 ["self", "sight"] (sp_Watch_put (caOf K)) := by
  refine Z.fn_m 43 52 54 fd_Watch_put cl_Watch mt_Watch_put rfl rfl rfl sc_Watch_put (fun _ _ _ _ _ _ us hl => match us, hl with | [_, _], _ => rfl) (len_Watch_put _) (t_Watch_put (caOf K)) ?_ (pure_Watch_put (caOf K))
  intro f cdv A outer s H E Ed hr tk
  have sc := sc_Watch_put
  unfold t_Watch_put
  exact (ss_cons (s_expr (e_callF (ok_need_sight Z) hr (by decide) tk (a_cons (e_fld (Z.cls _ cl_Watch) (Z.noat _ na_Watch_ships) e_var) (a_cons e_var a_nil))))
    (ss_cons (s_if (t_eq hr (e_len (a_cons (e_fld (Z.cls _ cl_Watch) (Z.noat _ na_Watch_kept) e_var) a_nil) (Z.free _ fr_len)) (e_gint (Z.int _ in_MOST_SIGHTS)))
    (ss_one (s_raise (Z.exc _ _ gl_Full ex_Full) tk))
    ss_nil)
    (ss_one (s_expr (e_bm PySem.F.plainAttrs_list PySem.F.slot_list_append PySem.F.type_list_append mt_append im_append (e_fld (Z.cls _ cl_Watch) (Z.noat _ na_Watch_kept) e_var) (a_cons e_var a_nil))))))
theorem sc_Lwatch : FnScope ["_law_fleet_here", "_law_sights_here", "_law_found", "_law_sight"] ["_law_fleet_here", "_law_sights_here"] d_Lwatch.scope := ⟨rfl, rfl, rfl, by decide +kernel, rfl, by decide +kernel, by decide +kernel⟩
theorem len_Lwatch (ca : CA) : ∀ ds h Q E, sp_Lwatch ca ds h Q E → ds.length = 2 := by
  rintro ds h Q E hh
  unfold sp_Lwatch at hh
  repeat (first | (obtain ⟨e, _⟩ := hh; subst e; rfl) | obtain ⟨_, hh⟩ := hh)
theorem ok_Lwatch (Z : Zs P w fa fn K mg base) : GotF P w K mg base "_law_watch" 6 ["_law_fleet_here", "_law_sights_here"] (sp_Lwatch (caOf K)) := by
  refine Z.fn_f 34 34 fd_Lwatch gl__law_watch rfl rfl rfl sc_Lwatch (fun _ _ _ _ _ _ us hl => match us, hl with | [_, _], _ => rfl) (len_Lwatch _) (t_Lwatch (caOf K)) ?_ (pure_Lwatch (caOf K))
  intro f cdv A outer s H E Ed hr tk
  have sc := sc_Lwatch
  unfold t_Lwatch
  exact (ss_cons (s_set sc.nd (e_makeC (ok_Watch_init Z) hr (by decide) tk (a_cons (e_makeC (ok_Fleet_init Z) hr (by decide) tk (a_cons e_var a_nil)) a_nil)))
    (ss_cons (s_for hp_body rfl (i_seq e_var) (g_name sc.nd)
    (ss_one (s_expr (e_methM (ok_Watch_put Z) hr (by decide) tk e_var (a_cons e_var a_nil)))))
    (ss_one (s_ret e_var))))
end Dl
end
section
namespace Dl
open PySem PySem.Spec PyProof.Rows L2
section
variable {P : Program} {w : World} {K : PySem.W.Frag} {mg : Str → Option Value} {base : Heap}
theorem sc_law : FnScope ["_law_script", "_law_m", "_law_fleet_here", "_law_sights_here", "_law_watch_here", "_law_k", "_law_sight"] ["_law_script"] d_law.scope := ⟨rfl, rfl, rfl, by decide +kernel, rfl, by decide +kernel, by decide +kernel⟩
theorem len_law (ca : CA) : ∀ ds h Q E, sp_law ca ds h Q E → ds.length = 1 := by
  rintro ds h Q E hh
  unfold sp_law at hh
  repeat (first | (obtain ⟨e, _⟩ := hh; subst e; rfl) | obtain ⟨_, hh⟩ := hh)
theorem ok_law (Z : Zs P w fa fn K mg base) {f : Addr} {fd : FuncData} (F : FunD K "law" "law" d_law.params d_law.body d_law.scope [] [] f fd) : DFn P w K mg base 12 f fd ["_law_script"] (sp_law (caOf K)) := by
  refine fn_ok F sc_law (len_law _) (t_law (caOf K)) ?_ (pure_law (caOf K))
  intro cdv A outer s H E Ed hr tk
  have sc := sc_law
  unfold t_law
  exact (ss_cons (s_set sc.nd (e_callF (ok_Lbegun Z) hr (by decide) tk (a_cons e_var a_nil)))
    (ss_cons (s_set sc.nd (e_callF (ok_Lfleet Z) hr (by decide) tk (a_cons e_var a_nil)))
    (ss_cons (s_set sc.nd (e_callF (ok_Lsights Z) hr (by decide) tk (a_cons e_var (a_cons e_var (a_cons e_int a_nil)))))
    (ss_cons (s_set sc.nd (e_callF (ok_Lwatch Z) hr (by decide) tk (a_cons e_var (a_cons (e_lst a_nil) a_nil))))
    (ss_cons (s_if (t_not (t_val (e_callF (ok_Lright Z) hr (by decide) tk (a_cons e_var (a_cons e_var (a_cons (e_lst a_nil) a_nil))))))
    (ss_one (s_ret e_bl))
    ss_nil)
    (ss_cons (s_for hp_body rfl (i_enum (Z.free _ fr_enumerate) (a_cons e_var a_nil)) (g_tup rfl (gs_cons (g_name sc.nd) (gs_cons (g_name sc.nd) gs_nil)))
    (ss_cons (s_expr (e_methM (ok_Watch_put Z) hr (by decide) tk e_var (a_cons e_var a_nil)))
    (ss_one (s_if (w_pt (w_and (w_pt (w_or (t_eq hr (e_add e_var e_int) (e_len (a_cons e_var a_nil) (Z.free _ fr_len))) (w_or1 (t_eq hr (e_mod e_var e_int) e_int)))) (w_and1 (t_not (t_val (e_callF (ok_Lright Z) hr (by decide) tk (a_cons e_var (a_cons e_var (a_cons (e_sl e_var o_none (o_some (e_add e_var e_int))) a_nil)))))))))
    (ss_one (s_ret e_bl))
    ss_nil))))
    (ss_one (s_ret (e_and (e_eq hr (e_methM0 (ok_Watch_sights Z) hr (by decide) tk e_var) e_var) (e_one (e_eq hr (e_methM0 (ok_Fleet_plain Z) hr (by decide) tk (e_methM0 (ok_Watch_fleet Z) hr (by decide) tk e_var)) e_var)))))))))))
end
theorem law_end {P : Program} {w : World} {K : PySem.W.Frag} {h : Heap} {mg : Str → Option Value} {f : Addr} (X : K.In h) (G : h.Ns mainGlobals mg) (hfa : mg ("law" : Str) = some (.ref f)) (c : He.SaysD fa fn K) :
    ∃ fd : FuncData, (∀ (s : Shared) (v : Value), BindsTo s fd ⟨[v], []⟩ [("_law_script", v)]) ∧ ∀ base : Heap, K.In base → base.Ns mainGlobals mg → DFn P w K mg base 12 f fd ["_law_script"] (sp_law (caOf K)) := by
  obtain ⟨fd, F⟩ := c.def_ 40 (d := d_law) fd_law
  have e1 : d_law.dvs K = [] := rfl
  have e2 : d_law.kws K = [] := rfl
  rw [e1, e2] at F
  have e := hfa.symm.trans (He.glo_ok X G (c.fact 40 gl_law))
  cases e
  have b := FunD.bindsA (ps := ["_law_script"]) F fun _ _ _ _ _ _ us hl => match us, hl with | [_], _ => rfl
  exact ⟨fd, fun s v => b s [v] rfl, fun base h1 h2 => ok_law ⟨h1, h2, c⟩ F⟩
theorem RDs.intsL {K : PySem.W.Frag} {H : Hp} : ∀ ns : List Int, RDs K H (ns.map D.int) (ns.map V.int)
  | [] => rfl
  | n :: ns => ⟨.int n, ns.map V.int, rfl, rfl, RDs.intsL ns⟩
theorem law_start {K : PySem.W.Frag} {H : Hp} {a : Addr} {ns : List Int} (hl : ns.length ≤ 63) (hO : Only H) (hS : SqL K H a (ns.map V.int)) : liftSp K (sp_law (caOf K)) [.ref a] H (fun v _ => v = .bl true) fun _ _ _ => False := by
  refine ⟨[.sc (ns.map D.int)], fun _ => none, fun d _ => d = .bl true, fun _ _ _ => False, ⟨_, _, rfl, ⟨a, ns.map V.int, rfl, ScL.of hO hS, RDs.intsL ns, ?_⟩, rfl⟩, (fun _ _ e => by cases e), ?_, (fun d h' e v H' r _ _ => by subst e; exact r), (fun _ _ _ z => z.elim)⟩
  · rw [List.length_map, szL]; omega
  · unfold sp_law; exact ⟨ns, rfl, hl, fun _ => rfl⟩
theorem walk_w {law : PySem.W.OpenLaw} {most lev : Nat} {pr : Program} {more : List Str} {XP : (Str → Option Value) → Heap → Prop} {YP : World → Heap → Prop} {dr : DefRec} {C : World → CXT} {par : Str}
    (h1 : law.most = some most) (h2 : most ≤ sizeLine) (h3 : dr.params.defaults = []) (h4 : Room lev callerA)
    (h5 : ∀ (w : World) (mg : Str → Option Value) (fa : Addr) (h : Heap), YP w h → h.Ns mainGlobals mg → mg dr.name = some (.ref fa) →
      ∃ (K : PySem.W.Frag) (fd : FuncData) (sp : Sp), K.In h ∧ (∀ (s : Shared) (u : Value), BindsTo s fd ⟨[u], []⟩ [(par, u)]) ∧
        (∀ (H : Hp) (a : Addr) (ns : List Int), ns.length ≤ most → Only H → SqL K H a (ns.map V.int) → sp [.ref a] H (fun v _ => v = .bl true) fun _ _ _ => False) ∧
        ∀ base : Heap, K.In base → base.Ns mainGlobals mg → FnOk law.prog w K mg base (C w) lev fa fd [par] sp)
    (h6 : ∀ (w : World) (H : Hp) (s : Shared) (e : Value) (s' : Shared), C w [] H s (fun _ _ _ => False) e s' → False) :
    PySem.W.WalkO pr more XP YP law.row.toRowW dr [] (fun f vs => PySem.call f vs) := by
  refine Att.attach_call h1 h3 fun w s0 s1 mg mb fa o pm cd doc a vs ns G Y ho hd hcd hmg hobj hints hlen hg => ?_
  obtain ⟨K, fd, sp, KX, hb, hsp, hF⟩ := h5 w mg fa _ Y G.T.g hmg
  refine law_call KX G.T.g G.T.b G.T.builtins G.T.nolimit hg hobj hints ?_ h4 hF hb ?_ ?_
  · exact Nat.le_trans hlen h2
  · intro H hO hS
    exact hsp H a ns hlen hO hS
  · intro H e s'
    exact h6 w H s1 e s'
end Dl
end
open PySem PySem.W PySem.Calls PyProof.Rows
theorem PySem.Challenge.cw_lanternwatch_k33_likely_kinds_holds : PySem.Challenge.rw_lanternwatch_k33_likely_kinds.Holds := by
  w_on; o_law
  refine HandSHeadRun.head_any (r := OpenLaw.row PySem.Challenge.rw_lanternwatch_k33_likely_kinds) (q := view (OpenLaw.row PySem.Challenge.rw_lanternwatch_k33_likely_kinds).prog [59]) (H := Dl.hk) (ob := Dl.ob) (M := 6000) (loose := Dl.loose) (d := HandSHeadRun.topDef (OpenLaw.row PySem.Challenge.rw_lanternwatch_k33_likely_kinds).prog 59) (kwd := []) Dl.ob_eq
    (by kernel_rfl) (fun s => by kernel_rfl) Dl.run (by kernel_rfl) (by kernel_rfl) (by kernel_rfl) (by rfl) (by first | assumption | decide +kernel) (by decide +kernel) ⟨rfl, rfl, rfl, rfl, rfl, by decide +kernel⟩ ?hw ?hc
  case hw => w_witness2
  case hc =>
    refine Dl.walk_w (law := PySem.Challenge.rw_lanternwatch_k33_likely_kinds) (most := 63) (lev := 12) (par := "_law_script") (C := fun w => L2.CX PySem.Challenge.rw_lanternwatch_k33_likely_kinds.prog w) rfl (by decide) (by kernel_rfl) ⟨rfl, by decide, by decide⟩ ?F ?X
    case X =>
      intro w H s e s' z
      obtain ⟨_, _, _, _, _, _, _, _, _, _, _, _, f⟩ := z
      exact f
    case F =>
      intro w mg fa h Y G hmg0
      obtain ⟨K, KX, c⟩ := Y
      have hmg : mg ("law" : PySem.Str) = some (.ref fa) := by
        have e : (HandSHeadRun.topDef (OpenLaw.row PySem.Challenge.rw_lanternwatch_k33_likely_kinds).prog 59).name = ("law" : PySem.Str) := by kernel_rfl
        rw [← e]
        exact hmg0
      obtain ⟨fd, hb, hF⟩ := Dl.law_end (P := (PySem.Challenge.rw_lanternwatch_k33_likely_kinds).prog) (w := w) KX G hmg c
      exact ⟨K, fd, Dl.liftSp K (Dl.sp_law (Dl.caOf K)), KX, hb, fun H a ns hl hO hS => Dl.law_start hl hO hS, hF⟩
