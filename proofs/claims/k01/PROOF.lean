import PyProof.Rows.All
import Wide.All
import OpenK.AllK
import Wide.FinOn
import HandS.ForExc
import HandS.ForMost
import HandS.More
import HandS.Style
import HandS.Star
import HandS.DeepEq
import HandS.Defaults
import HandS.HeadHook1
import HandS.HeadHook2
import KE.KExcSuper
import KE.KSuper
import HandS.ExcInit
import HandS.HeadWalk
import HandS.HeadHook4
import HandS.ExcField
import HandS.TryMany
import HandS.SetFor
import HandS.Strs
import HandS.Zip
import HandS.IsInst
import PyProof.SumWalkG
import HandS.TupAny
import KE.KEqDict
import KE.KDictList
import KE.KStateDown
import Lean
import HandS.Head0
import HandS.Head1
import HandS.Head2
import HandS.HeadEnd
import HandS.HeadHook3
import PySem.Challenge.RW_caughtup_k01_whole_slots_and_cartridges
set_option Elab.async false
set_option linter.all false
set_option maxRecDepth 100000
set_option maxHeartbeats 400000
namespace Sy
open PySem L2

/-! ## data -/
abbrev D := PyData
/-- a heap within another -/
def Le (F G : Hp) : Prop := ∀ b o, F b = some o → G b = some o
theorem Le.rfl' {F : Hp} : Le F F := fun _ _ h => h
theorem Le.tr {F G J : Hp} (a : Le F G) (b : Le G J) : Le F J := fun x o h => b x o (a x o h)
theorem Le.sq {K : PySem.W.Frag} {F G : Hp} {a : Addr} {xs : List V} (e : Le F G) (h : SqL K F a xs) : SqL K G a xs := by
  rcases h with (h | ⟨o, h⟩) | h
  · exact .inl (.inl (e _ _ h))
  · exact .inl (.inr ⟨o, e _ _ h⟩)
  · exact .inr h
theorem Le.sqt {K : PySem.W.Frag} {F G : Hp} {a : Addr} {xs : List V} (e : Le F G) (h : SqT K F a xs) : SqT K G a xs := by
  rcases h with (h | ⟨o, h⟩) | h
  · exact .inl (.inl (e _ _ h))
  · exact .inl (.inr ⟨o, e _ _ h⟩)
  · exact .inr h
def keyD : Key → D
  | .inl i => .int i
  | .inr x => .str x
mutual
inductive Is (K : PySem.W.Frag) (F : Hp) : V → D → Prop
  | non : Is K F .non .none
  | bl (b : Bool) : Is K F (.bl b) (.bool b)
  | int (i : Int) : Is K F (.int i) (.int i)
  | str (x : Str) : Is K F (.str x) (.str x)
  | lst {a : Addr} {xs : List V} {ds : List D} : F a = some (.lst xs) → IsAll K F xs ds → Is K F (.ref a) (.list ds)
  | tup {a : Addr} {xs : List V} {ds : List D} : SqT K F a xs → IsAll K F xs ds → Is K F (.ref a) (.tuple ds)
  | dct {a : Addr} {ks : List (Key × V)} {ds : List (D × D)} : F a = some (.dK ks) → IsKv K F ks ds → Is K F (.ref a) (.dict ds)
inductive IsAll (K : PySem.W.Frag) (F : Hp) : List V → List D → Prop
  | nil : IsAll K F [] []
  | cons {v : V} {vs : List V} {d : D} {ds : List D} : Is K F v d → IsAll K F vs ds → IsAll K F (v :: vs) (d :: ds)
inductive IsKv (K : PySem.W.Frag) (F : Hp) : List (Key × V) → List (D × D) → Prop
  | nil : IsKv K F [] []
  | cons {k : Key} {v : V} {vs : List (Key × V)} {d : D} {ds : List (D × D)} : Is K F v d → IsKv K F vs ds → IsKv K F ((k, v) :: vs) ((keyD k, d) :: ds)
end
section
variable {K : PySem.W.Frag} {F G : Hp}
mutual
theorem Is.mono (e : Le F G) : ∀ {v : V} {d : D}, Is K F v d → Is K G v d
  | _, _, .non => .non
  | _, _, .bl b => .bl b
  | _, _, .int i => .int i
  | _, _, .str x => .str x
  | _, _, .lst h r => .lst (e _ _ h) (IsAll.mono e r)
  | _, _, .tup h r => .tup (e.sqt h) (IsAll.mono e r)
  | _, _, .dct h r => .dct (e _ _ h) (IsKv.mono e r)
theorem IsAll.mono (e : Le F G) : ∀ {v : List V} {d : List D}, IsAll K F v d → IsAll K G v d
  | _, _, .nil => .nil
  | _, _, .cons h r => .cons (h.mono e) (IsAll.mono e r)
theorem IsKv.mono (e : Le F G) : ∀ {v : List (Key × V)} {d : List (D × D)}, IsKv K F v d → IsKv K G v d
  | _, _, .nil => .nil
  | _, _, .cons h r => .cons (h.mono e) (IsKv.mono e r)
end
theorem IsAll.length : ∀ {vs : List V} {ds : List D}, IsAll K F vs ds → vs.length = ds.length
  | _, _, .nil => rfl
  | _, _, .cons _ r => congrArg (· + 1) (IsAll.length r)
end
/-! ## symbolic values, cells -/
inductive SV where
  | dat (d : D)
  | ref (i : Nat)
  /-- a list of ints that is read alone (the script) -/
  | scr (ns : List Int)
/-- no cell is named -/
def SV.cl : SV → Bool
  | .ref _ => false
  | _ => true
inductive Cell where
  | lst (xs : List SV)
  | dct (ks : List (Key × SV))
  | ins (C : Addr) (fs : List (Str × SV))
abbrev Cs := List (Option Cell)
abbrev Gs := List (Option SV)
/-- what a value stands for: F frozen, ρ the cells' places, n how many there are -/
def SIs (K : PySem.W.Frag) (F : Hp) (ρ : Nat → Addr) (n : Nat) (v : V) : SV → Prop
  | .dat d => Is K F v d
  | .ref i => i < n ∧ v = .ref (ρ i)
  | .scr ns => ∃ a, v = .ref a ∧ SqL K F a (ns.map V.int)
inductive CIs (K : PySem.W.Frag) (F : Hp) (ρ : Nat → Addr) (n : Nat) : HO → Cell → Prop
  | lst {vs : List V} {xs : List SV} : Paired (SIs K F ρ n) vs xs → CIs K F ρ n (.lst vs) (.lst xs)
  | dct {vs : List (Key × V)} {xs : List (Key × SV)} : Paired (fun p q => p.1 = q.1 ∧ SIs K F ρ n p.2 q.2) vs xs → CIs K F ρ n (.dK vs) (.dct xs)
  | ins {C dx : Addr} {vs : List (Str × V)} {xs : List (Str × SV)} : Paired (fun p q => p.1 = q.1 ∧ SIs K F ρ n p.2 q.2) vs xs → CIs K F ρ n (.ins C dx vs) (.ins C xs)
/-- the places, one more -/
def ext (ρ : Nat → Addr) (n : Nat) (p : Addr) (i : Nat) : Addr := if i = n then p else ρ i
theorem ext_new (ρ : Nat → Addr) (n : Nat) (p : Addr) : ext ρ n p n = p := if_pos rfl
theorem ext_old (ρ : Nat → Addr) (n : Nat) (p : Addr) {i : Nat} (h : i < n) : ext ρ n p i = ρ i := if_neg (Nat.ne_of_lt h)
theorem SIs.mono {K : PySem.W.Frag} {F G : Hp} {ρ ρ' : Nat → Addr} {n n' : Nat} (e : Le F G) (hn : n ≤ n') (hr : ∀ i, i < n → ρ' i = ρ i) {v : V} : ∀ {s : SV}, SIs K F ρ n v s → SIs K G ρ' n' v s
  | .dat _, h => Is.mono e h
  | .ref i, ⟨h, q⟩ => ⟨Nat.lt_of_lt_of_le h hn, by rw [hr i h]; exact q⟩
  | .scr _, ⟨a, q, h⟩ => ⟨a, q, e.sq h⟩
theorem SIs.cl {K : PySem.W.Frag} {F : Hp} {ρ ρ' : Nat → Addr} {n n' : Nat} {v : V} : ∀ {s : SV}, s.cl = true → SIs K F ρ n v s → SIs K F ρ' n' v s
  | .dat _, _, h => h
  | .scr _, _, h => h
theorem CIs.mono {K : PySem.W.Frag} {F G : Hp} {ρ ρ' : Nat → Addr} {n n' : Nat} (e : Le F G) (hn : n ≤ n') (hr : ∀ i, i < n → ρ' i = ρ i) {o : HO} {c : Cell} (h : CIs K F ρ n o c) : CIs K G ρ' n' o c := by
  cases h with
  | lst h => exact .lst (Paired.mapP h fun _ _ q => q.mono e hn hr)
  | dct h => exact .dct (Paired.mapP h fun _ _ q => ⟨q.1, q.2.mono e hn hr⟩)
  | ins h => exact .ins (Paired.mapP h fun _ _ q => ⟨q.1, q.2.mono e hn hr⟩)
/-! ## the state -/
structure Bs where
  K : PySem.W.Frag
  H0 : Hp
  F0 : Hp
  n0 : Nat
  r0 : Nat → Addr
structure Rl (B : Bs) (g : Gs) (S : List SV) (C : Cs) (σ : St) (vs : List V) (H : Hp) (F : Hp) (ρ : Nat → Addr) : Prop where
  le : Le F H
  sub : Le B.F0 F
  keep : ∀ b o, B.H0 b = some o → (∀ i, i < B.n0 → B.r0 i ≠ b) → H b = some o
  there : ∀ b, H b = none → B.H0 b = none
  frz : ∀ b o, F b = some o → B.F0 b = some o ∨ B.H0 b = none ∨ ∃ i, i < B.n0 ∧ B.r0 i = b
  rho : ∀ i, i < B.n0 → ρ i = B.r0 i
  nc : B.n0 ≤ C.length
  inj : ∀ i j c d, C[i]? = some (some c) → C[j]? = some (some d) → ρ i = ρ j → i = j
  cell : ∀ (i : Nat) (c : Cell), C[i]? = some (some c) → F (ρ i) = none ∧ (∃ o, H (ρ i) = some o ∧ CIs B.K F ρ C.length o c) ∧ (i < B.n0 ∨ B.H0 (ρ i) = none)
  len : σ.length = g.length
  slot : ∀ (i : Nat) (s : SV), g[i]? = some (some s) → ∃ v, σ[i]? = some (some v) ∧ SIs B.K F ρ C.length v s
  stk : Paired (SIs B.K F ρ C.length) vs S
def Rel (B : Bs) (g : Gs) (S : List SV) (C : Cs) (σ : St) (vs : List V) (H : Hp) : Prop := ∃ F ρ, Rl B g S C σ vs H F ρ
section
variable {B : Bs} {g : Gs} {S : List SV} {C : Cs} {σ : St} {vs : List V} {H : Hp} {F : Hp} {ρ : Nat → Addr}
theorem Rl.push {v : V} {s : SV} (R : Rl B g S C σ vs H F ρ) (h : SIs B.K F ρ C.length v s) : Rl B g (s :: S) C σ (v :: vs) H F ρ := { R with stk := .cons h R.stk }
theorem Rl.pop {v : V} {s : SV} (R : Rl B g (s :: S) C σ (v :: vs) H F ρ) : Rl B g S C σ vs H F ρ ∧ SIs B.K F ρ C.length v s := by
  have h := R.stk
  cases h with
  | cons a b => exact ⟨{ R with stk := b }, a⟩
theorem Rl.var {i : Nat} {s : SV} (R : Rl B g S C σ vs H F ρ) (h : g[i]? = some (some s)) : ∃ v, σ[i]? = some (some v) ∧ Rl B g (s :: S) C σ (v :: vs) H F ρ :=
  let ⟨v, e, q⟩ := R.slot i s h
  ⟨v, e, R.push q⟩
theorem Rl.set {i : Nat} {v : V} {s : SV} (R : Rl B g (s :: S) C σ (v :: vs) H F ρ) : Rl B (g.set i (some s)) S C (σ.set i (some v)) vs H F ρ := by
  obtain ⟨R', h⟩ := R.pop
  refine { R' with len := by simpa using R'.len, slot := fun j t e => ?_ }
  by_cases hj : i = j
  · subst hj
    by_cases hi : i < g.length
    · rw [List.getElem?_set_self hi] at e
      cases e
      exact ⟨v, List.getElem?_set_self (by rw [R'.len]; exact hi), h⟩
    · rw [List.getElem?_eq_none (by simpa using Nat.le_of_not_lt hi)] at e
      cases e
  · rw [List.getElem?_set_ne hj] at e
    obtain ⟨u, q, r⟩ := R'.slot j t e
    exact ⟨u, by rw [List.getElem?_set_ne hj]; exact q, r⟩
/-- a new thing is laid into the frozen part -/
theorem Rl.lay {p : Addr} {o : HO} (R : Rl B g S C σ vs H F ρ) (hp : H p = none) : Rl B g S C σ vs (upd H p o) (upd F p o) ρ ∧ Le F (upd F p o) := by
  have hF : F p = none := by
    cases e : F p with
    | none => rfl
    | some u => rw [R.le p u e] at hp; cases hp
  have L : Le F (upd F p o) := fun b u e => by rw [upd_ne (ne_of_none e hF)]; exact e
  have nc : ∀ i c, C[i]? = some (some c) → ρ i ≠ p := fun i c e z => by
    obtain ⟨_, ⟨u, q, _⟩, _⟩ := R.cell i c e
    rw [z, hp] at q; cases q
  refine ⟨⟨fun b u e => ?_, R.sub.tr L, fun b u e k => ?_, fun b e => ?_, fun b u e => ?_, R.rho, R.nc, R.inj, fun i c e => ?_, R.len, fun i s e => ?_, ?_⟩, L⟩
  · by_cases hb : b = p
    · subst hb; rw [upd_same] at e ⊢; exact e
    · rw [upd_ne hb] at e ⊢; exact R.le b u e
  · rw [upd_ne (ne_of_none (R.keep b u e k) hp)]; exact R.keep b u e k
  · by_cases hb : b = p
    · subst hb; rw [upd_same] at e; cases e
    · rw [upd_ne hb] at e; exact R.there b e
  · by_cases hb : b = p
    · subst hb; exact .inr (.inl (R.there b hp))
    · rw [upd_ne hb] at e; exact R.frz b u e
  · obtain ⟨q1, ⟨u, q2, q3⟩, q4⟩ := R.cell i c e
    exact ⟨by rw [upd_ne (nc i c e)]; exact q1, ⟨u, by rw [upd_ne (nc i c e)]; exact q2, q3.mono L (Nat.le_refl _) fun _ _ => rfl⟩, q4⟩
  · obtain ⟨v, q, r⟩ := R.slot i s e
    exact ⟨v, q, r.mono L (Nat.le_refl _) fun _ _ => rfl⟩
  · exact Paired.mapP R.stk fun _ _ q => q.mono L (Nat.le_refl _) fun _ _ => rfl
/-- a new thing is laid as a cell -/
theorem Rl.lay_c {p : Addr} {o : HO} {c : Cell} (R : Rl B g S C σ vs H F ρ) (hp : H p = none) (hc : CIs B.K F ρ C.length o c) :
    Rl B g (.ref C.length :: S) (C ++ [some c]) σ (.ref p :: vs) (upd H p o) F (ext ρ C.length p) := by
  have hF : F p = none := by
    cases e : F p with
    | none => rfl
    | some u => rw [R.le p u e] at hp; cases hp
  have hr : ∀ i, i < C.length → ext ρ C.length p i = ρ i := fun i h => ext_old ρ _ p h
  have hn : C.length ≤ (C ++ [some c]).length := by simp
  have old : ∀ i d, (C ++ [some c])[i]? = some (some d) → (i < C.length ∧ C[i]? = some (some d)) ∨ (i = C.length ∧ d = c) := fun i d e => by
    by_cases h : i < C.length
    · rw [List.getElem?_append_left h] at e; exact .inl ⟨h, e⟩
    · have h2 := (List.getElem?_eq_some_iff.mp e).1
      rw [List.length_append, List.length_singleton] at h2
      have h3 : i = C.length := by omega
      subst h3
      rw [List.getElem?_append_right (Nat.le_refl _), Nat.sub_self] at e
      exact .inr ⟨rfl, (Option.some.inj (Option.some.inj e)).symm⟩
  have nc : ∀ i c, C[i]? = some (some c) → ρ i ≠ p := fun i c e z => by
    obtain ⟨_, ⟨u, q, _⟩, _⟩ := R.cell i c e
    rw [z, hp] at q; cases q
  have mo : ∀ {v : V} {s : SV}, SIs B.K F ρ C.length v s → SIs B.K F (ext ρ C.length p) (C ++ [some c]).length v s := fun {v s} q => q.mono Le.rfl' hn hr
  refine ⟨fun b u e => ?_, R.sub, fun b u e k => ?_, fun b e => ?_, R.frz, fun i h => ?_, Nat.le_trans R.nc hn, fun i j c d e1 e2 z => ?_, fun i d e => ?_, R.len, fun i s e => ?_, ?_⟩
  · rw [upd_ne (ne_of_none e hF)]; exact R.le b u e
  · rw [upd_ne (ne_of_none (R.keep b u e k) hp)]; exact R.keep b u e k
  · by_cases hb : b = p
    · subst hb; rw [upd_same] at e; cases e
    · rw [upd_ne hb] at e; exact R.there b e
  · rw [hr i (Nat.lt_of_lt_of_le h R.nc)]; exact R.rho i h
  · rcases old i c e1 with ⟨h1, f1⟩ | ⟨h1, _⟩ <;> rcases old j d e2 with ⟨h2, f2⟩ | ⟨h2, _⟩
    · rw [hr i h1, hr j h2] at z; exact R.inj i j c d f1 f2 z
    · rw [hr i h1] at z
      have z' : ρ i = p := by rw [z, h2]; exact ext_new _ _ _
      exact absurd z' (nc i c f1)
    · rw [hr j h2] at z
      have z' : ρ j = p := by rw [← z, h1]; exact ext_new _ _ _
      exact absurd z' (nc j d f2)
    · rw [h1, h2]
  · rcases old i d e with ⟨h1, f1⟩ | ⟨h1, h2⟩
    · obtain ⟨q1, ⟨u, q2, q3⟩, q4⟩ := R.cell i d f1
      rw [hr i h1]
      exact ⟨q1, ⟨u, by rw [upd_ne (nc i d f1)]; exact q2, q3.mono Le.rfl' hn hr⟩, q4⟩
    · subst h1 h2
      rw [ext_new]
      exact ⟨hF, ⟨o, upd_same, hc.mono Le.rfl' hn hr⟩, .inr (R.there p hp)⟩
  · obtain ⟨v, q, r⟩ := R.slot i s e
    exact ⟨v, q, mo r⟩
  · refine .cons ⟨by simp, ?_⟩ (Paired.mapP R.stk fun _ _ q => mo q)
    rw [ext_new]
/-- a cell is written -/
theorem Rl.wr {i : Nat} {o : HO} {c c' : Cell} (R : Rl B g S C σ vs H F ρ) (hi : C[i]? = some (some c)) (hc : CIs B.K F ρ C.length o c') :
    Rl B g S (C.set i (some c')) σ vs (upd H (ρ i) o) F ρ := by
  obtain ⟨q1, ⟨u, q2, _⟩, q4⟩ := R.cell i c hi
  have hl : (C.set i (some c')).length = C.length := by simp
  have li : i < C.length := (List.getElem?_eq_some_iff.mp hi).1
  have old : ∀ j d, (C.set i (some c'))[j]? = some (some d) → (j ≠ i ∧ C[j]? = some (some d)) ∨ (j = i ∧ d = c') := fun j d e => by
    by_cases h : i = j
    · subst h
      rw [List.getElem?_set_self li] at e
      exact .inr ⟨rfl, (Option.some.inj (Option.some.inj e)).symm⟩
    · rw [List.getElem?_set_ne h] at e; exact .inl ⟨Ne.symm h, e⟩
  have any : ∀ j d, (C.set i (some c'))[j]? = some (some d) → ∃ d', C[j]? = some (some d') := fun j d e => by
    rcases old j d e with ⟨_, f⟩ | ⟨h, _⟩
    · exact ⟨d, f⟩
    · exact ⟨c, by rw [h]; exact hi⟩
  refine ⟨fun b u e => ?_, R.sub, fun b u e k => ?_, fun b e => ?_, R.frz, R.rho, by rw [hl]; exact R.nc, fun a j c d e1 e2 z => ?_, fun j d e => ?_, R.len, fun j s e => ?_, ?_⟩
  · rw [upd_ne (ne_of_none e q1)]; exact R.le b u e
  · have nb : b ≠ ρ i := fun z => by
      rcases q4 with q4 | q4
      · exact k i q4 (by rw [z]; exact (R.rho i q4).symm)
      · rw [z, q4] at e; cases e
    rw [upd_ne nb]; exact R.keep b u e k
  · by_cases hb : b = ρ i
    · subst hb; rw [upd_same] at e; cases e
    · rw [upd_ne hb] at e; exact R.there b e
  · obtain ⟨c1, f1⟩ := any a c e1
    obtain ⟨c2, f2⟩ := any j d e2
    exact R.inj a j c1 c2 f1 f2 z
  · rw [hl]
    rcases old j d e with ⟨h, f⟩ | ⟨h, h2⟩
    · obtain ⟨p1, ⟨w, p2, p3⟩, p4⟩ := R.cell j d f
      have ne : ρ j ≠ ρ i := fun z => h (R.inj j i d c f hi z)
      exact ⟨p1, ⟨w, by rw [upd_ne ne]; exact p2, p3⟩, p4⟩
    · subst h h2
      exact ⟨q1, ⟨o, upd_same, hc⟩, q4⟩
  · rw [hl]; exact R.slot j s e
  · rw [hl]; exact R.stk
end
end Sy

set_option Elab.async false
set_option linter.all false
set_option maxRecDepth 100000
set_option maxHeartbeats 400000
namespace Sy
open PySem L2
/-! ## judgements -/
def We (B : Bs) (te : TE) (g : Gs) (S : List SV) (C : Cs) (k : SV → Cs → Prop) : Prop :=
  ∀ σ vs H Q, Rel B g S C σ vs H → (∀ s C' v H', k s C' → Rel B g (s :: S) C' σ (v :: vs) H' → Q v H') → te σ H Q
def Wt (B : Bs) (tt : TT) (g : Gs) (S : List SV) (C : Cs) (k : Bool → Cs → Prop) : Prop :=
  ∀ σ vs H Q, Rel B g S C σ vs H → (∀ b C' H', k b C' → Rel B g S C' σ vs H' → Q b H') → tt σ H Q
def Wa (B : Bs) (ta : TA) (g : Gs) (S : List SV) (C : Cs) (k : List SV → Cs → Prop) : Prop :=
  ∀ σ vs H Q, Rel B g S C σ vs H → (∀ ss C' us H', k ss C' → us.length = ss.length → Rel B g (ss.reverse ++ S) C' σ (us.reverse ++ vs) H' → Q us H') → ta σ H Q
structure Ks where
  nx : Gs → Cs → Prop
  rt : SV → Cs → Prop
  bk : Gs → Cs → Prop := fun _ _ => False
  ct : Gs → Cs → Prop := fun _ _ => False
structure Dk (B : Bs) (S : List SV) (vs : List V) (k : Ks) (D : Ends) : Prop where
  nx : ∀ g C σ H, k.nx g C → Rel B g S C σ vs H → D.nx σ H
  rt : ∀ s C v H, k.rt s C → Rel B [] [s] C [] [v] H → D.rt v H
  bk : ∀ g C σ H, k.bk g C → Rel B g S C σ vs H → D.bk σ H
  ct : ∀ g C σ H, k.ct g C → Rel B g S C σ vs H → D.ct σ H
def Ws (B : Bs) (t : TS) (g : Gs) (S : List SV) (C : Cs) (k : Ks) : Prop := ∀ σ vs H D, Rel B g S C σ vs H → Dk B S vs k D → t D σ H
/-- a two-place operation on values; the second operand on top -/
def Wr (B : Bs) (r : R2) (x y : SV) (g : Gs) (S : List SV) (C : Cs) (k : SV → Cs → Prop) : Prop :=
  ∀ σ vs H Q v w, Rel B g (y :: x :: S) C σ (w :: v :: vs) H → (∀ s C' u H', k s C' → Rel B g (s :: S) C' σ (u :: vs) H' → Q u H') → r v w H Q
/-- a built-in's call -/
def Wc (B : Bs) (r : List V → Hp → VK → Prop) (ss : List SV) (g : Gs) (S : List SV) (C : Cs) (k : SV → Cs → Prop) : Prop :=
  ∀ σ vs H Q us, us.length = ss.length → Rel B g (ss.reverse ++ S) C σ (us.reverse ++ vs) H → (∀ s C' u H', k s C' → Rel B g (s :: S) C' σ (u :: vs) H' → Q u H') → r us H Q
section
variable {B : Bs} {g : Gs} {S : List SV} {C : Cs} {k : SV → Cs → Prop} {kb : Bool → Cs → Prop} {ka : List SV → Cs → Prop} {te ta tb tc : TE} {tt tu : TT}
theorem Rel.drop1 {x : SV} {σ : St} {v : V} {vs : List V} {H : Hp} (R : Rel B g (x :: S) C σ (v :: vs) H) : Rel B g S C σ vs H := let ⟨F, ρ, R⟩ := R; ⟨F, ρ, R.pop.1⟩
/-- the one below the top away -/
theorem Rel.drop2 {x y : SV} {σ : St} {v w : V} {vs : List V} {H : Hp} (R : Rel B g (y :: x :: S) C σ (w :: v :: vs) H) : Rel B g (y :: S) C σ (w :: vs) H :=
  let ⟨F, ρ, R⟩ := R
  let ⟨R1, h⟩ := R.pop
  ⟨F, ρ, R1.pop.1.push h⟩
theorem Rel.top {x : SV} {σ : St} {v : V} {vs : List V} {H : Hp} (R : Rel B g (x :: S) C σ (v :: vs) H) : ∃ F ρ, Rl B g S C σ vs H F ρ ∧ SIs B.K F ρ C.length v x := let ⟨F, ρ, R⟩ := R; ⟨F, ρ, R.pop⟩
/-- a scalar on top -/
def scS : V → Option D
  | .non => some .none
  | .bl b => some (.bool b)
  | .int i => some (.int i)
  | .str x => some (.str x)
  | _ => none
theorem scS_is {K : PySem.W.Frag} {F : Hp} {v : V} {d : D} (h : scS v = some d) : Is K F v d := by
  cases v with
  | non => cases h; exact .non
  | bl b => cases h; exact .bl b
  | int i => cases h; exact .int i
  | str x => cases h; exact .str x
  | _ => cases h
theorem Rel.sc {σ : St} {v : V} {d : D} {vs : List V} {H : Hp} (R : Rel B g S C σ vs H) (h : scS v = some d) : Rel B g (.dat d :: S) C σ (v :: vs) H := let ⟨F, ρ, R⟩ := R; ⟨F, ρ, R.push (scS_is h)⟩
theorem Is.int_inv {K : PySem.W.Frag} {F : Hp} {v : V} {i : Int} (h : Is K F v (.int i)) : v = .int i := by cases h; rfl
theorem Is.bl_inv {K : PySem.W.Frag} {F : Hp} {v : V} {i : Bool} (h : Is K F v (.bool i)) : v = .bl i := by cases h; rfl
theorem Is.str_inv {K : PySem.W.Frag} {F : Hp} {v : V} {i : Str} (h : Is K F v (.str i)) : v = .str i := by cases h; rfl
theorem Is.non_inv {K : PySem.W.Frag} {F : Hp} {v : V} (h : Is K F v .none) : v = .non := by cases h; rfl
theorem Rel.top_int {σ : St} {v : V} {i : Int} {vs : List V} {H : Hp} (R : Rel B g (.dat (.int i) :: S) C σ (v :: vs) H) : v = .int i := let ⟨_, _, _, h⟩ := R.top; Is.int_inv h
theorem Rel.top_bl {σ : St} {v : V} {i : Bool} {vs : List V} {H : Hp} (R : Rel B g (.dat (.bool i) :: S) C σ (v :: vs) H) : v = .bl i := let ⟨_, _, _, h⟩ := R.top; Is.bl_inv h
theorem Rel.top_str {σ : St} {v : V} {i : Str} {vs : List V} {H : Hp} (R : Rel B g (.dat (.str i) :: S) C σ (v :: vs) H) : v = .str i := let ⟨_, _, _, h⟩ := R.top; Is.str_inv h

/-! ### names, constants -/
theorem we_var {i : Nat} {s : SV} (h : g[i]? = some (some s)) (q : k s C) : We B (tVar i) g S C k := fun σ vs H Q ⟨F, ρ, R⟩ kq =>
  let ⟨v, e, R'⟩ := R.var h
  ⟨v, e, kq s C v H q ⟨F, ρ, R'⟩⟩
theorem we_sc {v : V} {d : D} (h : scS v = some d) (q : k (.dat d) C) : We B (tC v) g S C k := fun σ vs H Q R kq => kq _ C v H q (R.sc h)
theorem we_int {i : Int} (q : k (.dat (.int i)) C) : We B (tC (.int i)) g S C k := we_sc rfl q
theorem we_bl {i : Bool} (q : k (.dat (.bool i)) C) : We B (tC (.bl i)) g S C k := we_sc rfl q
theorem we_str {i : Str} (q : k (.dat (.str i)) C) : We B (tC (.str i)) g S C k := we_sc rfl q
theorem we_non (q : k (.dat .none) C) : We B (tC .non) g S C k := we_sc rfl q
theorem We.imp {k' : SV → Cs → Prop} (h : We B te g S C k) (i : ∀ s C', k s C' → k' s C') : We B te g S C k' := fun σ vs H Q R q => h σ vs H Q R fun s C' v H' e => q s C' v H' (i s C' e)
theorem Wt.imp {k' : Bool → Cs → Prop} (h : Wt B tt g S C kb) (i : ∀ s C', kb s C' → k' s C') : Wt B tt g S C k' := fun σ vs H Q R q => h σ vs H Q R fun s C' H' e => q s C' H' (i s C' e)

/-! ### operators -/
theorem we_op {r : R2} (h : We B ta g S C fun x C1 => We B tb g (x :: S) C1 fun y C2 => Wr B r x y g S C2 k) : We B (tOp r ta tb) g S C k := fun σ vs H Q R kq =>
  h σ vs H _ R fun x C1 v H1 h1 R1 => h1 σ (v :: vs) H1 _ R1 fun y C2 w H2 h2 R2 => h2 σ vs H2 Q v w R2 kq
theorem wr_ii {f : Int → Int → Int} {i j : Int} (q : k (.dat (.int (f i j))) C) : Wr B (rI0 fun i j => .int (f i j)) (.dat (.int i)) (.dat (.int j)) g S C k := fun σ vs H Q v w R kq =>
  ⟨i, j, R.drop1.top_int, R.top_int, kq _ C _ H q (R.drop1.drop1.sc rfl)⟩
/-! ### more operators -/
theorem wr_ib {f : Int → Int → Bool} {i j : Int} (q : k (.dat (.bool (f i j))) C) : Wr B (rI0 fun i j => .bl (f i j)) (.dat (.int i)) (.dat (.int j)) g S C k := fun σ vs H Q v w R kq =>
  ⟨i, j, R.drop1.top_int, R.top_int, kq _ C _ H q (R.drop1.drop1.sc rfl)⟩
theorem wr_iC {P : Int → Int → Prop} {f : Int → Int → Int} {i j : Int} (c : P i j) (q : k (.dat (.int (f i j))) C) : Wr B (rI P fun i j => .int (f i j)) (.dat (.int i)) (.dat (.int j)) g S C k := fun σ vs H Q v w R kq =>
  ⟨i, j, R.drop1.top_int, R.top_int, c, kq _ C _ H q (R.drop1.drop1.sc rfl)⟩
theorem Wr.inl {r r' : R2} {x y : SV} (h : Wr B r x y g S C k) : Wr B (fun x y H Q => r x y H Q ∨ r' x y H Q) x y g S C k := fun σ vs H Q v w R kq => .inl (h σ vs H Q v w R kq)
theorem Wr.inr {r r' : R2} {x y : SV} (h : Wr B r' x y g S C k) : Wr B (fun x y H Q => r x y H Q ∨ r' x y H Q) x y g S C k := fun σ vs H Q v w R kq => .inr (h σ vs H Q v w R kq)
theorem we_un {f : Int → Int} (h : We B ta g S C fun x C1 => ∃ i, x = .dat (.int i) ∧ k (.dat (.int (f i))) C1) : We B (tUn (rU fun i => .int (f i)) ta) g S C k := fun σ vs H Q R kq =>
  h σ vs H _ R fun x C1 v H1 ⟨i, e, q⟩ R1 => by
    subst e
    exact ⟨i, R1.top_int, kq _ C1 _ H1 q (R1.drop1.sc rfl)⟩
theorem we_op_str {i j : Str} (hl : i.length + j.length ≤ sizeLine) (q : k (.dat (.str (i ++ j))) C) : Wr B (fun x y H Q => ∃ i j, x = .str i ∧ y = .str j ∧ i.length + j.length ≤ sizeLine ∧ Q (.str (i ++ j)) H) (.dat (.str i)) (.dat (.str j)) g S C k := fun σ vs H Q v w R kq =>
  ⟨i, j, R.drop1.top_str, R.top_str, hl, kq _ C _ H q (R.drop1.drop1.sc rfl)⟩
/-! ### tests -/
theorem wt_test (h : We B te g S C fun x C1 => ∃ b, x = .dat (.bool b) ∧ kb b C1) : Wt B (tTest te) g S C kb := fun σ vs H Q R kq =>
  h σ vs H _ R fun x C1 v H1 ⟨b, e, q⟩ R1 => by
    subst e
    exact ⟨b, R1.top_bl, kq b C1 H1 q R1.drop1⟩
theorem wt_B (h : We B te g S C fun x C1 => ∃ b, x = .dat (.bool b) ∧ kb b C1) : Wt B (tB te) g S C kb := fun σ vs H Q R kq =>
  h σ vs H _ R fun x C1 v H1 ⟨b, e, q⟩ R1 => by
    subst e
    exact ⟨b, R1.top_bl, kq b C1 H1 q R1.drop1⟩
theorem wt_not (h : Wt B tt g S C fun b C1 => kb (!b) C1) : Wt B (tNot tt) g S C kb := fun σ vs H Q R kq => h σ vs H _ R fun b C1 H1 q R1 => kq _ C1 H1 q R1
/-- joined: the second test's answer is told under the first's -/
theorem wt_and (h : Wt B tt g S C fun b C1 => ∃ c, (b = true → Wt B tu g S C1 fun b' C2 => C2 = C1 ∧ b' = c) ∧ kb (b && c) C1) : Wt B (tAnd tt tu) g S C kb := fun σ vs H Q R kq =>
  h σ vs H _ R fun b C1 H1 ⟨c, q1, q2⟩ R1 => by
    cases b with
    | true => exact q1 rfl σ vs H1 Q R1 fun b' C2 H2 ⟨e1, e2⟩ R2 => by subst e1 e2; exact kq _ _ H2 q2 R2
    | false => exact kq _ C1 H1 q2 R1
theorem wt_or (h : Wt B tt g S C fun b C1 => ∃ c, (b = false → Wt B tu g S C1 fun b' C2 => C2 = C1 ∧ b' = c) ∧ kb (b || c) C1) : Wt B (tOr tt tu) g S C kb := fun σ vs H Q R kq =>
  h σ vs H _ R fun b C1 H1 ⟨c, q1, q2⟩ R1 => by
    cases b with
    | false => exact q1 rfl σ vs H1 Q R1 fun b' C2 H2 ⟨e1, e2⟩ R2 => by subst e1 e2; exact kq _ _ H2 q2 R2
    | true => exact kq _ C1 H1 q2 R1
theorem we_andV (h : We B ta g S C fun x C1 => ∃ b c, x = .dat (.bool b) ∧ (b = true → We B tb g S C1 fun y C2 => C2 = C1 ∧ y = .dat (.bool c)) ∧ k (.dat (.bool (b && c))) C1) : We B (tAndV ta tb) g S C k := fun σ vs H Q R kq =>
  h σ vs H _ R fun x C1 v H1 ⟨b, c, e, q1, q2⟩ R1 => by
    subst e
    refine ⟨b, R1.top_bl, ?_⟩
    cases b with
    | true => exact q1 rfl σ vs H1 Q R1.drop1 fun y C2 v' H2 ⟨e1, e2⟩ R2 => by subst e1 e2; exact kq _ _ _ H2 q2 R2
    | false => exact kq _ C1 _ H1 q2 (R1.drop1.sc rfl)
theorem we_orV (h : We B ta g S C fun x C1 => ∃ b c, x = .dat (.bool b) ∧ (b = false → We B tb g S C1 fun y C2 => C2 = C1 ∧ y = .dat (.bool c)) ∧ k (.dat (.bool (b || c))) C1) : We B (tOrV ta tb) g S C k := fun σ vs H Q R kq =>
  h σ vs H _ R fun x C1 v H1 ⟨b, c, e, q1, q2⟩ R1 => by
    subst e
    refine ⟨b, R1.top_bl, ?_⟩
    cases b with
    | false => exact q1 rfl σ vs H1 Q R1.drop1 fun y C2 v' H2 ⟨e1, e2⟩ R2 => by subst e1 e2; exact kq _ _ _ H2 q2 R2
    | true => exact kq _ C1 _ H1 q2 (R1.drop1.sc rfl)
theorem we_notV (h : We B ta g S C fun x C1 => ∃ b, x = .dat (.bool b) ∧ k (.dat (.bool (!b))) C1) : We B (tNotV ta) g S C k := fun σ vs H Q R kq =>
  h σ vs H _ R fun x C1 v H1 ⟨b, e, q⟩ R1 => by
    subst e
    exact ⟨b, R1.top_bl, kq _ C1 _ H1 q (R1.drop1.sc rfl)⟩
theorem we_if (h : Wt B tt g S C fun b C1 => (b = true → We B ta g S C1 k) ∧ (b = false → We B tb g S C1 k)) : We B (tIf tt ta tb) g S C k := fun σ vs H Q R kq =>
  h σ vs H _ R fun b C1 H1 ⟨q1, q2⟩ R1 => by
    cases b with
    | true => exact q1 rfl σ vs H1 Q R1 kq
    | false => exact q2 rfl σ vs H1 Q R1 kq
/-- joined -/
theorem we_ifJ (h : Wt B tt g S C fun b C1 => ∃ d1 d2, (b = true → We B ta g S C1 fun y C2 => C2 = C1 ∧ y = .dat d1) ∧ (b = false → We B tb g S C1 fun y C2 => C2 = C1 ∧ y = .dat d2) ∧ k (.dat (if b then d1 else d2)) C1) : We B (tIf tt ta tb) g S C k := fun σ vs H Q R kq =>
  h σ vs H _ R fun b C1 H1 ⟨d1, d2, q1, q2, q⟩ R1 => by
    cases b with
    | true => exact q1 rfl σ vs H1 Q R1 fun y C2 v' H2 ⟨e1, e2⟩ R2 => by subst e1 e2; exact kq _ _ _ H2 q R2
    | false => exact q2 rfl σ vs H1 Q R1 fun y C2 v' H2 ⟨e1, e2⟩ R2 => by subst e1 e2; exact kq _ _ _ H2 q R2
/-- a op b op' c of ints, as a value -/
theorem we_chain {p p' : Int → Int → Bool} (h : We B ta g S C fun x C1 => We B tb g (x :: S) C1 fun y C2 => ∃ i j l, x = .dat (.int i) ∧ y = .dat (.int j) ∧ (p i j = true → We B tc g (.dat (.int j) :: S) C2 fun z C3 => C3 = C2 ∧ z = .dat (.int l)) ∧ k (.dat (.bool (p i j && p' j l))) C2) :
    We B (tChain (rI0 fun i j => .bl (p i j)) (rI0 fun i j => .bl (p' i j)) ta tb tc) g S C k := fun σ vs H Q R kq =>
  h σ vs H _ R fun x C1 v H1 h1 R1 => h1 σ (v :: vs) H1 _ R1 fun y C2 w H2 ⟨i, j, l, e1, e2, q1, q2⟩ R2 => by
    subst e1 e2
    refine ⟨i, j, R2.drop1.top_int, R2.top_int, p i j, rfl, ?_⟩
    cases hp : p i j with
    | true =>
      show tc σ H2 _
      refine q1 hp σ (w :: vs) H2 _ R2.drop2 fun z C3 u H3 ⟨e3, e4⟩ R3 => ?_
      subst e3 e4
      refine ⟨j, l, R2.top_int, R3.top_int, ?_⟩
      rw [hp] at q2
      exact kq _ _ _ H3 q2 (R3.drop1.drop1.sc rfl)
    | false =>
      rw [hp] at q2
      exact kq _ _ _ H2 q2 (R2.drop1.drop1.sc rfl)
/-! ### argument lists -/
theorem wa_nil (q : ka [] C) : Wa B tNil g S C ka := fun σ vs H Q R kq => kq [] C [] H q rfl R
theorem wa_cons {tr : TA} (h : We B te g S C fun x C1 => Wa B tr g (x :: S) C1 fun ss C2 => ka (x :: ss) C2) : Wa B (tCons te tr) g S C ka := fun σ vs H Q R kq =>
  h σ vs H _ R fun x C1 v H1 h1 R1 => h1 σ (v :: vs) H1 _ R1 fun ss C2 us H2 q l R2 => kq (x :: ss) C2 (v :: us) H2 q (by simp [l]) (by simpa using R2)
/-! ### built-in calls -/
theorem we_cb {r : List V → Hp → VK → Prop} {ta : TA} (h : Wa B ta g S C fun ss C1 => Wc B r ss g S C1 k) : We B (tCB r ta) g S C k := fun σ vs H Q R kq =>
  h σ vs H _ R fun ss C1 us H1 q l R1 => q σ vs H1 Q us l R1 kq
/-! ### statements -/
variable {t u : TS} {C' : Cs} {kk : Ks}
theorem Dk.seq {P : Gs → Cs → Prop} {vs : List V} {D : Ends} (h : Dk B S vs kk D) {E : St → Hp → Prop} (e : ∀ g C σ H, P g C → Rel B g S C σ vs H → E σ H) : Dk B S vs { kk with nx := P } { D with nx := E } := ⟨e, h.rt, h.bk, h.ct⟩
theorem ws_seq (h : Ws B t g S C { kk with nx := fun g' C' => Ws B u g' S C' kk }) : Ws B (tSeq t u) g S C kk := fun σ vs H D R d => h σ vs H _ R (d.seq fun g' C' σ' H' q R' => q σ' vs H' D R' d)
theorem ws_cut (M : Gs → Cs → Prop) (h : Ws B t g S C { kk with nx := M }) (q : ∀ g' C', M g' C' → Ws B u g' S C' kk) : Ws B (tSeq t u) g S C kk := fun σ vs H D R d => h σ vs H _ R (d.seq fun g' C' σ' H' m R' => q g' C' m σ' vs H' D R' d)
theorem ws_next (q : kk.nx g C) : Ws B tNext g S C kk := fun σ vs H D R d => d.nx g C σ H q R
theorem ws_brk (q : kk.bk g C) : Ws B tBreak g S C kk := fun σ vs H D R d => d.bk g C σ H q R
theorem ws_cont (q : kk.ct g C) : Ws B tCont g S C kk := fun σ vs H D R d => d.ct g C σ H q R
theorem ws_asg {i : Nat} (h : We B te g S C fun s C1 => kk.nx (g.set i (some s)) C1) : Ws B (tAsg te (gName i)) g S C kk := fun σ vs H D R d =>
  h σ vs H _ R fun s C1 v H1 q R1 => d.nx _ _ _ _ q (let ⟨F, ρ, R1⟩ := R1; ⟨F, ρ, R1.set⟩)
theorem ws_drop (h : We B te g S C fun _ C1 => kk.nx g C1) : Ws B (tDrop te) g S C kk := fun σ vs H D R d => h σ vs H _ R fun s C1 v H1 q R1 => d.nx _ _ _ _ q R1.drop1
theorem Rel.bare {x : SV} {σ : St} {v : V} {vs : List V} {H : Hp} (R : Rel B g (x :: S) C σ (v :: vs) H) : Rel B [] [x] C [] [v] H := let ⟨F, ρ, R⟩ := R; let ⟨R1, h⟩ := R.pop; ⟨F, ρ, { R1 with len := rfl, slot := fun i s e => by simp at e, stk := .cons h .nil }⟩
/-- what is returned, a ghost step ahead -/
def Rx (B : Bs) (P : SV → Cs → Prop) (s : SV) (C : Cs) : Prop := ∀ v H, Rel B [] [s] C [] [v] H → ∃ s' C', P s' C' ∧ Rel B [] [s'] C' [] [v] H
theorem rx_here {P : SV → Cs → Prop} {s : SV} (h : P s C) : Rx B P s C := fun v H R => ⟨s, C, h, R⟩
theorem ws_ret (h : We B te g S C fun s C1 => Rx B kk.rt s C1) : Ws B (tRet te) g S C kk := fun σ vs H D R d => h σ vs H _ R fun s C1 v H1 q R1 =>
  let ⟨s', C', p, R2⟩ := q v H1 R1.bare
  d.rt s' C' v H1 p R2
theorem ws_retN (h : kk.rt (.dat .none) C) : Ws B tRetN g S C kk := fun σ vs H D R d => d.rt _ C _ H h (R.sc (v := .non) rfl).bare
theorem ws_if (h : Wt B tt g S C fun b C1 => (b = true → Ws B t g S C1 kk) ∧ (b = false → Ws B u g S C1 kk)) : Ws B (tIfS tt t u) g S C kk := fun σ vs H D R d =>
  h σ vs H _ R fun b C1 H1 ⟨q1, q2⟩ R1 => by
    cases b with
    | true => exact q1 rfl σ vs H1 D R1 d
    | false => exact q2 rfl σ vs H1 D R1 d
/-- a ghost step ahead of what follows -/
def Nx (B : Bs) (S : List SV) (P : Gs → Cs → Prop) (g : Gs) (C : Cs) : Prop := ∀ σ vs H, Rel B g S C σ vs H → ∃ g' C', P g' C' ∧ Rel B g' S C' σ vs H
theorem nx_here {P : Gs → Cs → Prop} (h : P g C) : Nx B S P g C := fun σ vs H R => ⟨g, C, h, R⟩
theorem ws_nx (h : Ws B t g S C { kk with nx := Nx B S kk.nx }) : Ws B t g S C kk := fun σ vs H D R d => h σ vs H D R ⟨fun g' C' σ' H' n R' => let ⟨g2, C2, p, R2⟩ := n σ' vs H' R'; d.nx g2 C2 σ' H' p R2, d.rt, d.bk, d.ct⟩
theorem ws_never (h : False) : Ws B tNever g S C kk := h.elim
/-- two names at once -/
theorem ws_par {i j : Nat} {ta : TA} (h : Wa B ta g S C fun ss C1 => ∃ x y, ss = [x, y] ∧ kk.nx ((g.set i (some x)).set j (some y)) C1) : Ws B (tPar i j ta) g S C kk := fun σ vs H D R d =>
  h σ vs H _ R fun ss C1 us H1 ⟨x, y, e, q⟩ l R1 => by
    subst e
    match us, l with
    | [a, b], _ =>
      refine ⟨a, b, rfl, d.nx _ _ _ _ q ?_⟩
      have R2 : Rel B g (y :: x :: S) C1 σ (b :: a :: vs) H1 := by simpa using R1
      obtain ⟨F, ρ, R2⟩ := R2
      obtain ⟨R3, hy⟩ := R2.pop
      exact ⟨F, ρ, (R3.set.push hy).set⟩
theorem ws_par3 {i j l : Nat} {ta : TA} (h : Wa B ta g S C fun ss C1 => ∃ x y z, ss = [x, y, z] ∧ kk.nx (((g.set i (some x)).set j (some y)).set l (some z)) C1) : Ws B (tPar3 i j l ta) g S C kk := fun σ vs H D R d =>
  h σ vs H _ R fun ss C1 us H1 ⟨x, y, z, e, q⟩ ll R1 => by
    subst e
    match us, ll with
    | [a, b, c], _ =>
      refine ⟨a, b, c, rfl, d.nx _ _ _ _ q ?_⟩
      have R2 : Rel B g (z :: y :: x :: S) C1 σ (c :: b :: a :: vs) H1 := by simpa using R1
      obtain ⟨F, ρ, R2⟩ := R2
      obtain ⟨R3, hz⟩ := R2.pop
      obtain ⟨R4, hy⟩ := R3.pop
      exact ⟨F, ρ, ((R4.set.push hy).set.push hz).set⟩
end
end Sy

set_option Elab.async false
set_option linter.all false
set_option maxRecDepth 100000
set_option maxHeartbeats 400000
namespace Sy
open PySem L2
/-! ## lists and tuples -/
inductive LV (C : Cs) : SV → List SV → Prop
  | dat {ds : List D} : LV C (.dat (.list ds)) (ds.map .dat)
  | cell {i : Nat} {xs : List SV} : C[i]? = some (some (.lst xs)) → LV C (.ref i) xs
section
variable {B : Bs} {g : Gs} {S : List SV} {C : Cs} {k : SV → Cs → Prop} {kb : Bool → Cs → Prop} {ka : List SV → Cs → Prop} {te ta tb tc : TE} {tt tu : TT}
variable {σ : St} {vs : List V} {H : Hp} {F : Hp} {ρ : Nat → Addr}
theorem sis_all {K : PySem.W.Frag} {F : Hp} {ρ : Nat → Addr} {n : Nat} : ∀ {ws : List V} {ds : List D}, IsAll K F ws ds → Paired (SIs K F ρ n) ws (ds.map SV.dat)
  | _, _, .nil => .nil
  | _, _, .cons h r => .cons h (sis_all r)
theorem all_sis {K : PySem.W.Frag} {F : Hp} {ρ : Nat → Addr} {n : Nat} : ∀ {ws : List V} {ds : List D}, Paired (SIs K F ρ n) ws (ds.map SV.dat) → IsAll K F ws ds
  | [], [], _ => .nil
  | _ :: _, _ :: _, .cons h r => .cons h (all_sis r)
  | [], _ :: _, h => nomatch h
  | _ :: _, [], h => nomatch h
theorem Rl.lv {v : V} {s : SV} {xs : List SV} (R : Rl B g S C σ vs H F ρ) (h : SIs B.K F ρ C.length v s) (l : LV C s xs) : ∃ a ws, v = .ref a ∧ H a = some (.lst ws) ∧ Paired (SIs B.K F ρ C.length) ws xs := by
  cases l with
  | dat =>
    cases h with
    | lst e r => exact ⟨_, _, rfl, R.le _ _ e, sis_all r⟩
  | cell e =>
    obtain ⟨_, ⟨o, e2, q⟩, _⟩ := R.cell _ _ e
    cases q with
    | lst q => exact ⟨_, _, h.2, e2, q⟩
theorem Rl.tv {v : V} {ds : List D} (R : Rl B g S C σ vs H F ρ) (h : SIs B.K F ρ C.length v (.dat (.tuple ds))) : ∃ a ws, v = .ref a ∧ SqT B.K H a ws ∧ Paired (SIs B.K F ρ C.length) ws (ds.map .dat) := by
  cases h with
  | tup e r => exact ⟨_, _, rfl, R.le.sqt e, sis_all r⟩
theorem paired_at {α β : Type} {P : α → β → Prop} : ∀ {xs : List α} {ys : List β}, Paired P xs ys → ∀ {i : Nat} {y : β}, ys[i]? = some y → ∃ x, xs[i]? = some x ∧ P x y
  | _, _, .nil, _, _, e => by simp at e
  | _, _, .cons h r, 0, _, e => by
    simp only [List.getElem?_cons_zero, Option.some.injEq] at e
    subst e
    exact ⟨_, rfl, h⟩
  | _, _, .cons h r, i + 1, _, e => by
    simp only [List.getElem?_cons_succ] at e ⊢
    exact paired_at r e
theorem paired_at' {α β : Type} {P : α → β → Prop} : ∀ {xs : List α} {ys : List β}, Paired P xs ys → ∀ {i : Nat} {x : α}, xs[i]? = some x → ∃ y, ys[i]? = some y ∧ P x y
  | _, _, .nil, _, _, e => by simp at e
  | _, _, .cons h r, 0, _, e => by
    simp only [List.getElem?_cons_zero, Option.some.injEq] at e
    subst e
    exact ⟨_, rfl, h⟩
  | _, _, .cons h r, i + 1, _, e => by
    simp only [List.getElem?_cons_succ] at e ⊢
    exact paired_at' r e
theorem atI_pair {α β : Type} {P : α → β → Prop} {xs : List α} {ys : List β} (h : Paired P xs ys) {i : Int} {y : β} (e : atI ys i = some y) : ∃ x, atI xs i = some x ∧ P x y := by
  unfold atI at e ⊢
  rw [Paired.length h]
  cases q : ixN ys.length i with
  | none => rw [q] at e; cases e
  | some j =>
    rw [q] at e
    exact paired_at h e
/-- the place i of a list as ints have it: a whole number within -/
theorem at_nn {α : Type} {xs : List α} {i : Int} (h0 : 0 ≤ i) (h1 : i < xs.length) : atI xs i = some (xs[i.toNat]'(by omega)) := by
  have h2 : i.toNat < xs.length := by omega
  unfold atI ixN
  rw [if_pos h0, if_pos h1]
  exact List.getElem?_eq_getElem h2
/-- x[i] -/
theorem Wr.imp {r r' : R2} {x y : SV} (h : Wr B r x y g S C k) (i : ∀ v w H Q, r v w H Q → r' v w H Q) : Wr B r' x y g S C k := fun σ vs H Q v w R kq => i _ _ _ _ (h σ vs H Q v w R kq)
theorem wr_ixL {x s : SV} {xs : List SV} {i : Int} (l : LV C x xs) (e : atI xs i = some s) (q : k s C) : Wr B (rIxL B.K) x (.dat (.int i)) g S C k := fun σ vs H Q v w R kq => by
  obtain ⟨F, ρ, R1, hx⟩ := R.drop1.top
  obtain ⟨a, ws, rfl, ha, hp⟩ := R1.lv hx l
  obtain ⟨u, e2, hu⟩ := atI_pair hp e
  exact ⟨a, ws, i, u, rfl, R.top_int, SqL.of ha, e2, kq s C u H q ⟨F, ρ, R1.push hu⟩⟩
theorem wr_ixScr {ns : List Int} {i n : Int} (e : atI ns i = some n) (q : k (.dat (.int n)) C) : Wr B (rIxL B.K) (.scr ns) (.dat (.int i)) g S C k := fun σ vs H Q v w R kq => by
  obtain ⟨F, ρ, R1, hx⟩ := R.drop1.top
  obtain ⟨a, rfl, ha⟩ := hx
  have e2 : atI (ns.map V.int) i = some (.int n) := by
    unfold atI at e ⊢
    rw [List.length_map]
    cases q : ixN ns.length i with
    | none => rw [q] at e; cases e
    | some j =>
      rw [q] at e
      show (ns.map V.int)[j]? = _
      have e3 : ns[j]? = some n := e
      rw [List.getElem?_map, e3]
      rfl
  exact ⟨a, _, i, .int n, rfl, R.top_int, R1.le.sq ha, e2, kq _ C _ H q ⟨F, ρ, R1.push (.int n)⟩⟩
theorem wr_ixT {ds : List D} {d : D} {i : Int} (e : atI ds i = some d) (q : k (.dat d) C) : Wr B (rIxT B.K) (.dat (.tuple ds)) (.dat (.int i)) g S C k := fun σ vs H Q v w R kq => by
  obtain ⟨F, ρ, R1, hx⟩ := R.drop1.top
  obtain ⟨a, ws, rfl, ha, hp⟩ := R1.tv hx
  have e' : atI (ds.map SV.dat) i = some (.dat d) := by
    unfold atI at e ⊢
    rw [List.length_map]
    cases q : ixN ds.length i with
    | none => rw [q] at e; cases e
    | some j =>
      rw [q] at e
      show (ds.map SV.dat)[j]? = _
      have e3 : ds[j]? = some d := e
      rw [List.getElem?_map, e3]
      rfl
  obtain ⟨u, e2, hu⟩ := atI_pair hp e'
  exact ⟨a, ws, i, u, rfl, R.top_int, ha, e2, kq (.dat d) C u H q ⟨F, ρ, R1.push hu⟩⟩
theorem wr_ixl {x s : SV} {xs : List SV} {i : Int} (l : LV C x xs) (e : atI xs i = some s) (q : k s C) : Wr B (rIx B.K) x (.dat (.int i)) g S C k := (wr_ixL l e q).imp fun _ _ _ _ h => .inl h
theorem wr_ixt {ds : List D} {d : D} {i : Int} (e : atI ds i = some d) (q : k (.dat d) C) : Wr B (rIx B.K) (.dat (.tuple ds)) (.dat (.int i)) g S C k := (wr_ixT e q).imp fun _ _ _ _ h => .inr (.inl h)
theorem wr_ixscr {ns : List Int} {i n : Int} (e : atI ns i = some n) (q : k (.dat (.int n)) C) : Wr B (rIx B.K) (.scr ns) (.dat (.int i)) g S C k := (wr_ixScr e q).imp fun _ _ _ _ h => .inl h
/-- several off the top -/
theorem paired_append {α β : Type} {P : α → β → Prop} : ∀ {xs xs' : List α} {ys ys' : List β}, xs.length = ys.length → Paired P (xs ++ xs') (ys ++ ys') → Paired P xs ys ∧ Paired P xs' ys'
  | [], _, [], _, _, h => ⟨.nil, h⟩
  | _ :: _, _, _ :: _, _, l, .cons h r => let ⟨a, b⟩ := paired_append (Nat.succ.inj l) r; ⟨.cons h a, b⟩
theorem paired_rev {α β : Type} {P : α → β → Prop} {xs : List α} {ys : List β} (h : Paired P xs ys) : Paired P xs.reverse ys.reverse := by
  induction h with
  | nil => exact .nil
  | cons h r ih =>
    rw [List.reverse_cons, List.reverse_cons]
    exact Paired.snoc ih h
theorem paired_app {α β : Type} {P : α → β → Prop} : ∀ {xs xs' : List α} {ys ys' : List β}, Paired P xs ys → Paired P xs' ys' → Paired P (xs ++ xs') (ys ++ ys')
  | _, _, _, _, .nil, s => s
  | _, _, _, _, .cons r t, s => .cons r (paired_app t s)
theorem popN {ss : List SV} {us : List V} (R : Rl B g (ss.reverse ++ S) C σ (us.reverse ++ vs) H F ρ) (l : us.length = ss.length) : Rl B g S C σ vs H F ρ ∧ Paired (SIs B.K F ρ C.length) us ss := by
  obtain ⟨h1, h2⟩ := paired_append (by simpa using l) R.stk
  refine ⟨{ R with stk := h2 }, ?_⟩
  have := paired_rev h1
  simpa using this
/-- displays: frozen at once -/
theorem we_lst {t : TA} (h : Wa B t g S C fun ss C1 => ∃ ds : List D, ss = ds.map .dat ∧ ds.length ≤ sizeLine ∧ k (.dat (.list ds)) C1) : We B (tLst t) g S C k := fun σ vs H Q R kq =>
  h σ vs H _ R fun ss C1 us H1 ⟨ds, e, hl, q⟩ l R1 => by
    subst e
    refine ⟨by rw [l, List.length_map]; exact hl, fun p hp => ?_⟩
    obtain ⟨F, ρ, R2⟩ := R1
    obtain ⟨R3, hu⟩ := popN R2 l
    obtain ⟨R4, L⟩ := R3.lay (o := .lst us) hp
    exact kq _ C1 _ _ q ⟨_, ρ, R4.push (.lst upd_same ((all_sis hu).mono L))⟩
/-- .. as a cell -/
theorem we_lstC {t : TA} (h : Wa B t g S C fun ss C1 => ss.length ≤ sizeLine ∧ k (.ref C1.length) (C1 ++ [some (.lst ss)])) : We B (tLst t) g S C k := fun σ vs H Q R kq =>
  h σ vs H _ R fun ss C1 us H1 ⟨hl, q⟩ l R1 => by
    refine ⟨by rw [l]; exact hl, fun p hp => ?_⟩
    obtain ⟨F, ρ, R2⟩ := R1
    obtain ⟨R3, hu⟩ := popN R2 l
    exact kq _ _ _ _ q ⟨F, _, R3.lay_c hp (.lst hu)⟩
theorem we_tup {t : TA} (h : Wa B t g S C fun ss C1 => ∃ ds : List D, ss = ds.map .dat ∧ ds.length ≤ sizeLine ∧ k (.dat (.tuple ds)) C1) : We B (tTup t) g S C k := fun σ vs H Q R kq =>
  h σ vs H _ R fun ss C1 us H1 ⟨ds, e, hl, q⟩ l R1 => by
    subst e
    refine ⟨by rw [l, List.length_map]; exact hl, fun p hp => ?_⟩
    obtain ⟨F, ρ, R2⟩ := R1
    obtain ⟨R3, hu⟩ := popN R2 l
    obtain ⟨R4, L⟩ := R3.lay (o := .tup us) hp
    exact kq _ C1 _ _ q ⟨_, ρ, R4.push (.tup (SqT.of upd_same) ((all_sis hu).mono L))⟩
/-- [*xs, ..] -/
theorem wa_star {tr : TA} (h : We B te g S C fun x C1 => ∃ xs, LV C1 x xs ∧ Wa B tr g (xs.reverse ++ S) C1 fun ss C2 => ka (xs ++ ss) C2) : Wa B (StX.tStar B.K te tr) g S C ka := fun σ vs H Q R kq =>
  h σ vs H _ R fun x C1 v H1 ⟨xs, lv, h1⟩ R1 => by
    obtain ⟨F, ρ, R2, hx⟩ := R1.top
    obtain ⟨a, ws, rfl, ha, hp⟩ := R2.lv hx lv
    refine ⟨a, ws, rfl, .inr (SqL.of ha), ?_⟩
    have R3 : Rel B g (xs.reverse ++ S) C1 σ (ws.reverse ++ vs) H1 := ⟨F, ρ, { R2 with stk := paired_app (paired_rev hp) R2.stk }⟩
    refine h1 σ _ H1 _ R3 fun ss C2 us H2 q l R4 => kq _ _ _ _ q (by simp [l, Paired.length hp]) ?_
    simpa using R4
/-! ### slices -/
def Wo (B : Bs) (to : TO) (g : Gs) (S : List SV) (C : Cs) (ko : Option Int → Cs → Prop) : Prop :=
  ∀ σ vs H Q, Rel B g S C σ vs H → (∀ o C' H', ko o C' → Rel B g S C' σ vs H' → Q o H') → to σ H Q
theorem wo_no {ko : Option Int → Cs → Prop} (q : ko none C) : Wo B tNoPart g S C ko := fun σ vs H Q R kq => kq none C H q R
theorem wo_some {ko : Option Int → Cs → Prop} (h : We B te g S C fun x C1 => ∃ i, x = .dat (.int i) ∧ ko (some i) C1) : Wo B (tPart te) g S C ko := fun σ vs H Q R kq =>
  h σ vs H _ R fun x C1 v H1 ⟨i, e, q⟩ R1 => by
    subst e
    exact ⟨i, R1.top_int, kq _ C1 H1 q R1.drop1⟩
/-- the part of a list -/
def cutL {α : Type} (xs : List α) (lo hi : Option Int) : List α := (xs.drop (HT.sIx xs.length 0 lo)).take (HT.sIx xs.length xs.length hi - HT.sIx xs.length 0 lo)
theorem paired_drop {α β : Type} {P : α → β → Prop} : ∀ {xs : List α} {ys : List β} (n : Nat), Paired P xs ys → Paired P (xs.drop n) (ys.drop n)
  | _, _, 0, r => r
  | _, _, _ + 1, .nil => .nil
  | _, _, n + 1, .cons _ t => paired_drop n t
theorem paired_take {α β : Type} {P : α → β → Prop} : ∀ {xs : List α} {ys : List β} (n : Nat), Paired P xs ys → Paired P (xs.take n) (ys.take n)
  | _, _, 0, _ => .nil
  | _, _, _ + 1, .nil => .nil
  | _, _, n + 1, .cons r t => .cons r (paired_take n t)
theorem cutL_map {α β : Type} (f : α → β) (xs : List α) (lo hi : Option Int) : cutL (xs.map f) lo hi = (cutL xs lo hi).map f := by
  unfold cutL
  rw [List.length_map, List.map_take, List.map_drop]
theorem paired_cut {P : V → SV → Prop} {ws : List V} {xs : List SV} (h : Paired P ws xs) (lo hi : Option Int) : Paired P (cutV ws lo hi) (cutL xs lo hi) := by
  unfold cutV cutL
  rw [Paired.length h]
  exact paired_take _ (paired_drop _ h)
def Wl (B : Bs) (r : V → Option Int → Option Int → Hp → VK → Prop) (x : SV) (lo hi : Option Int) (g : Gs) (S : List SV) (C : Cs) (k : SV → Cs → Prop) : Prop :=
  ∀ σ vs H Q v, Rel B g (x :: S) C σ (v :: vs) H → (∀ s C' u H', k s C' → Rel B g (s :: S) C' σ (u :: vs) H' → Q u H') → r v lo hi H Q
theorem we_sl {r : V → Option Int → Option Int → Hp → VK → Prop} {tl th : TO} (h : We B te g S C fun x C1 => Wo B tl g (x :: S) C1 fun lo C2 => Wo B th g (x :: S) C2 fun hi C3 => Wl B r x lo hi g S C3 k) : We B (tSl r te tl th) g S C k := fun σ vs H Q R kq =>
  h σ vs H _ R fun x C1 v H1 h1 R1 => h1 σ (v :: vs) H1 _ R1 fun lo C2 H2 h2 R2 => h2 σ (v :: vs) H2 _ R2 fun hi C3 H3 h3 R3 => h3 σ vs H3 Q v R3 kq
theorem Wl.imp {r r' : V → Option Int → Option Int → Hp → VK → Prop} {x : SV} {lo hi : Option Int} (h : Wl B r x lo hi g S C k) (i : ∀ v H Q, r v lo hi H Q → r' v lo hi H Q) : Wl B r' x lo hi g S C k := fun σ vs H Q v R kq => i _ _ _ (h σ vs H Q v R kq)
theorem wl_list {x : SV} {ds : List D} {lo hi : Option Int} (l : LV C x (ds.map .dat)) (q : k (.dat (.list (cutL ds lo hi))) C) : Wl B (rSlL B.K) x lo hi g S C k := fun σ vs H Q v R kq => by
  obtain ⟨F, ρ, R1, hx⟩ := R.top
  obtain ⟨a, ws, rfl, ha, hp⟩ := R1.lv hx l
  refine ⟨a, ws, rfl, SqL.of ha, fun p hp2 => ?_⟩
  have hc := paired_cut hp lo hi
  rw [cutL_map] at hc
  obtain ⟨R4, L⟩ := R1.lay (o := .lst (cutV ws lo hi)) hp2
  exact kq _ C _ _ q ⟨_, ρ, R4.push (.lst upd_same ((all_sis hc).mono L))⟩
/-! ### built-ins -/
def rLn (K : PySem.W.Frag) : List V → Hp → VK → Prop := fun xs H Q => ∃ x n, xs = [x] ∧ LenV K x H n ∧ Q (.int n) H
theorem cr_ln {X : Cx} : CallR X (.builtin "len") (rLn X.K) := call_len
def rAb : List V → Hp → VK → Prop := fun xs H Q => ∃ i, xs = [.int i] ∧ Q (.int (if i < 0 then -i else i)) H
theorem cr_ab {X : Cx} : CallR X (.builtin "abs") rAb := call_abs
def rMx2 : List V → Hp → VK → Prop := fun xs H Q => ∃ i j, xs = [.int i, .int j] ∧ Q (.int (if j > i then j else i)) H
theorem cr_mx2 {X : Cx} (hc : X.calm = true) : CallR X (.builtin "max") rMx2 := call_max2 hc
def rMn2 : List V → Hp → VK → Prop := fun xs H Q => ∃ i j, xs = [.int i, .int j] ∧ Q (.int (if j < i then j else i)) H
theorem cr_mn2 {X : Cx} (hc : X.calm = true) : CallR X (.builtin "min") rMn2 := call_min2 hc
def rIn1 : List V → Hp → VK → Prop := fun xs H Q => (∃ i, xs = [.int i] ∧ Q (.int i) H) ∨ ∃ k, xs = [.bl k] ∧ Q (.int (if k then 1 else 0)) H
theorem cr_in1 {X : Cx} : CallR X (.type "int") rIn1 := call_int1
def rLo (K : PySem.W.Frag) : List V → Hp → VK → Prop := fun xs H Q => ∃ p ys, xs = [.ref p] ∧ (SqL K H p ys ∨ SqT K H p ys) ∧ ∀ l, H l = none → Q (.ref l) (upd H l (.lst ys))
theorem cr_lo {X : Cx} : CallR X (.type "list") (rLo X.K) := call_list_of
def rTo (K : PySem.W.Frag) : List V → Hp → VK → Prop := fun xs H Q => ∃ p ys, xs = [.ref p] ∧ ((SqL K H p ys ∧ ∀ l, H l = none → Q (.ref l) (upd H l (.tup ys))) ∨ (SqT K H p ys ∧ Q (.ref p) H))
theorem cr_to {X : Cx} : CallR X (.type "tuple") (rTo X.K) := call_tuple_of
theorem Rel.one {s : SV} {us : List V} (l : us.length = [s].length) (R : Rel B g ([s].reverse ++ S) C σ (us.reverse ++ vs) H) : ∃ u, us = [u] ∧ Rel B g (s :: S) C σ (u :: vs) H := by
  match us, l with
  | [u], _ => exact ⟨u, rfl, by simpa using R⟩
theorem Rel.two {s t : SV} {us : List V} (l : us.length = [s, t].length) (R : Rel B g ([s, t].reverse ++ S) C σ (us.reverse ++ vs) H) : ∃ u w, us = [u, w] ∧ Rel B g (t :: s :: S) C σ (w :: u :: vs) H := by
  match us, l with
  | [u, w], _ => exact ⟨u, w, rfl, by simpa using R⟩
theorem wc_len {s : SV} {xs : List SV} (l : LV C s xs) (q : k (.dat (.int xs.length)) C) : Wc B (rLn B.K) [s] g S C k := fun σ vs H Q us hl R kq => by
  obtain ⟨u, rfl, R⟩ := R.one hl
  obtain ⟨F, ρ, R1, hx⟩ := R.top
  obtain ⟨a, ws, rfl, ha, hp⟩ := R1.lv hx l
  exact ⟨_, xs.length, rfl, .inl ⟨ws, SqL.of ha, (Paired.length hp).symm⟩, kq _ C _ H q (R.drop1.sc rfl)⟩
theorem wc_lenT {ds : List D} (q : k (.dat (.int ds.length)) C) : Wc B (rLn B.K) [.dat (.tuple ds)] g S C k := fun σ vs H Q us hl R kq => by
  obtain ⟨u, rfl, R⟩ := R.one hl
  obtain ⟨F, ρ, R1, hx⟩ := R.top
  obtain ⟨a, ws, rfl, ha, hp⟩ := R1.tv hx
  have e := Paired.length hp
  rw [List.length_map] at e
  exact ⟨_, ds.length, rfl, .inr ⟨ws, ha, e.symm⟩, kq _ C _ H q (R.drop1.sc rfl)⟩
theorem wc_lenScr {ns : List Int} (q : k (.dat (.int ns.length)) C) : Wc B (rLn B.K) [.scr ns] g S C k := fun σ vs H Q us hl R kq => by
  obtain ⟨u, rfl, R⟩ := R.one hl
  obtain ⟨F, ρ, R1, hx⟩ := R.top
  obtain ⟨a, rfl, ha⟩ := hx
  exact ⟨_, ns.length, rfl, .inl ⟨_, R1.le.sq ha, (List.length_map ..).symm⟩, kq _ C _ H q (R.drop1.sc rfl)⟩
theorem wc_lenS {z : Str} (hz : z.length ≤ sizeLine) (q : k (.dat (.int z.length)) C) : Wc B (rLn B.K) [.dat (.str z)] g S C k := fun σ vs H Q us hl R kq => by
  obtain ⟨u, rfl, R⟩ := R.one hl
  obtain rfl := R.top_str
  exact ⟨_, z.length, rfl, ⟨hz, rfl⟩, kq _ C _ H q (R.drop1.sc rfl)⟩
theorem wc_abs {i : Int} (q : k (.dat (.int (if i < 0 then -i else i))) C) : Wc B rAb [.dat (.int i)] g S C k := fun σ vs H Q us hl R kq => by
  obtain ⟨u, rfl, R⟩ := R.one hl
  obtain rfl := R.top_int
  exact ⟨i, rfl, kq _ C _ H q (R.drop1.sc rfl)⟩
theorem wc_int {i : Int} (q : k (.dat (.int i)) C) : Wc B rIn1 [.dat (.int i)] g S C k := fun σ vs H Q us hl R kq => by
  obtain ⟨u, rfl, R⟩ := R.one hl
  obtain rfl := R.top_int
  exact .inl ⟨i, rfl, kq _ C _ H q R⟩
theorem wc_intB {b : Bool} (q : k (.dat (.int (if b then 1 else 0))) C) : Wc B rIn1 [.dat (.bool b)] g S C k := fun σ vs H Q us hl R kq => by
  obtain ⟨u, rfl, R⟩ := R.one hl
  obtain rfl := R.top_bl
  exact .inr ⟨b, rfl, kq _ C _ H q (R.drop1.sc rfl)⟩
theorem wc_max2 {i j : Int} (q : k (.dat (.int (if j > i then j else i))) C) : Wc B rMx2 [.dat (.int i), .dat (.int j)] g S C k := fun σ vs H Q us hl R kq => by
  obtain ⟨u, w, rfl, R⟩ := R.two hl
  obtain rfl := R.top_int
  obtain rfl := R.drop1.top_int
  exact ⟨i, j, rfl, kq _ C _ H q (R.drop1.drop1.sc rfl)⟩
theorem wc_min2 {i j : Int} (q : k (.dat (.int (if j < i then j else i))) C) : Wc B rMn2 [.dat (.int i), .dat (.int j)] g S C k := fun σ vs H Q us hl R kq => by
  obtain ⟨u, w, rfl, R⟩ := R.two hl
  obtain rfl := R.top_int
  obtain rfl := R.drop1.top_int
  exact ⟨i, j, rfl, kq _ C _ H q (R.drop1.drop1.sc rfl)⟩
/-- list(x), frozen at once -/
theorem wc_list {s : SV} {ds : List D} (l : LV C s (ds.map .dat)) (q : k (.dat (.list ds)) C) : Wc B (rLo B.K) [s] g S C k := fun σ vs H Q us hl R kq => by
  obtain ⟨u, rfl, R⟩ := R.one hl
  obtain ⟨F, ρ, R1, hx⟩ := R.top
  obtain ⟨a, ws, rfl, ha, hp⟩ := R1.lv hx l
  refine ⟨a, ws, rfl, .inl (SqL.of ha), fun p hp2 => ?_⟩
  obtain ⟨R4, L⟩ := R1.lay (o := .lst ws) hp2
  exact kq _ C _ _ q ⟨_, ρ, R4.push (.lst upd_same ((all_sis hp).mono L))⟩
theorem wc_listT {ds : List D} (q : k (.dat (.list ds)) C) : Wc B (rLo B.K) [.dat (.tuple ds)] g S C k := fun σ vs H Q us hl R kq => by
  obtain ⟨u, rfl, R⟩ := R.one hl
  obtain ⟨F, ρ, R1, hx⟩ := R.top
  obtain ⟨a, ws, rfl, ha, hp⟩ := R1.tv hx
  refine ⟨a, ws, rfl, .inr ha, fun p hp2 => ?_⟩
  obtain ⟨R4, L⟩ := R1.lay (o := .lst ws) hp2
  exact kq _ C _ _ q ⟨_, ρ, R4.push (.lst upd_same ((all_sis hp).mono L))⟩
/-- list(x) as a cell -/
theorem wc_listC {s : SV} {xs : List SV} (l : LV C s xs) (q : k (.ref C.length) (C ++ [some (.lst xs)])) : Wc B (rLo B.K) [s] g S C k := fun σ vs H Q us hl R kq => by
  obtain ⟨u, rfl, R⟩ := R.one hl
  obtain ⟨F, ρ, R1, hx⟩ := R.top
  obtain ⟨a, ws, rfl, ha, hp⟩ := R1.lv hx l
  refine ⟨a, ws, rfl, .inl (SqL.of ha), fun p hp2 => ?_⟩
  exact kq _ _ _ _ q ⟨F, _, R1.lay_c hp2 (.lst hp)⟩
theorem wc_tuple {s : SV} {ds : List D} (l : LV C s (ds.map .dat)) (q : k (.dat (.tuple ds)) C) : Wc B (rTo B.K) [s] g S C k := fun σ vs H Q us hl R kq => by
  obtain ⟨u, rfl, R⟩ := R.one hl
  obtain ⟨F, ρ, R1, hx⟩ := R.top
  obtain ⟨a, ws, rfl, ha, hp⟩ := R1.lv hx l
  refine ⟨a, ws, rfl, .inl ⟨SqL.of ha, fun p hp2 => ?_⟩⟩
  obtain ⟨R4, L⟩ := R1.lay (o := .tup ws) hp2
  exact kq _ C _ _ q ⟨_, ρ, R4.push (.tup (SqT.of upd_same) ((all_sis hp).mono L))⟩
theorem bools_of {K : PySem.W.Frag} {F : Hp} {ρ : Nat → Addr} {n : Nat} : ∀ {ws : List V} {bs : List Bool}, Paired (SIs K F ρ n) ws ((bs.map PyData.bool).map SV.dat) → ws = bs.map V.bl
  | [], [], _ => rfl
  | _ :: _, _ :: _, .cons h r => by
    rw [List.map_cons, ← bools_of r]
    congr 1
    exact Is.bl_inv h
  | [], _ :: _, h => nomatch h
  | _ :: _, [], h => nomatch h
theorem ints_of {K : PySem.W.Frag} {F : Hp} {ρ : Nat → Addr} {n : Nat} : ∀ {ws : List V} {bs : List Int}, Paired (SIs K F ρ n) ws ((bs.map PyData.int).map SV.dat) → ws = bs.map V.int
  | [], [], _ => rfl
  | _ :: _, _ :: _, .cons h r => by
    rw [List.map_cons, ← ints_of r]
    congr 1
    exact Is.int_inv h
  | [], _ :: _, h => nomatch h
  | _ :: _, [], h => nomatch h
theorem wc_all {s : SV} {bs : List Bool} (l : LV C s ((bs.map PyData.bool).map .dat)) (q : k (.dat (.bool (bs.all id))) C) : Wc B (rAll B.K) [s] g S C k := fun σ vs H Q us hl R kq => by
  obtain ⟨u, rfl, R⟩ := R.one hl
  obtain ⟨F, ρ, R1, hx⟩ := R.top
  obtain ⟨a, ws, rfl, ha, hp⟩ := R1.lv hx l
  obtain rfl := bools_of hp
  exact ⟨a, bs, rfl, SqL.of ha, kq _ C _ H q (R.drop1.sc rfl)⟩
theorem wc_any {s : SV} {bs : List Bool} (l : LV C s ((bs.map PyData.bool).map .dat)) (q : k (.dat (.bool (bs.any id))) C) : Wc B (rAny B.K) [s] g S C k := fun σ vs H Q us hl R kq => by
  obtain ⟨u, rfl, R⟩ := R.one hl
  obtain ⟨F, ρ, R1, hx⟩ := R.top
  obtain ⟨a, ws, rfl, ha, hp⟩ := R1.lv hx l
  obtain rfl := bools_of hp
  exact ⟨a, bs, rfl, SqL.of ha, kq _ C _ H q (R.drop1.sc rfl)⟩
theorem wc_sum {s : SV} {bs : List Int} (l : LV C s ((bs.map PyData.int).map .dat)) (q : k (.dat (.int bs.sum)) C) : Wc B (rSum B.K) [s] g S C k := fun σ vs H Q us hl R kq => by
  obtain ⟨u, rfl, R⟩ := R.one hl
  obtain ⟨F, ρ, R1, hx⟩ := R.top
  obtain ⟨a, ws, rfl, ha, hp⟩ := R1.lv hx l
  obtain rfl := ints_of hp
  exact ⟨a, bs, rfl, SqL.of ha, kq _ C _ H q (R.drop1.sc rfl)⟩
end
end Sy

set_option Elab.async false
set_option linter.all false
set_option maxRecDepth 100000
set_option maxHeartbeats 400000
namespace Sy
open PySem L2
section
variable {B : Bs} {g : Gs} {S : List SV} {C : Cs} {k : SV → Cs → Prop} {kb : Bool → Cs → Prop} {ka : List SV → Cs → Prop} {te ta tb tc tl : TE} {ta' : TA} {tt tu : TT} {kk : Ks} {tbody : TS}
variable {σ : St} {vs : List V} {H : Hp} {F : Hp} {ρ : Nat → Addr}
/-! ## loops -/
/-- what a turn's body is to reach -/
abbrev turnK (B : Bs) (S : List SV) (kk : Ks) (P : Gs → Cs → Prop) : Ks := { nx := Nx B S P, rt := kk.rt, bk := kk.nx, ct := Nx B S P }
theorem turnD {vs : List V} {D : Ends} {P : Gs → Cs → Prop} {S0 : List SV} {vs0 : List V} (d : Dk B S0 vs0 kk D) (hb : ∀ g C σ H, Rel B g S C σ vs H → Rel B g S0 C σ vs0 H) :
    Dk B S vs (turnK B S kk P) { D with nx := fun σ H => ∃ g C, P g C ∧ Rel B g S C σ vs H, ct := fun σ H => ∃ g C, P g C ∧ Rel B g S C σ vs H, bk := D.nx } :=
  ⟨fun g C σ H n R => n σ vs H R, d.rt, fun g C σ H n R => d.nx g C σ H n (hb _ _ _ _ R), fun g C σ H n R => n σ vs H R⟩
theorem ws_for1 {j : Nat} {ta : TA} (h : Wa B ta g S C fun ss C1 => ∃ n : Int, ss = [.dat (.int n)] ∧ (-(2 ^ 62) ≤ n ∧ n < 2 ^ 62) ∧ ∃ I : Nat → Gs → Cs → Prop, I 0 g C1 ∧
      (∀ (i : Nat) g' C', (i : Int) < n → I i g' C' → Ws B tbody (g'.set j (some (.dat (.int (i : Int))))) S C' (turnK B S kk (I (i + 1)))) ∧ (∀ g' C', I n.toNat g' C' → kk.nx g' C')) :
    Ws B (tFor (iRng1 ta) (gName j) tbody) g S C kk := fun σ vs H D R d => h σ vs H _ R fun ss C1 us H1 ⟨n, e, ⟨b1, b2⟩, I, i0, hs, hd⟩ l R1 => by
  subst e
  obtain ⟨u, rfl, R2⟩ := R1.one l
  obtain rfl := R2.top_int
  refine ⟨n, rfl, b1, b2, for_range (lo := 0) (n := n.toNat) (fun i σ H => ∃ g' C', I i g' C' ∧ Rel B g' S C' σ vs H) ⟨g, C1, i0, R2.drop1⟩ (fun i σ' H' hi q => ?_) fun σ' H' q => ?_⟩
  · obtain ⟨g', C', q, R3⟩ := q
    have e0 : (0 : Int) + (i : Int) = (i : Int) := Int.zero_add _
    show tbody _ (σ'.set j (some (.int ((0 : Int) + (i : Int))))) H'
    rw [e0]
    refine hs i g' C' (by omega) q _ vs H' _ ?_ (turnD d fun _ _ _ _ R => R)
    obtain ⟨F, ρ, R3⟩ := R3
    exact ⟨F, ρ, (R3.push (s := .dat (.int (i : Int))) (.int (i : Int))).set⟩
  · obtain ⟨g', C', q, R3⟩ := q
    exact d.nx g' C' σ' H' (hd g' C' q) R3
theorem ws_for2 {j : Nat} {ta : TA} (h : Wa B ta g S C fun ss C1 => ∃ lo n : Int, ss = [.dat (.int lo), .dat (.int n)] ∧ (-(2 ^ 62) ≤ lo ∧ lo < 2 ^ 62 ∧ -(2 ^ 62) ≤ n ∧ n < 2 ^ 62) ∧ ∃ I : Nat → Gs → Cs → Prop, I 0 g C1 ∧
      (∀ (i : Nat) g' C', lo + (i : Int) < n → I i g' C' → Ws B tbody (g'.set j (some (.dat (.int (lo + (i : Int)))))) S C' (turnK B S kk (I (i + 1)))) ∧ (∀ g' C', I (n - lo).toNat g' C' → kk.nx g' C')) :
    Ws B (tFor (iRng2 ta) (gName j) tbody) g S C kk := fun σ vs H D R d => h σ vs H _ R fun ss C1 us H1 ⟨lo, n, e, b, I, i0, hs, hd⟩ l R1 => by
  subst e
  obtain ⟨u, w, rfl, R2⟩ := R1.two l
  obtain rfl := R2.top_int
  obtain rfl := R2.drop1.top_int
  refine ⟨lo, n, rfl, b, for_range (lo := lo) (n := (n - lo).toNat) (fun i σ H => ∃ g' C', I i g' C' ∧ Rel B g' S C' σ vs H) ⟨g, C1, i0, R2.drop1.drop1⟩ (fun i σ' H' hi q => ?_) fun σ' H' q => ?_⟩
  · obtain ⟨g', C', q, R3⟩ := q
    refine hs i g' C' (by omega) q _ vs H' _ ?_ (turnD d fun _ _ _ _ R => R)
    obtain ⟨F, ρ, R3⟩ := R3
    exact ⟨F, ρ, (R3.push (s := .dat (.int (lo + (i : Int)))) (.int _)).set⟩
  · obtain ⟨g', C', q, R3⟩ := q
    exact d.nx g' C' σ' H' (hd g' C' q) R3
/-- over a list; it stands on the stack meanwhile; the target of any form -/
def Wg (B : Bs) (tg : TG) (x : SV) (g : Gs) (S : List SV) (C : Cs) (k : Gs → Cs → Prop) : Prop :=
  ∀ σ vs v H (Q : St → Hp → Prop), Rel B g (x :: S) C σ (v :: vs) H → (∀ g' C' σ' H', k g' C' → Rel B g' S C' σ' vs H' → Q σ' H') → tg v σ H Q
theorem wg_name {j : Nat} {x : SV} {k : Gs → Cs → Prop} (q : k (g.set j (some x)) C) : Wg B (gName j) x g S C k := fun σ vs v H Q R kq => kq _ C _ H q (let ⟨F, ρ, R⟩ := R; ⟨F, ρ, R.set⟩)
theorem ws_forL {tg : TG} (h : We B tl g S C fun s C1 => ∃ xs : List SV, ∃ I : Nat → Gs → Cs → Prop, I 0 g C1 ∧ (∀ i g' C', i ≤ xs.length → I i g' C' → LV C' s xs) ∧
      (∀ (i : Nat) x g' C', xs[i]? = some x → I i g' C' → Wg B tg x g' (s :: S) C' fun g2 C2 => Ws B tbody g2 (s :: S) C2 (turnK B (s :: S) kk (I (i + 1)))) ∧ (∀ g' C', I xs.length g' C' → kk.nx g' C')) :
    Ws B (tFor (iList B.K tl) tg tbody) g S C kk := fun σ vs H D R d => h σ vs H _ R fun s C1 v H1 ⟨xs, I, i0, hl, hs, hd⟩ R1 => by
  have key : ∀ {i g' C' σ' H'}, i ≤ xs.length → I i g' C' → Rel B g' (s :: S) C' σ' (v :: vs) H' → ∃ a ws, v = .ref a ∧ H' a = some (.lst ws) ∧ ws.length = xs.length ∧ ∃ F ρ, Rl B g' S C' σ' vs H' F ρ ∧ SIs B.K F ρ C'.length v s ∧ Paired (SIs B.K F ρ C'.length) ws xs := by
    intro i g' C' σ' H' hi q R2
    obtain ⟨F, ρ, R3, hx⟩ := R2.top
    obtain ⟨a, ws, e, ha, hp⟩ := R3.lv hx (hl i g' C' hi q)
    exact ⟨a, ws, e, ha, Paired.length hp, F, ρ, R3, hx, hp⟩
  obtain ⟨a, ws, rfl, ha, _⟩ := key (Nat.zero_le _) i0 R1
  refine ⟨a, rfl, ⟨ws, SqL.of ha⟩, ?_⟩
  refine ⟨fun i m σ' H' => m = xs.length - i ∧ i ≤ xs.length ∧ ∃ g' C', I i g' C' ∧ Rel B g' (s :: S) C' σ' (.ref a :: vs) H', ⟨xs.length, by simp, Nat.zero_le _, g, C1, i0, R1⟩, ?_⟩
  rintro i m σ' H' ⟨rfl, hi, g', C', q, R2⟩
  obtain ⟨a2, ws2, e2, ha2, hl2, F, ρ, R3, hx, hp⟩ := key hi q R2
  obtain rfl : a = a2 := by cases e2; rfl
  by_cases hlt : i < xs.length
  · refine .inr ⟨⟨ws2, ws2[i]'(by omega), SqL.of ha2, by simp [hl2, hlt]⟩, fun σ3 H3 => ∃ g3 C3, I (i + 1) g3 C3 ∧ Rel B g3 (s :: S) C3 σ3 (.ref a :: vs) H3, fun σ3 H3 p3 => ⟨xs.length - (i + 1), by omega, rfl, hlt, p3⟩, fun x H3 y => ?_⟩
    obtain ⟨e, y⟩ := y
    subst e
    have ex := y ws2 (SqL.of ha2)
    obtain ⟨sx, ex2, hsx⟩ := paired_at' hp ex
    refine hs i sx g' C' ex2 q σ' (.ref a :: vs) x _ _ ⟨F, ρ, (R3.push hx).push hsx⟩ fun g2 C2 σ2 H2 w R4 => ?_
    exact w σ2 _ H2 _ R4 (turnD d fun _ _ _ _ R => R.drop1)
  · have e : i = xs.length := by omega
    subst e
    exact .inl ⟨⟨ws2, SqL.of ha2, by omega⟩, d.nx g' C' σ' H' (hd g' C' q) R2.drop1⟩
/-- several targets -/
def Wgs (B : Bs) (tg : TGs) (xs : List SV) (g : Gs) (S : List SV) (C : Cs) (k : Gs → Cs → Prop) : Prop :=
  ∀ σ vs us H (Q : St → Hp → Prop), us.length = xs.length → Rel B g (xs ++ S) C σ (us ++ vs) H → (∀ g' C' σ' H', k g' C' → Rel B g' S C' σ' vs H' → Q σ' H') → tg us σ H Q
theorem wgs_nil {k : Gs → Cs → Prop} (q : k g C) : Wgs B gNil [] g S C k := fun σ vs us H Q l R kq => by
  match us, l with
  | [], _ => exact ⟨rfl, kq g C σ H q R⟩
theorem wgs_cons {t : TG} {ts : TGs} {x : SV} {xs : List SV} {k : Gs → Cs → Prop} (h : Wg B t x g (xs ++ S) C fun g1 C1 => Wgs B ts xs g1 S C1 k) : Wgs B (gCons t ts) (x :: xs) g S C k := fun σ vs us H Q l R kq => by
  match us, l with
  | u :: us, l =>
    refine ⟨u, us, rfl, ?_⟩
    exact h σ (us ++ vs) u H _ R fun g1 C1 σ1 H1 q1 R1 => q1 σ1 vs us H1 Q (Nat.succ.inj l) R1 kq
/-- a tuple taken apart -/
theorem wg_tup {ts : TGs} {ds : List D} {n : Nat} {k : Gs → Cs → Prop} (hn : ds.length = n) (h : Wgs B ts (ds.map .dat) g S C k) : Wg B (gTup B.K n ts) (.dat (.tuple ds)) g S C k := fun σ vs v H Q R kq => by
  obtain ⟨F, ρ, R1, hx⟩ := R.top
  obtain ⟨a, ws, rfl, ha, hp⟩ := R1.tv hx
  have hl : ws.length = ds.length := by
    have e := Paired.length hp
    rw [List.length_map] at e
    exact e
  refine ⟨a, ws, rfl, ha, by rw [hl, hn], h σ vs ws H Q (by rw [hl, List.length_map]) ⟨F, ρ, { R1 with stk := paired_app hp R1.stk }⟩ kq⟩
/-- for k, x in enumerate(xs) -/
theorem ws_forE {t1 t2 : TG} {ta : TA} (h : Wa B ta g S C fun ss C1 => ∃ s, ∃ xs : List SV, ∃ I : Nat → Gs → Cs → Prop, ss = [s] ∧ I 0 g C1 ∧ (∀ i g' C', i ≤ xs.length → I i g' C' → LV C' s xs) ∧
      (∀ (i : Nat) x g' C', xs[i]? = some x → I i g' C' → Wg B t1 (.dat (.int i)) g' (x :: s :: S) C' fun g2 C2 => Wg B t2 x g2 (s :: S) C2 fun g3 C3 => Ws B tbody g3 (s :: S) C3 (turnK B (s :: S) kk (I (i + 1)))) ∧ (∀ g' C', I xs.length g' C' → kk.nx g' C')) :
    Ws B (tFor (iEnum B.K ta) (gTup B.K 2 (gCons t1 (gCons t2 gNil))) tbody) g S C kk := fun σ vs H D R d => h σ vs H _ R fun ss C1 us H1 ⟨s, xs, I, e, i0, hl, hs, hd⟩ l R1 => by
  subst e
  obtain ⟨v, rfl, R1⟩ := R1.one l
  have key : ∀ {i g' C' σ' H'}, i ≤ xs.length → I i g' C' → Rel B g' (s :: S) C' σ' (v :: vs) H' → ∃ a ws, v = .ref a ∧ H' a = some (.lst ws) ∧ ws.length = xs.length ∧ ∃ F ρ, Rl B g' S C' σ' vs H' F ρ ∧ SIs B.K F ρ C'.length v s ∧ Paired (SIs B.K F ρ C'.length) ws xs := by
    intro i g' C' σ' H' hi q R2
    obtain ⟨F, ρ, R3, hx⟩ := R2.top
    obtain ⟨a, ws, e, ha, hp⟩ := R3.lv hx (hl i g' C' hi q)
    exact ⟨a, ws, e, ha, Paired.length hp, F, ρ, R3, hx, hp⟩
  obtain ⟨a, ws, rfl, ha, _⟩ := key (Nat.zero_le _) i0 R1
  refine ⟨a, ws, rfl, SqL.of ha, ?_⟩
  refine ⟨fun i m σ' H' => m = xs.length - i ∧ i ≤ xs.length ∧ ∃ g' C', I i g' C' ∧ Rel B g' (s :: S) C' σ' (.ref a :: vs) H', ⟨xs.length, by simp, Nat.zero_le _, g, C1, i0, R1⟩, ?_⟩
  rintro i m σ' H' ⟨rfl, hi, g', C', q, R2⟩
  obtain ⟨a2, ws2, e2, ha2, hl2, F, ρ, R3, hx, hp⟩ := key hi q R2
  obtain rfl : a = a2 := by cases e2; rfl
  by_cases hlt : i < xs.length
  · refine .inr ⟨⟨ws2, ws2[i]'(by omega), SqL.of ha2, by simp [hl2, hlt]⟩, fun σ3 H3 => ∃ g3 C3, I (i + 1) g3 C3 ∧ Rel B g3 (s :: S) C3 σ3 (.ref a :: vs) H3, fun σ3 H3 p3 => ⟨xs.length - (i + 1), by omega, rfl, hlt, p3⟩, fun x H3 y => ?_⟩
    obtain ⟨T, u, e, hT, eH, y⟩ := y
    subst e eH
    have ex := y ws2 (SqL.of ha2)
    obtain ⟨sx, ex2, hsx⟩ := paired_at' hp ex
    obtain ⟨R4, L⟩ := R3.lay (o := .tup [.int (i : Nat), u]) hT
    have hx4 := hx.mono L (Nat.le_refl _) fun _ _ => rfl
    have hs4 := hsx.mono L (Nat.le_refl _) fun _ _ => rfl
    refine ⟨T, [.int (i : Nat), u], rfl, SqT.of upd_same, rfl, .int (i : Nat), [u], rfl, ?_⟩
    refine hs i sx g' C' ex2 q σ' (u :: .ref a :: vs) (.int (i : Nat)) _ _ ⟨_, ρ, ((R4.push hx4).push hs4).push (s := .dat (.int (i : Nat))) (.int _)⟩ fun g2 C2 σ2 H2 w R5 => ?_
    refine ⟨u, [], rfl, ?_⟩
    refine w σ2 (.ref a :: vs) u H2 _ R5 fun g3 C3 σ3 H3 w3 R6 => ?_
    exact ⟨rfl, w3 σ3 _ H3 _ R6 (turnD d fun _ _ _ _ R => R.drop1)⟩
  · have e : i = xs.length := by omega
    subst e
    exact .inl ⟨⟨ws2, SqL.of ha2, by omega⟩, d.nx g' C' σ' H' (hd g' C' q) R2.drop1⟩
/-! ## what is walked -/
def Src (B : Bs) (J : It) (T : List SV) (tv : List V) (xs : List SV) (ok : Cs → Prop) : Prop := ∀ (i : Nat) g S C σ vs H, ok C → Rel B g (T ++ S) C σ (tv ++ vs) H →
  (i < xs.length → J.go i H ∧ ∀ x H', J.yld i H x H' → ∃ s, xs[i]? = some s ∧ Rel B g (s :: (T ++ S)) C σ (x :: (tv ++ vs)) H') ∧ (xs.length ≤ i → J.stop i H)
def Wi (B : Bs) (wi : TI) (g : Gs) (S : List SV) (C : Cs) (k : List SV → List SV → (Cs → Prop) → Cs → Prop) : Prop :=
  ∀ σ vs H (R : It → Hp → Prop), Rel B g S C σ vs H → (∀ J T tv xs ok C' H', k T xs ok C' → tv.length = T.length → Src B J T tv xs ok → Rel B g (T ++ S) C' σ (tv ++ vs) H' → R J H') → wi σ H R
theorem wi_list {k : List SV → List SV → (Cs → Prop) → Cs → Prop} (h : We B tl g S C fun s C1 => ∃ xs, LV C1 s xs ∧ k [s] xs (fun C' => LV C' s xs) C1) : Wi B (iList B.K tl) g S C k := fun σ vs H R0 R kq =>
  h σ vs H _ R fun s C1 v H1 ⟨xs, lv, q⟩ R1 => by
    obtain ⟨F, ρ, R2, hx⟩ := R1.top
    obtain ⟨a, ws, rfl, ha, hp⟩ := R2.lv hx lv
    refine ⟨a, rfl, ⟨ws, SqL.of ha⟩, kq (Itl B.K a) [s] [.ref a] xs (fun C' => LV C' s xs) C1 H1 q rfl (fun i g' S' C' σ' vs' H' lv' R3 => ?_) R1⟩
    obtain ⟨F3, ρ3, R4, hx4⟩ := Rel.top (S := S') (vs := vs') R3
    obtain ⟨a4, ws4, e4, ha4, hp4⟩ := R4.lv hx4 lv'
    cases e4
    have hl := Paired.length hp4
    refine ⟨fun hi => ⟨⟨ws4, ws4[i]'(by omega), SqL.of ha4, by simp [hl, hi]⟩, fun x H2 y => ?_⟩, fun hi => ⟨ws4, SqL.of ha4, by omega⟩⟩
    obtain ⟨e, y⟩ := y
    subst e
    obtain ⟨sx, ex, hsx⟩ := paired_at' hp4 (y ws4 (SqL.of ha4))
    exact ⟨sx, ex, F3, ρ3, (R4.push hx4).push hsx⟩
/-- lo, lo + 1, .. -/
def rngS (lo : Int) (n : Nat) : List SV := (List.range n).map fun (i : Nat) => .dat (.int (lo + (i : Int)))
theorem rngS_at {lo : Int} {n i : Nat} (h : i < n) : (rngS lo n)[i]? = some (.dat (.int (lo + (i : Int)))) := by
  unfold rngS
  rw [List.getElem?_map, List.getElem?_range h]
  rfl
theorem src_rng (lo : Int) (n : Nat) : Src B (Itr lo n) [] [] (rngS lo n) (fun _ => True) := fun i g S C σ vs H _ R => by
  have hl : (rngS lo n).length = n := by simp [rngS]
  rw [hl]
  refine ⟨fun hi => ⟨hi, fun x H' y => ?_⟩, fun hi => hi⟩
  obtain ⟨e1, e2⟩ := y
  subst e1 e2
  exact ⟨_, rngS_at hi, R.sc rfl⟩
theorem wi_rng1 {k : List SV → List SV → (Cs → Prop) → Cs → Prop} (h : Wa B ta' g S C fun ss C1 => ∃ n : Int, ss = [.dat (.int n)] ∧ (-(2 ^ 62) ≤ n ∧ n < 2 ^ 62) ∧ k [] (rngS 0 n.toNat) (fun _ => True) C1) : Wi B (iRng1 ta') g S C k := fun σ vs H R0 R kq =>
  h σ vs H _ R fun ss C1 us H1 ⟨n, e, ⟨b1, b2⟩, q⟩ l R1 => by
    subst e
    obtain ⟨u, rfl, R2⟩ := R1.one l
    obtain rfl := R2.top_int
    exact ⟨n, rfl, b1, b2, kq _ [] [] _ _ C1 H1 q rfl (src_rng 0 n.toNat) R2.drop1⟩
theorem wi_rng2 {k : List SV → List SV → (Cs → Prop) → Cs → Prop} (h : Wa B ta' g S C fun ss C1 => ∃ lo n : Int, ss = [.dat (.int lo), .dat (.int n)] ∧ (-(2 ^ 62) ≤ lo ∧ lo < 2 ^ 62 ∧ -(2 ^ 62) ≤ n ∧ n < 2 ^ 62) ∧ k [] (rngS lo (n - lo).toNat) (fun _ => True) C1) : Wi B (iRng2 ta') g S C k := fun σ vs H R0 R kq =>
  h σ vs H _ R fun ss C1 us H1 ⟨lo, n, e, b, q⟩ l R1 => by
    subst e
    obtain ⟨u, w, rfl, R2⟩ := R1.two l
    obtain rfl := R2.top_int
    obtain rfl := R2.drop1.top_int
    exact ⟨lo, n, rfl, b, kq _ [] [] _ _ C1 H1 q rfl (src_rng lo (n - lo).toNat) R2.drop1.drop1⟩
/-- k, x of a list of data -/
def enumD (ds : List D) : List D := ds.zipIdx.map fun p => .tuple [.int (p.2 : Int), p.1]
theorem wi_enum {k : List SV → List SV → (Cs → Prop) → Cs → Prop} (h : Wa B ta' g S C fun ss C1 => ∃ s, ∃ ds : List D, ss = [s] ∧ LV C1 s (ds.map .dat) ∧ k [s] ((enumD ds).map .dat) (fun C' => LV C' s (ds.map .dat)) C1) : Wi B (iEnum B.K ta') g S C k := fun σ vs H R0 R kq =>
  h σ vs H _ R fun ss C1 us H1 ⟨s, ds, e, lv, q⟩ l R1 => by
    subst e
    obtain ⟨v, rfl, R1⟩ := R1.one l
    obtain ⟨F, ρ, R2, hx⟩ := R1.top
    obtain ⟨a, ws, rfl, ha, hp⟩ := R2.lv hx lv
    refine ⟨a, ws, rfl, SqL.of ha, kq (Ite B.K a) [s] [.ref a] _ (fun C' => LV C' s (ds.map .dat)) C1 H1 q rfl (fun i g' S' C' σ' vs' H' lv' R3 => ?_) R1⟩
    obtain ⟨F3, ρ3, R4, hx4⟩ := Rel.top (S := S') (vs := vs') R3
    obtain ⟨a4, ws4, e4, ha4, hp4⟩ := R4.lv hx4 lv'
    cases e4
    have hl := Paired.length hp4
    rw [List.length_map] at hl
    have hl2 : ((enumD ds).map SV.dat).length = ds.length := by simp [enumD]
    rw [hl2]
    refine ⟨fun hi => ⟨⟨ws4, ws4[i]'(by omega), SqL.of ha4, by simp [hl, hi]⟩, fun x H2 y => ?_⟩, fun hi => ⟨ws4, SqL.of ha4, by omega⟩⟩
    obtain ⟨T, u, e, hT, eH, y⟩ := y
    subst e eH
    obtain ⟨sx, ex, hsx⟩ := paired_at' hp4 (y ws4 (SqL.of ha4))
    rw [List.getElem?_map, List.getElem?_eq_getElem hi] at ex
    obtain rfl : SV.dat ds[i] = sx := by simpa using ex
    obtain ⟨R5, L⟩ := R4.lay (o := .tup [.int (i : Nat), u]) hT
    have hx5 := hx4.mono L (Nat.le_refl _) fun _ _ => rfl
    refine ⟨.dat (.tuple [.int (i : Int), ds[i]]), ?_, _, ρ3, (R5.push hx5).push (.tup (SqT.of upd_same) (.cons (.int _) (.cons (Is.mono L hsx) .nil)))⟩
    simp [enumD, hi]
/-- a loop over anything -/
theorem ws_for {wi : TI} {tg : TG} (h : Wi B wi g S C fun T xs ok C1 => ∃ I : Nat → Gs → Cs → Prop, I 0 g C1 ∧ (∀ i g' C', I i g' C' → ok C') ∧
      (∀ (i : Nat) x g' C', xs[i]? = some x → I i g' C' → Wg B tg x g' (T ++ S) C' fun g2 C2 => Ws B tbody g2 (T ++ S) C2 (turnK B (T ++ S) kk (I (i + 1)))) ∧ (∀ g' C', I xs.length g' C' → kk.nx g' C')) :
    Ws B (tFor wi tg tbody) g S C kk := fun σ vs H D R d => h σ vs H _ R fun J T tv xs ok C1 H1 ⟨I, i0, hok, hs, hd⟩ hT src R1 => by
  have dropT : ∀ {g C σ H}, Rel B g (T ++ S) C σ (tv ++ vs) H → Rel B g S C σ vs H := fun {g C σ H} R => by
    obtain ⟨F, ρ, R⟩ := R
    exact ⟨F, ρ, { R with stk := (paired_append hT R.stk).2 }⟩
  refine ⟨fun i m σ' H' => m = xs.length - i ∧ i ≤ xs.length ∧ ∃ g' C', I i g' C' ∧ Rel B g' (T ++ S) C' σ' (tv ++ vs) H', ⟨xs.length, by simp, Nat.zero_le _, g, C1, i0, R1⟩, ?_⟩
  rintro i m σ' H' ⟨rfl, hi, g', C', q, R2⟩
  have z := src i g' S C' σ' vs H' (hok i g' C' q) R2
  by_cases hlt : i < xs.length
  · refine .inr ⟨(z.1 hlt).1, fun σ3 H3 => ∃ g3 C3, I (i + 1) g3 C3 ∧ Rel B g3 (T ++ S) C3 σ3 (tv ++ vs) H3, fun σ3 H3 p3 => ⟨xs.length - (i + 1), by omega, rfl, hlt, p3⟩, fun x H3 y => ?_⟩
    obtain ⟨s, es, R3⟩ := (z.1 hlt).2 x H3 y
    refine hs i s g' C' es q σ' (tv ++ vs) x H3 _ R3 fun g2 C2 σ2 H2 w R4 => ?_
    exact w σ2 _ H2 _ R4 (turnD d fun _ _ _ _ R => dropT R)
  · have e : i = xs.length := by omega
    subst e
    exact .inl ⟨z.2 (Nat.le_refl _), d.nx g' C' σ' H' (hd g' C' q) (dropT R2)⟩
/-! ## comprehensions -/
abbrev wipeG (g : Gs) (is : List Nat) : Gs := is.foldr (fun i g => g.set i none) g
/-- what the block's names hold ahead of it: kept on the stack -/
def keptS (g : Gs) : List Nat → List SV
  | [] => []
  | i :: is => (match g[i]? with
    | some (some s) => [s]
    | _ => []) ++ keptS g is
def keptV (g : Gs) (σ : St) : List Nat → List V
  | [] => []
  | i :: is => (match g[i]? with
    | some (some _) => (match σ[i]? with
      | some (some v) => [v]
      | _ => [])
    | _ => []) ++ keptV g σ is
theorem Rl.kept (R : Rl B g S C σ vs H F ρ) : ∀ is : List Nat, Paired (SIs B.K F ρ C.length) (keptV g σ is) (keptS g is)
  | [] => .nil
  | i :: is => by
    have ih := Rl.kept R is
    unfold keptV keptS
    cases e : g[i]? with
    | none => exact ih
    | some o =>
      cases o with
      | none => exact ih
      | some s =>
        obtain ⟨v, ev, hv⟩ := R.slot i s e
        rw [ev]
        exact .cons hv ih
theorem wipe_at {α : Type} (l : List (Option α)) : ∀ (is : List Nat) (j : Nat), (is.foldr (fun i g => g.set i none) l)[j]? = if j ∈ is then (if j < l.length then some none else none) else l[j]?
  | [], j => by simp
  | i :: is, j => by
    have ih := wipe_at l is j
    have hl : ∀ (js : List Nat), (js.foldr (fun i g => g.set i none) l).length = l.length := fun js => by
      induction js with
      | nil => rfl
      | cons a r h => simpa using h
    show ((is.foldr (fun i g => g.set i none) l).set i none)[j]? = _
    by_cases hj : i = j
    · subst hj
      rw [if_pos List.mem_cons_self]
      by_cases hi : i < l.length
      · rw [List.getElem?_set_self (by rw [hl]; exact hi), if_pos hi]
      · rw [List.getElem?_eq_none (by rw [List.length_set, hl]; omega), if_neg hi]
    · rw [List.getElem?_set_ne hj, ih]
      have e : (j ∈ i :: is) = (j ∈ is) := by simp [Ne.symm hj]
      simp only [e]
theorem wipe_eq (σ : St) : ∀ is : List Nat, L2.wipe σ is = is.foldr (fun i g => g.set i none) σ
  | [] => rfl
  | i :: is => by
    show (L2.wipe σ is).set i none = _
    rw [wipe_eq σ is]
    rfl
theorem wipe_len {α : Type} (l : List (Option α)) (is : List Nat) : (is.foldr (fun i g => g.set i none) l).length = l.length := by
  induction is with
  | nil => rfl
  | cons a r h => simpa using h
theorem Rel.wiped (R : Rel B g S C σ vs H) (is : List Nat) : Rel B (wipeG g is) (keptS g is ++ S) C (L2.wipe σ is) (keptV g σ is ++ vs) H := by
  obtain ⟨F, ρ, R⟩ := R
  refine ⟨F, ρ, { R with len := ?_, slot := fun j t e => ?_, stk := paired_app (R.kept is) R.stk }⟩
  · rw [wipe_eq, wipe_len, wipe_len]; exact R.len
  · rw [wipe_at] at e
    rw [wipe_eq, wipe_at]
    by_cases hj : j ∈ is
    · rw [if_pos hj] at e
      by_cases hl : j < g.length
      · rw [if_pos hl] at e; cases e
      · rw [if_neg hl] at e; cases e
    · rw [if_neg hj] at e ⊢
      exact R.slot j t e
theorem kept_at {P : V → SV → Prop} {i : Nat} {s : SV} (e : g[i]? = some (some s)) (hs : ∀ (i : Nat) (s : SV), g[i]? = some (some s) → ∃ v, σ[i]? = some (some v)) : ∀ {is : List Nat}, i ∈ is → Paired P (keptV g σ is) (keptS g is) → ∃ v, σ[i]? = some (some v) ∧ P v s
  | [], hi, _ => by cases hi
  | a :: is, hi, hp => by
    unfold keptV keptS at hp
    by_cases ha : i = a
    · subst ha
      obtain ⟨v, ev⟩ := hs i s e
      rw [e, ev] at hp
      cases hp with
      | cons h _ => exact ⟨v, ev, h⟩
    · have hm : i ∈ is := by simpa [ha] using hi
      cases e2 : g[a]? with
      | none =>
        rw [e2] at hp
        exact kept_at e hs hm hp
      | some o =>
        cases o with
        | none =>
          rw [e2] at hp
          exact kept_at e hs hm hp
        | some s2 =>
          obtain ⟨v, ev⟩ := hs a s2 e2
          rw [e2, ev] at hp
          cases hp with
          | cons _ r => exact kept_at e hs hm r
/-- back: the names as they were -/
theorem Rel.unwipe {C0 : Cs} {H0 : Hp} {S0 : List SV} {vs0 : List V} (R0 : Rel B g S0 C0 σ vs0 H0) {is : List Nat} (R : Rel B (wipeG g is) (keptS g is ++ S) C (L2.wipe σ is) (keptV g σ is ++ vs) H) : Rel B g S C σ vs H := by
  obtain ⟨F0, ρ0, R0⟩ := R0
  obtain ⟨F, ρ, R⟩ := R
  obtain ⟨h1, h2⟩ := paired_append (Paired.length (R0.kept is)) R.stk
  refine ⟨F, ρ, { R with len := R0.len, slot := fun j t e => ?_, stk := h2 }⟩
  by_cases hj : j ∈ is
  · exact kept_at e (fun i s e => let ⟨v, ev, _⟩ := R0.slot i s e; ⟨v, ev⟩) hj h1
  · have e2 : (wipeG g is)[j]? = some (some t) := by rw [wipe_at, if_neg hj]; exact e
    obtain ⟨v, q, r⟩ := R.slot j t e2
    rw [wipe_eq, wipe_at, if_neg hj] at q
    exact ⟨v, q, r⟩
/-- targets of a comprehension's block: only the block's names change -/
def Wgw (B : Bs) (tg : TG) (is : List Nat) (x : SV) (g : Gs) (S : List SV) (C : Cs) (k : Gs → Cs → Prop) : Prop :=
  ∀ σ vs v H (Q : St → Hp → Prop), Rel B g (x :: S) C σ (v :: vs) H → (∀ g' C' σ' H', k g' C' → L2.wipe σ' is = L2.wipe σ is → (∀ j : Nat, j ∉ is → g'[j]? = g[j]?) → Rel B g' S C' σ' vs H' → Q σ' H') → tg v σ H Q
theorem wipe_set_in (σ : St) (x : Option V) {j : Nat} {is : List Nat} (h : j ∈ is) : L2.wipe (σ.set j x) is = L2.wipe σ is := by
  rw [wipe_eq, wipe_eq]
  refine List.ext_getElem? fun i => ?_
  rw [wipe_at, wipe_at, List.length_set]
  by_cases hi : i ∈ is
  · rw [if_pos hi, if_pos hi]
  · rw [if_neg hi, if_neg hi, List.getElem?_set_ne (fun e => hi (by rw [← e]; exact h))]
theorem wipe_wipe (σ : St) (is : List Nat) : L2.wipe (L2.wipe σ is) is = L2.wipe σ is := by
  rw [wipe_eq (L2.wipe σ is), wipe_eq σ]
  refine List.ext_getElem? fun i => ?_
  rw [wipe_at, wipe_len, wipe_at]
  by_cases hi : i ∈ is
  · rw [if_pos hi, if_pos hi]
  · rw [if_neg hi, if_neg hi]
theorem wgw_name {j : Nat} {is : List Nat} {x : SV} {k : Gs → Cs → Prop} (hj : j ∈ is) (q : k (g.set j (some x)) C) : Wgw B (gName j) is x g S C k := fun σ vs v H Q R kq => kq _ C _ H q (wipe_set_in σ _ hj) (fun i hi => List.getElem?_set_ne fun e => hi (by rw [← e]; exact hj)) (let ⟨F, ρ, R⟩ := R; ⟨F, ρ, R.set⟩)
def Wgsw (B : Bs) (tg : TGs) (is : List Nat) (xs : List SV) (g : Gs) (S : List SV) (C : Cs) (k : Gs → Cs → Prop) : Prop :=
  ∀ σ vs us H (Q : St → Hp → Prop), us.length = xs.length → Rel B g (xs ++ S) C σ (us ++ vs) H → (∀ g' C' σ' H', k g' C' → L2.wipe σ' is = L2.wipe σ is → (∀ j : Nat, j ∉ is → g'[j]? = g[j]?) → Rel B g' S C' σ' vs H' → Q σ' H') → tg us σ H Q
theorem wgsw_nil {is : List Nat} {k : Gs → Cs → Prop} (q : k g C) : Wgsw B gNil is [] g S C k := fun σ vs us H Q l R kq => by
  match us, l with
  | [], _ => exact ⟨rfl, kq g C σ H q rfl (fun _ _ => rfl) R⟩
theorem wgsw_cons {is : List Nat} {t : TG} {ts : TGs} {x : SV} {xs : List SV} {k : Gs → Cs → Prop} (h : Wgw B t is x g (xs ++ S) C fun g1 C1 => Wgsw B ts is xs g1 S C1 k) : Wgsw B (gCons t ts) is (x :: xs) g S C k := fun σ vs us H Q l R kq => by
  match us, l with
  | u :: us, l =>
    refine ⟨u, us, rfl, ?_⟩
    exact h σ (us ++ vs) u H _ R fun g1 C1 σ1 H1 q1 e1 w1 R1 => q1 σ1 vs us H1 Q (Nat.succ.inj l) R1 fun g2 C2 σ2 H2 q2 e2 w2 R2 => kq g2 C2 σ2 H2 q2 (e2.trans e1) (fun j hj => (w2 j hj).trans (w1 j hj)) R2
theorem wgw_tup {is : List Nat} {ts : TGs} {ds : List D} {n : Nat} {k : Gs → Cs → Prop} (hn : ds.length = n) (h : Wgsw B ts is (ds.map .dat) g S C k) : Wgw B (gTup B.K n ts) is (.dat (.tuple ds)) g S C k := fun σ vs v H Q R kq => by
  obtain ⟨F, ρ, R1, hx⟩ := R.top
  obtain ⟨a, ws, rfl, ha, hp⟩ := R1.tv hx
  have hl : ws.length = ds.length := by
    have e := Paired.length hp
    rw [List.length_map] at e
    exact e
  refine ⟨a, ws, rfl, ha, by rw [hl, hn], h σ vs ws H Q (by rw [hl, List.length_map]) ⟨F, ρ, { R1 with stk := paired_app hp R1.stk }⟩ kq⟩
/-- what a cell stands for once it is frozen -/
def Fzn (c : Cell) (d : D) : Prop := ∀ (K : PySem.W.Frag) (F : Hp) (ρ : Nat → Addr) (n : Nat) (o : HO) (p : Addr), F p = some o → CIs K F ρ n o c → Is K F (.ref p) d
theorem fzn_lst (ds : List D) : Fzn (.lst (ds.map .dat)) (.list ds) := fun K F ρ n o p e h => by
  cases h with
  | lst h => exact .lst e (all_sis h)
theorem kv_sis {K : PySem.W.Frag} {F : Hp} {ρ : Nat → Addr} {n : Nat} : ∀ {ws : List (Key × V)} {ds : List (Key × D)}, Paired (fun p q => p.1 = q.1 ∧ SIs K F ρ n p.2 q.2) ws (ds.map fun q => (q.1, SV.dat q.2)) → IsKv K F ws (ds.map fun q => (keyD q.1, q.2))
  | [], [], _ => .nil
  | (k, v) :: _, _ :: _, .cons h r => by
    obtain ⟨h1, h2⟩ := h
    have h1' : k = _ := h1
    subst h1'
    exact .cons h2 (kv_sis r)
  | [], _ :: _, h => nomatch h
  | _ :: _, [], h => nomatch h
theorem fzn_dct (ds : List (Key × D)) : Fzn (.dct (ds.map fun q => (q.1, SV.dat q.2))) (.dict (ds.map fun q => (keyD q.1, q.2))) := fun K F ρ n o p e h => by
  cases h with
  | dct h => exact .dct e (kv_sis h)
/-- the cell at the end is taken off, frozen -/
theorem Rl.frzE {c0 : Cell} {d0 : D} {p : Addr} (hf : Fzn c0 d0) (R : Rl B g (.ref C.length :: S) (C ++ [some c0]) σ (.ref p :: vs) H F ρ)
    (wg : ∀ (i : Nat) (j : Nat), g[i]? = some (some (.ref j)) → j < C.length) (ws : ∀ j, SV.ref j ∈ S → j < C.length) (wc : ∀ (i : Nat) (c : Cell), C[i]? = some (some c) → ∀ (o : HO) F ρ n, CIs B.K F ρ n o c → CIs B.K F ρ C.length o c) (wn : B.n0 ≤ C.length) :
    ∃ F', Rl B g (.dat d0 :: S) C σ (.ref p :: vs) H F' ρ := by
  obtain ⟨R1, h1, h2⟩ := R.pop
  have ep : p = ρ C.length := by cases h2; rfl
  obtain ⟨n1, ⟨u, e1, h3⟩, h4⟩ := R.cell C.length c0 (by simp)
  have L : Le F (upd F (ρ C.length) u) := fun b u e => by rw [upd_ne (ne_of_none e n1)]; exact e
  have lt : ∀ {i : Nat} {c : Cell}, C[i]? = some (some c) → i < C.length := fun e => (List.getElem?_eq_some_iff.mp e).1
  have up : ∀ {i : Nat} {c : Cell}, C[i]? = some (some c) → (C ++ [some c0])[i]? = some (some c) := fun e => by rw [List.getElem?_append_left (lt e)]; exact e
  have dn : ∀ {v : V} {s : SV}, (∀ j, s = .ref j → j < C.length) → SIs B.K F ρ (C ++ [some c0]).length v s → SIs B.K (upd F (ρ C.length) u) ρ C.length v s := fun {v s} hr q => by
    cases s with
    | dat d => exact Is.mono L q
    | ref j => exact ⟨hr j rfl, q.2⟩
    | scr ns => exact let ⟨a, e, z⟩ := q; ⟨a, e, L.sq z⟩
  refine ⟨_, ⟨fun b u e => ?_, R.sub.tr L, R.keep, R.there, fun b u e => ?_, R.rho, wn, fun i j c d a b => R.inj i j c d (up a) (up b), fun i c e => ?_, R.len, fun i s e => ?_, ?_⟩⟩
  · by_cases hb : b = ρ C.length
    · subst hb; rw [upd_same] at e; cases e; exact e1
    · rw [upd_ne hb] at e; exact R.le b u e
  · by_cases hb : b = ρ C.length
    · rcases h4 with h4 | h4
      · omega
      · rw [hb]; exact .inr (.inl h4)
    · rw [upd_ne hb] at e; exact R.frz b u e
  · obtain ⟨q1, ⟨o, q2, q3⟩, q4⟩ := R.cell i c (up e)
    have ne : ρ i ≠ ρ C.length := fun z => absurd (R.inj i C.length c c0 (up e) (by simp) z) (Nat.ne_of_lt (lt e))
    exact ⟨by rw [upd_ne ne]; exact q1, ⟨o, q2, (wc i c e o F ρ _ q3).mono L (Nat.le_refl _) fun _ _ => rfl⟩, q4⟩
  · obtain ⟨v, q, r⟩ := R.slot i s e
    exact ⟨v, q, dn (fun j ej => by subst ej; exact wg i j e) r⟩
  · refine .cons ?_ ?_
    · rw [ep]
      exact hf _ _ ρ _ _ _ upd_same (h3.mono L (Nat.le_refl _) fun _ _ => rfl)
    · have h5 := R1.stk
      clear R R1 h1 h2 h4
      induction S generalizing vs with
      | nil => cases h5; exact .nil
      | cons s S ih =>
        cases h5 with
        | cons a b => exact .cons (dn (fun j ej => ws j (by rw [ej]; exact List.mem_cons_self)) a) (ih (fun j hj => ws j (List.mem_cons_of_mem _ hj)) b)
theorem SIs.lt {K : PySem.W.Frag} {F F0 : Hp} {ρ ρ0 : Nat → Addr} {n n0 : Nat} {v v0 : V} : ∀ {s : SV}, SIs K F0 ρ0 n0 v0 s → SIs K F ρ n v s → SIs K F ρ n0 v s
  | .dat _, _, h => h
  | .ref _, a, h => ⟨a.1, h.2⟩
  | .scr _, _, h => h
theorem paired_lt {α : Type} {P Q R : α → SV → Prop} (h : ∀ v0 v s, P v0 s → Q v s → R v s) : ∀ {xs0 xs : List α} {ys : List SV}, Paired P xs0 ys → Paired Q xs ys → Paired R xs ys
  | _, _, _, .nil, .nil => .nil
  | _, _, _, .cons a r, .cons b t => .cons (h _ _ _ a b) (paired_lt h r t)
theorem paired_lt2 {κ : Type} {P Q R : κ × V → κ × SV → Prop} (h : ∀ v0 v s, P v0 s → Q v s → R v s) : ∀ {xs0 xs : List (κ × V)} {ys : List (κ × SV)}, Paired P xs0 ys → Paired Q xs ys → Paired R xs ys
  | _, _, _, .nil, .nil => .nil
  | _, _, _, .cons a r, .cons b t => .cons (h _ _ _ a b) (paired_lt2 h r t)
theorem CIs.lt {K : PySem.W.Frag} {F F0 : Hp} {ρ ρ0 : Nat → Addr} {n n0 : Nat} {o o0 : HO} {c : Cell} (h0 : CIs K F0 ρ0 n0 o0 c) (h : CIs K F ρ n o c) : CIs K F ρ n0 o c := by
  cases h0 with
  | lst h0 => cases h with
    | lst h => exact .lst (paired_lt (fun _ _ _ a b => a.lt b) h0 h)
  | dct h0 => cases h with
    | dct h => exact .dct (paired_lt2 (fun _ _ _ a b => ⟨b.1, a.2.lt b.2⟩) h0 h)
  | ins h0 => cases h with
    | ins h => exact .ins (paired_lt2 (fun _ _ _ a b => ⟨b.1, a.2.lt b.2⟩) h0 h)
theorem mem_ref {S : List SV} {vs : List V} {K : PySem.W.Frag} {F : Hp} {ρ : Nat → Addr} {n : Nat} (h : Paired (SIs K F ρ n) vs S) {j : Nat} (hj : SV.ref j ∈ S) : j < n := by
  induction h with
  | nil => cases hj
  | cons a r ih =>
    rcases List.mem_cons.mp hj with e | e
    · subst e; exact a.1
    · exact ih e
/-- a cell made on the way, at the end, is frozen -/
theorem Rel.frzE {S0 : List SV} {σ0 : St} {vs0 : List V} {H0 : Hp} {c0 : Cell} {d0 : D} {p : Addr} (hf : Fzn c0 d0) (R0 : Rel B g S0 C σ0 vs0 H0) (hS : ∀ s ∈ S, s ∈ S0) (R : Rel B g (.ref C.length :: S) (C ++ [some c0]) σ (.ref p :: vs) H) : Rel B g (.dat d0 :: S) C σ (.ref p :: vs) H := by
  obtain ⟨F0, ρ0, R0⟩ := R0
  obtain ⟨F, ρ, R⟩ := R
  obtain ⟨F', RG⟩ := R.frzE hf (fun i j e => by
      obtain ⟨v, _, q⟩ := R0.slot i _ e
      exact q.1) (fun j hj => mem_ref R0.stk (hS _ hj)) (fun i c e o F ρ n q => by
      obtain ⟨_, ⟨o0, _, q0⟩, _⟩ := R0.cell i c e
      exact q0.lt q) R0.nc
  exact ⟨F', ρ, RG⟩
theorem kept_len {C0 : Cs} {H0 : Hp} {S0 : List SV} {vs0 : List V} (R : Rel B g S0 C0 σ vs0 H0) (is : List Nat) : (keptV g σ is).length = (keptS g is).length := let ⟨_, _, R⟩ := R; Paired.length (R.kept is)
theorem Rel.wlen (R : Rel B g S C σ vs H) : σ.length = g.length := let ⟨_, _, R⟩ := R; R.len
/-- the block's names forgotten again -/
theorem Rel.rewipe {g2 : Gs} {σ2 : St} {is : List Nat} (R : Rel B g2 S C σ2 vs H) (ew : L2.wipe σ2 is = L2.wipe σ is) (wg : ∀ j : Nat, j ∉ is → g2[j]? = (wipeG g is)[j]?) (hn : (L2.wipe σ is).length = (wipeG g is).length) : Rel B (wipeG g is) S C (L2.wipe σ is) vs H := by
  obtain ⟨F, ρ, R⟩ := R
  refine ⟨F, ρ, { R with len := ?_, slot := fun j t e => ?_ }⟩
  · exact hn
  · have hj : j ∉ is := fun h => by
      rw [wipe_at, if_pos h] at e
      by_cases hl : j < g.length
      · rw [if_pos hl] at e; cases e
      · rw [if_neg hl] at e; cases e
    rw [← wg j hj] at e
    obtain ⟨v, q, r⟩ := R.slot j t e
    refine ⟨v, ?_, r⟩
    rw [← ew, wipe_eq, wipe_at, if_neg hj]
    exact q
/-- [e for x in xs if t] -/
theorem we_lc {wi : TI} {tg : TG} {is : List Nat} {α : Type} (as : List α) (enc : α → SV) (p : α → Bool) (f : α → D) (hl : as.length ≤ sizeLine)
    (h : Wi B wi g S C fun T xs ok C1 => xs = as.map enc ∧ (∀ acc, ok (C1 ++ [some (.lst acc)])) ∧ (∀ (i : Nat) a acc, as[i]? = some a → Wgw B tg is (enc a) (wipeG g is) (.ref C1.length :: (T ++ (keptS g is ++ S))) (C1 ++ [some (.lst acc)]) fun g2 C2 => C2 = C1 ++ [some (.lst acc)] ∧
        Wt B tt g2 (.ref C1.length :: (T ++ (keptS g is ++ S))) (C1 ++ [some (.lst acc)]) fun b C3 => C3 = C1 ++ [some (.lst acc)] ∧ b = p a ∧ (b = true → We B te g2 (.ref C1.length :: (T ++ (keptS g is ++ S))) (C1 ++ [some (.lst acc)]) fun y C4 => C4 = C1 ++ [some (.lst acc)] ∧ y = .dat (f a))) ∧
      k (.dat (.list ((as.filter p).map f))) C1) : We B (tLc wi tg tt te is) g S C k := fun σ vs H Q R kq =>
  h σ vs H _ R fun J T tv xs ok C1 H1 ⟨exs, hok, hs, hk⟩ hT src R1 D hD => by
    subst exs
    have R1' : Rel B g (T ++ S) C1 σ (tv ++ vs) H1 := R1
    -- ahead: the names' values on the stack, the new list a cell
    have RS : Rel B (wipeG g is) (T ++ (keptS g is ++ S)) C1 (L2.wipe σ is) (tv ++ (keptV g σ is ++ vs)) H1 := by
      obtain ⟨F, ρ, R2⟩ := R1'.wiped is
      obtain ⟨F0, ρ0, R0⟩ := R1'
      have hk := Paired.length (R0.kept is)
      obtain ⟨a, b⟩ := paired_append hk R2.stk
      obtain ⟨c, d⟩ := paired_append hT b
      exact ⟨F, ρ, { R2 with stk := paired_app c (paired_app a d) }⟩
    have RD : Rel B (wipeG g is) (.ref C1.length :: (T ++ (keptS g is ++ S))) (C1 ++ [some (.lst [])]) (L2.wipe σ is) (.ref D :: (tv ++ (keptV g σ is ++ vs))) (upd H1 D (.lst [])) := by
      obtain ⟨F, ρ, R2⟩ := RS
      exact ⟨F, _, R2.lay_c hD (.lst .nil)⟩
    have outs : ∀ i, ((as.take i).filter p).length ≤ i := fun i => Nat.le_trans (List.length_filter_le _ _) (by rw [List.length_take]; omega)
    let Iv : Nat → Hp → Prop := fun i H' => Rel B (wipeG g is) (.ref C1.length :: (T ++ (keptS g is ++ S))) (C1 ++ [some (.lst ((((as.take i).filter p).map f).map .dat))]) (L2.wipe σ is) (.ref D :: (tv ++ (keptV g σ is ++ vs))) H'
    refine ⟨fun i m H' => m = as.length - i ∧ i ≤ as.length ∧ Iv i H', ⟨as.length, by simp, Nat.zero_le _, by show Rel _ _ _ _ _ _ _; simpa using RD⟩, ?_⟩
    rintro i m H' ⟨rfl, hi, RI⟩
    have RI' : Rel B (wipeG g is) (T ++ (.ref C1.length :: (keptS g is ++ S))) (C1 ++ [some (.lst ((((as.take i).filter p).map f).map .dat))]) (L2.wipe σ is) (tv ++ (.ref D :: (keptV g σ is ++ vs))) H' := by
      obtain ⟨F, ρ, R2⟩ := (RI : Rel _ _ _ _ _ _ _)
      cases e : R2.stk with
      | cons a b =>
        obtain ⟨c, d⟩ := paired_append hT b
        exact ⟨F, ρ, { R2 with stk := paired_app c (.cons a d) }⟩
    have z := src i _ _ _ _ _ H' (hok _) RI'
    rw [List.length_map] at z
    by_cases hlt : i < as.length
    · refine .inr ⟨(z.1 hlt).1, Iv (i + 1), fun H3 p3 => ⟨as.length - (i + 1), by omega, rfl, hlt, p3⟩, fun x H3 y => ?_⟩
      obtain ⟨s, es, R3⟩ := (z.1 hlt).2 x H3 y
      have ea : as[i]? = some as[i] := List.getElem?_eq_getElem hlt
      rw [List.getElem?_map, ea] at es
      obtain rfl : enc as[i] = s := by simpa using es
      have R4 : Rel B (wipeG g is) (enc as[i] :: .ref C1.length :: (T ++ (keptS g is ++ S))) (C1 ++ [some (.lst ((((as.take i).filter p).map f).map .dat))]) (L2.wipe σ is) (x :: .ref D :: (tv ++ (keptV g σ is ++ vs))) H3 := by
        obtain ⟨F, ρ, R2⟩ := R3
        cases e : R2.stk with
        | cons a b =>
          obtain ⟨c, d⟩ := paired_append hT b
          cases d with
          | cons d1 d2 => exact ⟨F, ρ, { R2 with stk := .cons a (.cons d1 (paired_app c d2)) }⟩
      have et : as.take (i + 1) = as.take i ++ [as[i]] := by rw [List.take_succ, ea]; rfl
      refine hs i as[i] _ ea (L2.wipe σ is) _ x H3 _ R4 fun g2 C2 σ2 H4 ⟨e2, q2⟩ ew wg R5 => ?_
      subst e2
      refine ⟨by rw [ew, wipe_wipe], q2 σ2 _ H4 _ R5 fun b C3 H5 ⟨e3, eb, q3⟩ R6 => ?_⟩
      subst e3
      cases b with
      | true =>
        show te σ2 H5 _
        refine q3 rfl σ2 _ H5 _ R6 fun y C4 v H6 ⟨e4, ey⟩ R7 => ?_
        subst e4 ey
        obtain ⟨F, ρ, R7⟩ := R7
        obtain ⟨R8, hv⟩ := R7.pop
        obtain ⟨R9, hr1, hr2⟩ := R8.pop
        have hD2 : D = ρ C1.length := by cases hr2; rfl
        obtain ⟨n1, ⟨u, e1, h3⟩, h4⟩ := R8.cell C1.length (.lst ((((as.take i).filter p).map f).map .dat)) (by simp)
        cases h3 with
        | @lst ws' _ h3 =>
          refine ⟨ws', by rw [hD2]; exact e1, ?_, ?_⟩
          · rw [Paired.length h3, List.length_map, List.length_map]
            exact Nat.lt_of_le_of_lt (outs i) (Nat.lt_of_lt_of_le hlt hl)
          · have R10 := R8.wr (i := C1.length) (c := .lst ((((as.take i).filter p).map f).map .dat)) (c' := .lst (((((as.take i).filter p).map f).map .dat) ++ [.dat (f as[i])])) (o := .lst (ws' ++ [v])) (by simp) (.lst (Paired.snoc h3 hv))
            rw [← hD2] at R10
            have ec : (C1 ++ [some (Cell.lst ((((as.take i).filter p).map f).map .dat))]).set C1.length (some (.lst (((((as.take i).filter p).map f).map .dat) ++ [.dat (f as[i])]))) = C1 ++ [some (Cell.lst ((((as.take (i + 1)).filter p).map f).map .dat))] := by
              rw [et, List.filter_append, List.filter_cons, ← eb]
              simp
            rw [ec] at R10
            exact Rel.rewipe ⟨F, ρ, R10⟩ (by rw [ew, wipe_wipe]) wg RI.wlen
      | false =>
        show Iv (i + 1) H5
        have ec : ((as.take (i + 1)).filter p) = ((as.take i).filter p) := by
          rw [et, List.filter_append, List.filter_cons, ← eb]
          simp
        show Rel _ _ _ _ _ _ _
        rw [ec]
        exact Rel.rewipe R6 (by rw [ew, wipe_wipe]) wg RI.wlen
    · have e : i = as.length := by omega
      subst e
      refine .inl ⟨z.2 (Nat.le_refl _), ?_⟩
      have RF : Rel B (wipeG g is) (.ref C1.length :: (T ++ (keptS g is ++ S))) (C1 ++ [some (.lst ((((as.take as.length).filter p).map f).map .dat))]) (L2.wipe σ is) (.ref D :: (tv ++ (keptV g σ is ++ vs))) H' := RI
      rw [List.take_length] at RF
      obtain ⟨F0, ρ0, R0⟩ := RS
      obtain ⟨F, ρ, RF⟩ := RF
      obtain ⟨F', RG⟩ := RF.frzE (fzn_lst _) (fun i j e => by
          obtain ⟨v, _, q⟩ := R0.slot i _ e
          exact q.1) (fun j hj => mem_ref R0.stk hj) (fun i c e o F ρ n q => by
          obtain ⟨_, ⟨o0, _, q0⟩, _⟩ := R0.cell i c e
          exact q0.lt q) R0.nc
      refine kq _ C1 (.ref D) H' hk (Rel.unwipe (is := is) (S := .dat (.list ((as.filter p).map f)) :: S) (vs := .ref D :: vs) R1 ⟨F', ρ, { RG with stk := ?_ }⟩)
      cases e : RG.stk with
      | cons a b =>
        obtain ⟨c, d⟩ := paired_append hT b
        obtain ⟨c2, d2⟩ := paired_append (kept_len R1 is) d
        exact paired_app c2 (.cons a d2)
end
end Sy

set_option Elab.async false
set_option linter.all false
set_option maxRecDepth 100000
set_option maxHeartbeats 400000
namespace Sy
open PySem L2
section
variable {B : Bs} {g : Gs} {S : List SV} {C : Cs} {k : SV → Cs → Prop} {kb : Bool → Cs → Prop} {ka : List SV → Cs → Prop} {te ta tb tc tl : TE} {t' : TA} {tt tu : TT} {kk : Ks} {tbody : TS}
variable {σ : St} {vs : List V} {H : Hp} {F : Hp} {ρ : Nat → Addr}
/-! ## defs without cells -/
/-- what a def keeps: its arguments closed, what it hands back data; ex: what it may raise (the class, the number) -/
structure Cp where
  ι : Type
  pre : ι → Prop
  args : ι → List SV
  post : ι → D → Prop
  exc : ι → Addr → Int → Prop := fun _ _ _ => False
def Cp.sp (K : PySem.W.Frag) (c : Cp) : Sp := fun vs H Q E => ∃ (i : c.ι) (F : Hp), c.pre i ∧ Le F H ∧ (c.args i).all SV.cl = true ∧ Paired (SIs K F (fun _ => 0) 0) vs (c.args i) ∧
  (∀ d v F' H', c.post i d → Le F F' → Le F' H' → Le H H' → (∀ b o, F' b = some o → F b = some o ∨ H b = none) → Is K F' v d → Q v H') ∧
  (∀ cls n dd fs H', c.exc i cls n → Le H H' → H' dd = some (.xd fs) → fs.lookup ("at" : Str) = some (.int n) → E (.ref cls) (some dd) H')
/-- E may be reached by what ex tells -/
def Xk (B : Bs) (E : XK) (ex : Addr → Int → Prop) : Prop := ∀ cls n dd fs H', ex cls n → (∀ b o, B.H0 b = some o → (∀ i, i < B.n0 → B.r0 i ≠ b) → H' b = some o) → H' dd = some (.xd fs) → fs.lookup ("at" : Str) = some (.int n) → E (.ref cls) (some dd) H'
theorem start_slot {P : V → SV → Prop} {m m' : Nat} : ∀ {vs : List V} {ss : List SV}, Paired P vs ss → ∀ {i : Nat} {s : SV}, (ss.map some ++ List.replicate m none)[i]? = some (some s) → ∃ v, (vs.map some ++ List.replicate m' none)[i]? = some (some v) ∧ P v s
  | _, _, .nil, i, s, e => by
    have e2 : (List.replicate m (none : Option SV))[i]? = some (some s) := e
    rw [List.getElem?_replicate] at e2
    split at e2 <;> cases e2
  | _, _, .cons a r, 0, s, e => by
    have e2 : some (some _) = some (some s) := e
    cases e2
    exact ⟨_, rfl, a⟩
  | _, _, .cons a r, i + 1, s, e => start_slot r (i := i) e
/-- the body of such a def -/
theorem Cp.body {K : PySem.W.Frag} {c : Cp} {vs : List V} {H : Hp} {Q : VK} {E : XK} {N : List Str} {t : TS} (h : c.sp K vs H Q E)
    (hb : ∀ (B : Bs) (i : c.ι), B.K = K → c.pre i → Xk B E (c.exc i) →
      B.n0 = 0 → Ws B t ((c.args i).map some ++ List.replicate (N.length - (c.args i).length) none) [] [] ⟨fun _ _ => c.post i .none, fun s _ => ∃ d, s = .dat d ∧ c.post i d, fun _ _ => False, fun _ _ => False⟩) :
    t { nx := fun _ H' => Q .non H', rt := Q } (L2.start N vs) H := by
  obtain ⟨i, F, hp, hF, hc, ha, hq, he⟩ := h
  have hl := Paired.length ha
  refine hb ⟨K, H, F, 0, fun _ => 0⟩ i rfl hp (fun cls n dd fs H' x k a b => he cls n dd fs H' x (fun b o e => k b o e fun j hj => absurd hj (Nat.not_lt_zero j)) a b) rfl (L2.start N vs) [] H _ ⟨F, fun _ => 0, hF, fun _ _ e => e, fun b o e _ => e, fun b e => e, fun b o e => .inl e, fun i hi => absurd hi (Nat.not_lt_zero i), Nat.zero_le _, fun i j c d e => by simp at e, fun i c e => by simp at e, ?_, fun i s e => ?_, .nil⟩ ⟨fun g C σ H' q R => ?_, fun s C v H' q R => ?_, fun _ _ _ _ q _ => q.elim, fun _ _ _ _ q _ => q.elim⟩
  · unfold L2.start
    rw [List.length_append, List.length_append, List.length_map, List.length_map, hl, List.length_replicate, List.length_replicate]
  · exact start_slot ha e
  · obtain ⟨F', ρ', R⟩ := R
    exact hq .none .non F' H' q R.sub R.le (fun b o e => R.keep b o e fun j hj => absurd hj (Nat.not_lt_zero j)) (fun b o e => by
      rcases R.frz b o e with z | z | ⟨j, hj, _⟩
      · exact .inl z
      · exact .inr z
      · exact absurd hj (Nat.not_lt_zero j)) .non
  · obtain ⟨d, e, q⟩ := q
    subst e
    obtain ⟨F', ρ', R, hd⟩ := R.top
    exact hq d v F' H' q R.sub R.le (fun b o e => R.keep b o e fun j hj => absurd hj (Nat.not_lt_zero j)) (fun b o e => by
      rcases R.frz b o e with z | z | ⟨j, hj, _⟩
      · exact .inl z
      · exact .inr z
      · exact absurd hj (Nat.not_lt_zero j)) hd
/-- behind a call that laid new things alone -/
theorem Rl.grown {F' H' : Hp} (R : Rl B g S C σ vs H F ρ) (h1 : Le F F') (h2 : Le F' H') (h3 : Le H H') (h4 : ∀ b o, F' b = some o → F b = some o ∨ H b = none) : Rl B g S C σ vs H' F' ρ := by
  refine ⟨h2, R.sub.tr h1, fun b o e k => h3 b o (R.keep b o e k), fun b e => R.there b ?_, fun b o e => ?_, R.rho, R.nc, R.inj, fun i c e => ?_, R.len, fun i s e => ?_, ?_⟩
  · cases q : H b with
    | none => rfl
    | some o => rw [h3 b o q] at e; cases e
  · rcases h4 b o e with z | z
    · exact R.frz b o z
    · exact .inr (.inl (R.there b z))
  · obtain ⟨q1, ⟨o, q2, q3⟩, q4⟩ := R.cell i c e
    refine ⟨?_, ⟨o, h3 _ _ q2, q3.mono h1 (Nat.le_refl _) fun _ _ => rfl⟩, q4⟩
    cases q : F' (ρ i) with
    | none => rfl
    | some u =>
      rcases h4 _ u q with z | z
      · rw [q1] at z; cases z
      · rw [q2] at z; cases z
  · obtain ⟨v, q, r⟩ := R.slot i s e
    exact ⟨v, q, r.mono h1 (Nat.le_refl _) fun _ _ => rfl⟩
  · exact Paired.mapP R.stk fun _ _ q => q.mono h1 (Nat.le_refl _) fun _ _ => rfl
theorem sis_cl {K : PySem.W.Frag} {F : Hp} {ρ ρ' : Nat → Addr} {n n' : Nat} : ∀ {ws : List V} {ss : List SV}, ss.all SV.cl = true → Paired (SIs K F ρ n) ws ss → Paired (SIs K F ρ' n') ws ss
  | _, _, _, .nil => .nil
  | _, _, h, .cons a r => by
    rw [List.all_cons, Bool.and_eq_true] at h
    exact .cons (SIs.cl h.1 a) (sis_cl h.2 r)
/-- a call of such a def -/
theorem we_call {c : Cp} {E : XK} {ex : Addr → Int → Prop} (hX : Xk B E ex) (h : Wa B t' g S C fun ss C1 => ∃ i, ss = c.args i ∧ (c.args i).all SV.cl = true ∧ c.pre i ∧ (∀ d, c.post i d → k (.dat d) C1) ∧ (∀ cls n, c.exc i cls n → ex cls n)) :
    We B (tCall (c.sp B.K) [] E t') g S C k := fun σ vs H Q R kq => h σ vs H _ R fun ss C1 us H1 ⟨i, e, hc, hp, hk, he⟩ l R1 => by
  subst e
  obtain ⟨F, ρ, R1⟩ := R1
  obtain ⟨R2, hu⟩ := popN R1 l
  show c.sp B.K (us ++ []) H1 Q E
  rw [List.append_nil]
  refine ⟨i, F, hp, R2.le, hc, sis_cl hc hu, fun d v F' H' q h1 h2 h3 h4 hd => ?_, fun cls n dd fs H' x h3 a b => ?_⟩
  · exact kq (.dat d) C1 v H' (hk d q) ⟨F', ρ, (R2.grown h1 h2 h3 h4).push hd⟩
  · exact hX cls n dd fs H' (he cls n x) (fun b o e k => h3 b o (R2.keep b o e k)) a b
theorem Cp.len {K : PySem.W.Frag} {c : Cp} {n : Nat} (h : ∀ i, (c.args i).length = n) (vs : List V) (H : Hp) (Q : VK) (E : XK) (p : c.sp K vs H Q E) : vs.length = n := let ⟨i, _, _, _, _, hp, _⟩ := p; (Paired.length hp).trans (h i)
theorem xk0 {ex : Addr → Int → Prop} (h : ∀ cls n, ¬ ex cls n) : Xk B E0 ex := fun cls n _ _ _ x _ _ _ => absurd x (h cls n)
theorem xk0' : Xk B E0 (fun _ _ => False) := fun _ _ _ _ _ x _ _ _ => x.elim
end
end Sy

set_option Elab.async false
set_option linter.all false
set_option maxRecDepth 100000
set_option maxHeartbeats 400000
namespace Sy
open PySem L2
section
variable {B : Bs} {g : Gs} {S : List SV} {C : Cs} {k : SV → Cs → Prop} {kb : Bool → Cs → Prop} {ka : List SV → Cs → Prop} {te ta tb tc tl : TE} {t' : TA} {tt tu : TT} {kk : Ks} {tbody : TS}
variable {σ : St} {vs : List V} {H : Hp} {F : Hp} {ρ : Nat → Addr}
/-! ## dicts -/
theorem keyD_inj {a b : Key} (h : keyD a = keyD b) : a = b := by
  cases a <;> cases b <;> simp only [keyD, PyData.int.injEq, PyData.str.injEq, reduceCtorEq] at h <;> rw [h]
/-- the value at a key -/
inductive DL : List (D × D) → Key → D → Prop
  | here {k : Key} {d : D} {r : List (D × D)} : DL ((keyD k, d) :: r) k d
  | next {k k' : Key} {d d' : D} {r : List (D × D)} : k' ≠ k → DL r k d → DL ((keyD k', d') :: r) k d
inductive KL : List (Key × SV) → Key → SV → Prop
  | here {k : Key} {d : SV} {r : List (Key × SV)} : KL ((k, d) :: r) k d
  | next {k k' : Key} {d d' : SV} {r : List (Key × SV)} : k' ≠ k → KL r k d → KL ((k', d') :: r) k d
theorem DL.val {K : PySem.W.Frag} {F : Hp} : ∀ {ds : List (D × D)} {k : Key} {d : D}, DL ds k d → ∀ {ks : List (Key × V)}, IsKv K F ks ds → ∃ v, valV ks k = some v ∧ Is K F v d
  | _, _, _, .here, _, h => by
    generalize e : (keyD _, _) :: _ = l at h
    cases h with
    | nil => cases e
    | cons a r =>
      simp only [List.cons.injEq, Prod.mk.injEq] at e
      obtain ⟨⟨e1, e2⟩, _⟩ := e
      rw [← e2] at a
      exact ⟨_, valV_pos (keyD_inj e1).symm, a⟩
  | _, _, _, .next n l, _, h => by
    generalize e : (keyD _, _) :: _ = l' at h
    cases h with
    | nil => cases e
    | cons a r =>
      simp only [List.cons.injEq, Prod.mk.injEq] at e
      obtain ⟨⟨e1, e2⟩, e3⟩ := e
      rw [← e3] at r
      obtain ⟨v, q, i⟩ := DL.val l r
      exact ⟨v, by rw [valV_neg (by rw [← keyD_inj e1]; exact n)]; exact q, i⟩
theorem KL.val {P : V → SV → Prop} : ∀ {ds : List (Key × SV)} {k : Key} {d : SV}, KL ds k d → ∀ {ks : List (Key × V)}, Paired (fun p q => p.1 = q.1 ∧ P p.2 q.2) ks ds → ∃ v, valV ks k = some v ∧ P v d
  | _, _, _, .here, _, .cons a r => ⟨_, valV_pos a.1, a.2⟩
  | _, _, _, .next n l, _, .cons a r => by
    obtain ⟨v, q, i⟩ := KL.val l r
    exact ⟨v, by rw [valV_neg (by rw [a.1]; exact n)]; exact q, i⟩
/-- what a dict has at a key -/
inductive DV (C : Cs) : SV → Key → SV → Prop
  | dat {ds : List (D × D)} {k : Key} {d : D} : DL ds k d → DV C (.dat (.dict ds)) k (.dat d)
  | cell {i : Nat} {ks : List (Key × SV)} {k : Key} {s : SV} : C[i]? = some (some (.dct ks)) → KL ks k s → DV C (.ref i) k s
def keyS : Key → SV := fun k => .dat (keyD k)
theorem is_key {K : PySem.W.Frag} {F : Hp} {v : V} {k : Key} (h : Is K F v (keyD k)) : v = kV k := by
  cases k with
  | inl i => exact Is.int_inv h
  | inr x => exact Is.str_inv h
theorem we_dget (h : We B ta g S C fun x C1 => We B tb g (x :: S) C1 fun y C2 => ∃ key s, y = keyS key ∧ DV C2 x key s ∧ k s C2) : We B (tDGet ta tb) g S C k := fun σ vs H Q R kq =>
  h σ vs H _ R fun x C1 v H1 h1 R1 => h1 σ (v :: vs) H1 _ R1 fun y C2 w H2 ⟨key, s, ey, dv, q⟩ R2 => by
    subst ey
    obtain ⟨F, ρ, R3, hy⟩ := R2.top
    obtain ⟨R4, hx⟩ := R3.pop
    obtain rfl := is_key hy
    cases dv with
    | dat l =>
      cases hx with
      | dct e r =>
        obtain ⟨u, q1, q2⟩ := l.val r
        exact ⟨_, u, rfl, by rw [← q1]; exact DGet.k (R4.le _ _ e), kq _ C2 u H2 q ⟨F, ρ, R4.push q2⟩⟩
    | cell e l =>
      obtain ⟨_, ⟨o, e2, q3⟩, _⟩ := R4.cell _ _ e
      obtain ⟨_, ev⟩ := hx
      cases q3 with
      | dct q3 =>
        obtain ⟨u, q1, q2⟩ := l.val q3
        exact ⟨_, u, ev, by rw [← q1]; exact DGet.k e2, kq _ C2 u H2 q ⟨F, ρ, R4.push q2⟩⟩
/-- the pairs of a display -/
def Wps (B : Bs) (g : Gs) : List (TE × TE) → List SV → Cs → (List (Key × SV) → List SV → Cs → Prop) → Prop
  | [], S, C, k => k [] S C
  | (tk, tv) :: r, S, C, k => We B tk g S C fun x C1 => ∃ key, x = keyS key ∧ We B tv g (x :: S) C1 fun y C2 => Wps B g r (y :: x :: S) C2 fun ps S3 C3 => k ((key, y) :: ps) S3 C3
theorem wps_run {trs : List (TE × TE)} : ∀ {S : List SV} {C : Cs} {kp : List (Key × SV) → List SV → Cs → Prop}, Wps B g trs S C kp → ∀ (σ : St) (vs : List V) (H : Hp) (Q : List (V × V) → Hp → Prop), Rel B g S C σ vs H →
    (∀ ps S' C' (ws : List V) (us : List V) H', kp ps S' C' → us.length = ps.length → Rel B g (ps.map (·.2) ++ S) C' σ (us ++ vs) H' → Q ((ps.map (·.1)).zipWith (fun k u => (kV k, u)) us) H') → tPairs trs σ H Q := by
  induction trs with
  | nil =>
    intro S C kp h σ vs H Q R kq
    exact kq [] S C [] [] H h rfl R
  | cons tr r ih =>
    intro S C kp h σ vs H Q R kq
    obtain ⟨tk, tv⟩ := tr
    refine h σ vs H _ R fun x C1 v H1 ⟨key, e, h1⟩ R1 => ?_
    subst e
    refine h1 σ (v :: vs) H1 _ R1 fun y C2 w H2 h2 R2 => ?_
    refine ih h2 σ (w :: v :: vs) H2 _ R2 fun ps S' C' ws us H3 q l R3 => ?_
    obtain ⟨F, ρ, R2⟩ := R2
    obtain ⟨F3, ρ3, R3⟩ := R3
    obtain ⟨a, b⟩ := paired_append (by rw [List.length_map]; exact l) R3.stk
    cases b with
    | cons b1 b =>
      cases b with
      | cons b2 b =>
        obtain rfl := is_key b2
        exact kq ((key, y) :: ps) S' C' ws (w :: us) H3 q (by simp [l]) ⟨F3, ρ3, { R3 with stk := .cons b1 (paired_app a b) }⟩
/-- {..}, the keys unlike, frozen at once -/
theorem we_disp {trs : List (TE × TE)} (h : Wps B g trs (.ref C.length :: S) (C ++ [some (.dct [])]) fun ps _ C1 => C1 = C ++ [some (.dct [])] ∧ ∃ ds : List (Key × D), ps = ds.map (fun q => (q.1, .dat q.2)) ∧ ds.length ≤ 15 ∧ (ds.map (·.1)).Nodup ∧ k (.dat (.dict (ds.map fun q => (keyD q.1, q.2)))) C) :
    We B (tDisp trs) g S C k := fun σ vs H Q R kq p hp => by
  have R0 : Rel B g (.ref C.length :: S) (C ++ [some (.dct [])]) σ (.ref p :: vs) (upd H p (.dK [])) := by
    obtain ⟨F, ρ, R⟩ := R
    exact ⟨F, _, R.lay_c hp (.dct .nil)⟩
  refine wps_run h σ _ _ _ R0 fun ps S' C1 ws us H1 ⟨e, ds, eps, hl, hn, q⟩ l R1 => ?_
  subst e eps
  obtain ⟨F, ρ, R1⟩ := R1
  obtain ⟨a, b⟩ := paired_append (by rw [List.length_map]; exact l) R1.stk
  have R2 : Rl B g (.ref C.length :: S) (C ++ [some (.dct [])]) σ (.ref p :: vs) H1 F ρ := { R1 with stk := b }
  obtain ⟨R3, hp1, hp2⟩ := R2.pop
  have ep : p = ρ C.length := by cases hp2; rfl
  obtain ⟨n1, ⟨u, e1, h3⟩, h4⟩ := R2.cell C.length (.dct []) (by simp)
  have eu : u = .dK [] := by
    cases h3 with
    | dct h3 => cases h3; rfl
  subst eu
  rw [List.map_map] at a
  have key : ∀ {ds : List (Key × D)} {us : List V}, Paired (SIs B.K F ρ (C ++ [some (Cell.dct [])]).length) us (ds.map ((fun q : Key × SV => q.2) ∘ fun q : Key × D => (q.1, SV.dat q.2))) →
      Paired (fun (p : Key × V) (q : Key × SV) => p.1 = q.1 ∧ SIs B.K F ρ (C ++ [some (Cell.dct [])]).length p.2 q.2) ((ds.map (·.1)).zipWith (fun k u => (k, u)) us) (ds.map fun q => (q.1, SV.dat q.2)) := by
    intro ds
    induction ds with
    | nil => intro us h; cases h; exact .nil
    | cons q r ih => intro us h; cases h with
      | cons x y => exact .cons ⟨rfl, x⟩ (ih y)
  have hz := key a
  have hlen : us.length = ds.length := by simpa using l
  have mk : ∀ (ls : List (Key × V)), (ls.map (·.1)).Nodup → mergeK [] ls = ls := fun ls hn => by
    unfold mergeK
    have gen : ∀ (ls acc : List (Key × V)), ((acc ++ ls).map (·.1)).Nodup → ls.foldl (fun acc kv => putK acc kv.1 kv.2) acc = acc ++ ls := by
      intro ls
      induction ls with
      | nil => intro acc _; simp
      | cons x r ih =>
        intro acc hn
        have hx : valV acc x.1 = none := by
          have h1 : x.1 ∉ acc.map (·.1) := by
            rw [List.map_append, List.map_cons] at hn
            intro hm
            have := (List.nodup_append.mp hn).2.2 _ hm x.1 List.mem_cons_self
            exact this rfl
          have h2 := valV_any x.1 acc
          cases e : valV acc x.1 with
          | none => rfl
          | some v =>
            rw [e] at h2
            obtain ⟨y, hy, ey⟩ := List.any_eq_true.mp (h2.trans rfl)
            exact absurd (List.mem_map.mpr ⟨y, hy, of_decide_eq_true ey⟩) h1
        rw [List.foldl_cons, putK_new _ hx, ih _ (by simpa using hn)]
        simp
    simpa using gen ls [] (by simpa using hn)
  have hk1 : (((ds.map (·.1)).zipWith (fun k u => (k, u)) us).map (·.1)) = ds.map (·.1) := by
    have gen : ∀ (ds : List (Key × D)) (us : List V), us.length = ds.length → (((ds.map (·.1)).zipWith (fun k u => (k, u)) us).map (·.1)) = ds.map (·.1) := by
      intro ds
      induction ds with
      | nil => intro us _; simp
      | cons q r ih => intro us h; match us, h with
        | u :: us, h => simpa using ih us (by simpa using h)
    exact gen ds us hlen
  refine ⟨by rw [ep]; exact e1, (ds.map (·.1)).zipWith (fun k u => (k, u)) us, ?_, by rw [List.length_zipWith, List.length_map]; omega, ?_⟩
  · rw [List.map_map, List.map_zipWith]
    rfl
  · rw [mk _ (by rw [hk1]; exact hn), ep]
    have R4 := R2.wr (i := C.length) (c := .dct []) (c' := .dct (ds.map fun q => (q.1, .dat q.2))) (o := .dK ((ds.map (·.1)).zipWith (fun k u => (k, u)) us)) (by simp) (.dct hz)
    have ec : (C ++ [some (Cell.dct [])]).set C.length (some (.dct (ds.map fun q => (q.1, .dat q.2)))) = C ++ [some (Cell.dct (ds.map fun q => (q.1, .dat q.2)))] := by simp
    rw [ec] at R4
    have R5 := Rel.frzE (fzn_dct ds) R (fun s hs => hs) ⟨F, ρ, R4⟩
    rw [ep] at R5
    exact kq _ C _ _ q R5
end
end Sy

set_option Elab.async false
set_option linter.all false
set_option maxRecDepth 100000
set_option maxHeartbeats 400000
namespace Sy
open PySem L2
section
variable {B : Bs} {g : Gs} {S : List SV} {C : Cs} {k : SV → Cs → Prop} {kb : Bool → Cs → Prop} {ka : List SV → Cs → Prop} {te ta tb tc tl : TE} {t' : TA} {tt tu : TT} {kk : Ks} {tbody : TS}
variable {σ : St} {vs : List V} {H : Hp} {F : Hp} {ρ : Nat → Addr}
/-! ## attributes -/
inductive FL : List (Str × SV) → Str → SV → Prop
  | here {k : Str} {d : SV} {r : List (Str × SV)} : FL ((k, d) :: r) k d
  | next {k k' : Str} {d d' : SV} {r : List (Str × SV)} : k' ≠ k → FL r k d → FL ((k', d') :: r) k d
inductive PF : List (Str × SV) → Str → SV → List (Str × SV) → Prop
  | here {k : Str} {d e : SV} {r : List (Str × SV)} : PF ((k, e) :: r) k d ((k, d) :: r)
  | new {k : Str} {d : SV} : PF [] k d [(k, d)]
  | next {k k' : Str} {d d' : SV} {r r' : List (Str × SV)} : k' ≠ k → PF r k d r' → PF ((k', d') :: r) k d ((k', d') :: r')
/-- no attribute of that name -/
inductive FN : List (Str × SV) → Str → Prop
  | nil {k : Str} : FN [] k
  | next {k k' : Str} {d' : SV} {r : List (Str × SV)} : k' ≠ k → FN r k → FN ((k', d') :: r) k
theorem lookup_pos {f : Str} {v : V} {r : List (Str × V)} : List.lookup f ((f, v) :: r) = some v := by simp [List.lookup]
theorem lookup_neg {f f' : Str} {v : V} {r : List (Str × V)} (h : f' ≠ f) : List.lookup f ((f', v) :: r) = List.lookup f r := by
  have e : (f == f') = false := by simpa using Ne.symm h
  simp [List.lookup, e]
theorem FL.look {P : V → SV → Prop} : ∀ {ds : List (Str × SV)} {f : Str} {s : SV}, FL ds f s → ∀ {fs : List (Str × V)}, Paired (fun p q => p.1 = q.1 ∧ P p.2 q.2) fs ds → ∃ v, fs.lookup f = some v ∧ P v s
  | _, _, _, .here, (f, v) :: _, .cons a r => by
    obtain ⟨a1, a2⟩ := a
    have e : f = _ := a1
    subst e
    exact ⟨v, lookup_pos, a2⟩
  | _, _, _, .next n l, (f, v) :: _, .cons a r => by
    obtain ⟨w, q, i⟩ := FL.look l r
    have e : f = _ := a.1
    subst e
    exact ⟨w, by rw [lookup_neg n]; exact q, i⟩
theorem FN.look {P : V → SV → Prop} : ∀ {ds : List (Str × SV)} {f : Str}, FN ds f → ∀ {fs : List (Str × V)}, Paired (fun p q => p.1 = q.1 ∧ P p.2 q.2) fs ds → fs.lookup f = none
  | _, _, .nil, _, .nil => rfl
  | _, _, .next n l, (f, v) :: _, .cons a r => by
    have e : f = _ := a.1
    subst e
    rw [lookup_neg n]
    exact FN.look l r
theorem PF.put {P : V → SV → Prop} {v : V} : ∀ {ds ds' : List (Str × SV)} {f : Str} {s : SV}, PF ds f s ds' → P v s → ∀ {fs : List (Str × V)}, Paired (fun p q => p.1 = q.1 ∧ P p.2 q.2) fs ds → Paired (fun p q => p.1 = q.1 ∧ P p.2 q.2) (putF f v fs) ds'
  | _, _, _, _, .here, hv, (f, _) :: r0, .cons a r => by
    have e : f = _ := a.1
    subst e
    show Paired _ (if f = f then _ else _) _
    rw [if_pos rfl]
    exact .cons ⟨rfl, hv⟩ r
  | _, _, _, _, .new, hv, _, .nil => .cons ⟨rfl, hv⟩ .nil
  | _, _, _, _, .next n l, hv, (f, w) :: r0, .cons a r => by
    have e : f = _ := a.1
    subst e
    show Paired _ (if f = _ then _ else _) _
    rw [if_neg n]
    exact .cons a (PF.put l hv r)
theorem we_fld {CC : Addr} {f : Str} (hc : Cls B.K CC) (hn : NoAttr B.K CC f) (h : We B ta g S C fun x C1 => ∃ i fs s, x = .ref i ∧ C1[i]? = some (some (.ins CC fs)) ∧ FL fs f s ∧ k s C1) : We B (tFld B.K ta f) g S C k := fun σ vs H Q R kq =>
  h σ vs H _ R fun x C1 v H1 ⟨i, fs, s, e, ei, fl, q⟩ R1 => by
    subst e
    obtain ⟨F, ρ, R2, hx⟩ := R1.top
    obtain ⟨_, ⟨o, e2, q3⟩, _⟩ := R2.cell _ _ ei
    cases q3 with
    | @ins _ dx ws _ q3 =>
      obtain ⟨u, q1, q2⟩ := fl.look q3
      exact ⟨_, CC, dx, ws, u, hx.2, e2, hc, hn, q1, kq s C1 u H1 q ⟨F, ρ, R2.push q2⟩⟩
theorem ws_sfld {CC : Addr} {f : Str} (hc : Cls B.K CC) (hn : NoAttr B.K CC f) (h : We B tb g S C fun y C1 => We B ta g (y :: S) C1 fun x C2 => ∃ i fs fs', x = .ref i ∧ C2[i]? = some (some (.ins CC fs)) ∧ PF fs f y fs' ∧ fs.length < 1000 ∧ kk.nx g (C2.set i (some (.ins CC fs')))) :
    Ws B (sFld B.K ta tb f) g S C kk := fun σ vs H D R d =>
  h σ vs H _ R fun y C1 w H1 h1 R1 => h1 σ (w :: vs) H1 _ R1 fun x C2 v H2 ⟨i, fs, fs', e, ei, pf, hl, q⟩ R2 => by
    subst e
    obtain ⟨F, ρ, R3, hx⟩ := R2.top
    obtain ⟨R4, hy⟩ := R3.pop
    obtain ⟨_, ⟨o, e2, q3⟩, _⟩ := R4.cell _ _ ei
    cases q3 with
    | @ins _ dx ws _ q3 =>
      refine ⟨_, CC, dx, ws, hx.2, e2, hc, hn, by rw [Paired.length q3]; exact hl, d.nx _ _ _ _ q ⟨F, ρ, R4.wr ei (.ins (pf.put hy q3))⟩⟩
/-! ## lists written -/
theorem we_app (h : We B ta g S C fun x C1 => ∃ i xs0, x = .ref i ∧ C1[i]? = some (some (.lst xs0)) ∧ Wa B t' g (x :: S) C1 fun ss C2 => ∃ y xs, ss = [y] ∧ C2[i]? = some (some (.lst xs)) ∧ xs.length < sizeLine ∧ k (.dat .none) (C2.set i (some (.lst (xs ++ [y]))))) :
    We B (tBM B.K "list" rAppend ta t') g S C k := fun σ vs H Q R kq =>
  h σ vs H _ R fun x C1 v H1 ⟨i, xs0, e, ei, h1⟩ R1 => by
    subst e
    obtain ⟨F, ρ, R2, hx⟩ := R1.top
    obtain ⟨_, ⟨o, e2, q3⟩, _⟩ := R2.cell _ _ ei
    cases q3 with
    | @lst ws0 _ q3 =>
      have ev := hx.2
      subst ev
      refine ⟨.inl ⟨rfl, _, SqL.of e2⟩, ?_⟩
      refine h1 σ _ H1 _ R1 fun ss C2 us H2 ⟨y, xs, ess, ei2, hl, q⟩ l R3 => ?_
      subst ess
      obtain ⟨u, rfl, R3⟩ := R3.one l
      obtain ⟨F2, ρ2, R4, hy⟩ := R3.top
      obtain ⟨R5, hx2⟩ := R4.pop
      obtain ⟨_, ⟨o2, e3, q4⟩, _⟩ := R5.cell _ _ ei2
      cases q4 with
      | @lst ws _ q4 =>
        have er : ρ i = ρ2 i := by
          exact V.ref.inj hx2.2
        refine ⟨ρ i, ws, u, rfl, rfl, by rw [er]; exact e3, by rw [Paired.length q4]; exact hl, ?_⟩
        rw [er]
        exact kq _ _ _ _ q ⟨F2, ρ2, (R5.wr ei2 (.lst (Paired.snoc q4 hy))).push .non⟩
theorem pset {α β : Type} {P : α → β → Prop} {x : α} {y : β} : ∀ {xs : List α} {ys : List β}, Paired P xs ys → P x y → ∀ j : Nat, Paired P (xs.set j x) (ys.set j y)
  | _, _, .nil, _, _ => .nil
  | _, _, .cons _ t, h, 0 => .cons h t
  | _, _, .cons a t, h, j + 1 => .cons a (pset t h j)
/-- o[i] = v, a list -/
theorem wg_sub {to ti : TE} {x : SV} {k : Gs → Cs → Prop} (h : We B to g (x :: S) C fun o C1 => We B ti g (o :: x :: S) C1 fun y C2 => ∃ i xs n j, o = .ref i ∧ y = .dat (.int n) ∧ C2[i]? = some (some (.lst xs)) ∧ ixN xs.length n = some j ∧ k g (C2.set i (some (.lst (xs.set j x))))) :
    Wg B (gSub to ti rSetL) x g S C k := fun σ vs v H Q R kq =>
  h σ (v :: vs) H _ R fun o C1 w H1 h1 R1 => h1 σ (w :: v :: vs) H1 _ R1 fun y C2 u H2 ⟨i, xs, n, j, eo, ey, ei, ej, q⟩ R2 => by
    subst eo ey
    obtain rfl := R2.top_int
    obtain ⟨F, ρ, R3, ho⟩ := R2.drop1.top
    obtain ⟨R4, hx⟩ := R3.pop
    obtain ⟨_, ⟨ob, e2, q3⟩, _⟩ := R4.cell _ _ ei
    cases q3 with
    | @lst ws _ q3 =>
      refine ⟨ρ i, ws, n, j, ho.2, rfl, e2, by rw [Paired.length q3]; exact ej, kq _ _ _ _ q ⟨F, ρ, R4.wr ei (.lst (pset q3 hx j))⟩⟩
theorem ws_asgG {tg : TG} (h : We B te g S C fun s C1 => Wg B tg s g S C1 kk.nx) : Ws B (tAsg te tg) g S C kk := fun σ vs H D R d =>
  h σ vs H _ R fun s C1 v H1 q R1 => q σ vs v H1 _ R1 fun g2 C2 σ2 H2 q2 R2 => d.nx _ _ _ _ q2 R2
/-! ## list + list, list * int -/
theorem wr_cat {x y : SV} {xs ys : List D} (lx : LV C x (xs.map .dat)) (ly : LV C y (ys.map .dat)) (hl : xs.length + ys.length ≤ sizeLine) (q : k (.dat (.list (xs ++ ys))) C) : Wr B rCat x y g S C k := fun σ vs H Q v w R kq => by
  obtain ⟨F, ρ, R1, hy⟩ := R.top
  obtain ⟨R2, hx⟩ := R1.pop
  obtain ⟨a, ws, rfl, ha, hp⟩ := R2.lv hx lx
  obtain ⟨b, us, rfl, hb, hp2⟩ := R2.lv hy ly
  have l1 := Paired.length hp
  have l2 := Paired.length hp2
  rw [List.length_map] at l1 l2
  refine ⟨a, b, ws, us, rfl, rfl, ha, hb, by omega, fun p hp3 => ?_⟩
  obtain ⟨R4, L⟩ := R2.lay (o := .lst (ws ++ us)) hp3
  have ap : IsAll B.K F (ws ++ us) (xs ++ ys) := all_sis (ρ := ρ) (n := C.length) (by rw [List.map_append]; exact paired_app hp hp2)
  exact kq _ C _ _ q ⟨_, ρ, R4.push (.lst upd_same (ap.mono L))⟩
theorem wr_rep {x : SV} {xs : List D} {n : Int} (lx : LV C x (xs.map .dat)) (h0 : -(2 ^ 63) ≤ n) (h1 : n < 2 ^ 63) (hl : xs.length * n.toNat ≤ sizeLine) (q : k (.dat (.list (List.replicate n.toNat xs).flatten)) C) : Wr B rRep x (.dat (.int n)) g S C k := fun σ vs H Q v w R kq => by
  obtain rfl := R.top_int
  obtain ⟨F, ρ, R2, hx⟩ := R.drop1.top
  obtain ⟨a, ws, rfl, ha, hp⟩ := R2.lv hx lx
  have l1 := Paired.length hp
  rw [List.length_map] at l1
  refine ⟨a, n, ws, rfl, rfl, ha, h0, h1, by rw [l1]; exact hl, fun p hp3 => ?_⟩
  obtain ⟨R4, L⟩ := R2.lay (o := .lst (List.replicate n.toNat ws).flatten) hp3
  have ap : ∀ m : Nat, IsAll B.K F (List.replicate m ws).flatten (List.replicate m xs).flatten := fun m => by
    induction m with
    | zero => exact .nil
    | succ m ih =>
      rw [List.replicate_succ, List.replicate_succ, List.flatten_cons, List.flatten_cons]
      refine all_sis (ρ := ρ) (n := C.length) ?_
      rw [List.map_append]
      exact paired_app hp (sis_all ih)
  exact kq _ C _ _ q ⟨_, ρ, R4.push (.lst upd_same ((ap n.toNat).mono L))⟩
/-! ## in -/
def flatD : D → Option V
  | .none => some .non
  | .bool b => some (.bl b)
  | .int i => some (.int i)
  | .str x => some (.str x)
  | _ => none
theorem flat_is {K : PySem.W.Frag} {F : Hp} {v u : V} {d : D} (h : Is K F v d) (e : flatD d = some u) : v = u ∧ flatV v = true := by
  cases h <;> simp only [flatD, Option.some.injEq, reduceCtorEq] at e
  all_goals (subst e; exact ⟨rfl, rfl⟩)
theorem flats_is {K : PySem.W.Frag} {F : Hp} {ρ : Nat → Addr} {n : Nat} : ∀ {ds : List D} {us ws : List V}, Paired (SIs K F ρ n) ws (ds.map .dat) → ds.map flatD = us.map some → ws = us ∧ ws.all flatV = true
  | [], [], _, .nil, _ => ⟨rfl, rfl⟩
  | _ :: _, _ :: _, _ :: _, .cons a r, e => by
    simp only [List.map_cons, List.cons.injEq] at e
    obtain ⟨h1, h2⟩ := flat_is a e.1
    obtain ⟨h3, h4⟩ := flats_is r e.2
    exact ⟨by rw [h1, h3], by rw [List.all_cons, h2, h4]; rfl⟩
  | [], _ :: _, _, _, e => by simp at e
  | _ :: _, [], _, _, e => by simp at e
theorem wr_inL {x y : SV} {neg : Bool} {d : D} {u : V} {ds : List D} {us : List V} (ex : x = .dat d) (eu : flatD d = some u) (ly : LV C y (ds.map .dat)) (es : ds.map flatD = us.map some) (q : k (.dat (.bool (if neg then !inV u us else inV u us))) C) : Wr B (rIn B.K neg) x y g S C k := fun σ vs H Q v w R kq => by
  subst ex
  obtain ⟨F, ρ, R1, hy⟩ := R.top
  obtain ⟨R2, hx⟩ := R1.pop
  obtain ⟨b, ws, rfl, hb, hp⟩ := R2.lv hy ly
  obtain ⟨rfl, h2⟩ := flat_is hx eu
  obtain ⟨rfl, h4⟩ := flats_is hp es
  exact ⟨b, ws, rfl, .inl (SqL.of hb), h2, h4, kq _ C _ H q (R.drop1.drop1.sc rfl)⟩
theorem wr_inT {x : SV} {neg : Bool} {d : D} {u : V} {ds : List D} {us : List V} (ex : x = .dat d) (eu : flatD d = some u) (es : ds.map flatD = us.map some) (q : k (.dat (.bool (if neg then !inV u us else inV u us))) C) : Wr B (rIn B.K neg) x (.dat (.tuple ds)) g S C k := fun σ vs H Q v w R kq => by
  subst ex
  obtain ⟨F, ρ, R1, hy⟩ := R.top
  obtain ⟨R2, hx⟩ := R1.pop
  obtain ⟨b, ws, rfl, hb, hp⟩ := R2.tv hy
  obtain ⟨rfl, h2⟩ := flat_is hx eu
  obtain ⟨rfl, h4⟩ := flats_is hp es
  exact ⟨b, ws, rfl, .inr hb, h2, h4, kq _ C _ H q (R.drop1.drop1.sc rfl)⟩
/-! ## == -/
mutual
theorem Is.dp {K : PySem.W.Frag} {F H : Hp} (e : Le F H) : ∀ {v : V} {d : D}, d.canLay0 = true → Is K F v d → Dp K H v d
  | _, _, _, .non => .non
  | _, _, _, .bl b => .bl b
  | _, _, _, .int i => .int i
  | _, _, _, .str x => .str x
  | _, _, c, .lst h r => .lst (SqL.of (e _ _ h)) (IsAll.dp e (by simpa [PyData.canLay0] using c) r)
  | _, _, c, .tup h r => .tup (e.sqt h) (IsAll.dp e (by simpa [PyData.canLay0] using c) r)
  | _, _, c, .dct h r => by simp [PyData.canLay0] at c
theorem IsAll.dp {K : PySem.W.Frag} {F H : Hp} (e : Le F H) : ∀ {v : List V} {d : List D}, PyData.canLayAll0 d = true → IsAll K F v d → DpAll K H v d
  | _, _, _, .nil => .nil
  | _, _, c, .cons h r => by
    simp only [PyData.canLayAll0, Bool.and_eq_true] at c
    exact .cons (Is.dp e c.1 h) (IsAll.dp e c.2 r)
end
/-- == of ints, of texts, of anything that has no dict -/
def rEqQ (K : PySem.W.Frag) : R2 := fun x y H Q => rEq x y H Q ∨ rEqD K x y H Q
def rNeQ (K : PySem.W.Frag) : R2 := fun x y H Q => rNe x y H Q ∨ rNeD K x y H Q
theorem op_eqQ {X : Cx} (hu : X.A.units + 64 < cLine) : OpR X (compareOp .Eq) (rEqQ X.K) := op_eq.or (op_eqD hu)
theorem op_neQ {X : Cx} (hu : X.A.units + 64 < cLine) : OpR X (compareOp .NotEq) (rNeQ X.K) := op_ne.or (op_neD hu)
theorem wr_eqI {i j : Int} (q : k (.dat (.bool (decide (i = j)))) C) : Wr B (rEqQ B.K) (.dat (.int i)) (.dat (.int j)) g S C k := fun σ vs H Q v w R kq => by
  obtain rfl := R.top_int
  obtain rfl := R.drop1.top_int
  refine .inl ⟨rfl, ?_⟩
  rw [dec_int, Bool.beq_eq_decide_eq]
  exact kq _ C _ H q (R.drop1.drop1.sc rfl)
theorem wr_neI {i j : Int} (q : k (.dat (.bool (!decide (i = j)))) C) : Wr B (rNeQ B.K) (.dat (.int i)) (.dat (.int j)) g S C k := fun σ vs H Q v w R kq => by
  obtain rfl := R.top_int
  obtain rfl := R.drop1.top_int
  refine .inl ⟨rfl, ?_⟩
  rw [dec_int, Bool.beq_eq_decide_eq]
  exact kq _ C _ H q (R.drop1.drop1.sc rfl)
theorem wr_eqS {i j : Str} (q : k (.dat (.bool (decide (i = j)))) C) : Wr B (rEqQ B.K) (.dat (.str i)) (.dat (.str j)) g S C k := fun σ vs H Q v w R kq => by
  obtain rfl := R.top_str
  obtain rfl := R.drop1.top_str
  refine .inl ⟨rfl, ?_⟩
  rw [dec_str, Bool.beq_eq_decide_eq]
  exact kq _ C _ H q (R.drop1.drop1.sc rfl)
theorem wr_neS {i j : Str} (q : k (.dat (.bool (!decide (i = j)))) C) : Wr B (rNeQ B.K) (.dat (.str i)) (.dat (.str j)) g S C k := fun σ vs H Q v w R kq => by
  obtain rfl := R.top_str
  obtain rfl := R.drop1.top_str
  refine .inl ⟨rfl, ?_⟩
  rw [dec_str, Bool.beq_eq_decide_eq]
  exact kq _ C _ H q (R.drop1.drop1.sc rfl)
theorem wr_eqB {i j : Bool} (q : k (.dat (.bool (decide (i = j)))) C) : Wr B (rEqQ B.K) (.dat (.bool i)) (.dat (.bool j)) g S C k := fun σ vs H Q v w R kq => by
  obtain rfl := R.top_bl
  obtain rfl := R.drop1.top_bl
  refine .inl ⟨rfl, ?_⟩
  rw [dec_bl, Bool.beq_eq_decide_eq]
  exact kq _ C _ H q (R.drop1.drop1.sc rfl)
theorem wr_eqD {d e : D} (sd : SeqAt.shaped d = true) (se : SeqAt.shaped e = true) (q : k (.dat (.bool (PyData.eqv d e))) C) : Wr B (rEqQ B.K) (.dat d) (.dat e) g S C k := fun σ vs H Q v w R kq => by
  obtain ⟨F, ρ, R1, hy⟩ := R.top
  obtain ⟨R2, hx⟩ := R1.pop
  have c1 : d.canLay0 = true := by unfold SeqAt.shaped at sd; rw [Bool.and_eq_true] at sd; exact sd.1
  have c2 : e.canLay0 = true := by unfold SeqAt.shaped at se; rw [Bool.and_eq_true] at se; exact se.1
  exact .inr ⟨d, e, Is.dp R2.le c1 hx, Is.dp R2.le c2 hy, sd, se, kq _ C _ H q (R.drop1.drop1.sc rfl)⟩
theorem wr_neD {d e : D} (sd : SeqAt.shaped d = true) (se : SeqAt.shaped e = true) (q : k (.dat (.bool (!PyData.eqv d e))) C) : Wr B (rNeQ B.K) (.dat d) (.dat e) g S C k := fun σ vs H Q v w R kq => by
  obtain ⟨F, ρ, R1, hy⟩ := R.top
  obtain ⟨R2, hx⟩ := R1.pop
  have c1 : d.canLay0 = true := by unfold SeqAt.shaped at sd; rw [Bool.and_eq_true] at sd; exact sd.1
  have c2 : e.canLay0 = true := by unfold SeqAt.shaped at se; rw [Bool.and_eq_true] at se; exact se.1
  exact .inr ⟨d, e, Is.dp R2.le c1 hx, Is.dp R2.le c2 hy, sd, se, kq _ C _ H q (R.drop1.drop1.sc rfl)⟩
/-- is None -/
def rIsNn : R2 := fun x y H Q => y = .non ∧ Q (.bl (decide (x = .non))) H
def rNotNn : R2 := fun x y H Q => y = .non ∧ Q (.bl (!decide (x = .non))) H
theorem op_isNn {X : Cx} : OpR X (compareOp .Is) rIsNn := op_isN
theorem op_notNn {X : Cx} : OpR X (compareOp .IsNot) rNotNn := op_notN
def isNoneD : D → Bool
  | .none => true
  | _ => false
theorem is_none {K : PySem.W.Frag} {F : Hp} {v : V} {d : D} (h : Is K F v d) : decide (v = .non) = isNoneD d := by
  cases h <;> first | rfl | exact decide_eq_false (by intro e; cases e)
theorem wr_isN {d : D} (q : k (.dat (.bool (isNoneD d))) C) : Wr B rIsNn (.dat d) (.dat .none) g S C k := fun σ vs H Q v w R kq => by
  obtain ⟨F, ρ, R1, hy⟩ := R.top
  obtain ⟨R2, hx⟩ := R1.pop
  have e : w = .non := Is.non_inv hy
  subst e
  refine ⟨rfl, ?_⟩
  rw [is_none hx]
  exact kq _ C _ H q (R.drop1.drop1.sc rfl)
theorem wr_notN {d : D} (q : k (.dat (.bool (!isNoneD d))) C) : Wr B rNotNn (.dat d) (.dat .none) g S C k := fun σ vs H Q v w R kq => by
  obtain ⟨F, ρ, R1, hy⟩ := R.top
  obtain ⟨R2, hx⟩ := R1.pop
  have e : w = .non := Is.non_inv hy
  subst e
  refine ⟨rfl, ?_⟩
  rw [is_none hx]
  exact kq _ C _ H q (R.drop1.drop1.sc rfl)
end
end Sy

set_option Elab.async false
set_option linter.all false
set_option maxRecDepth 100000
set_option maxHeartbeats 400000
namespace Sy
open PySem L2
/-! ## the walk's rules, in short -/
/-- a def that may be called -/
def Cl (P : Program) (w : World) (K : PySem.W.Frag) (mg : Str → Option Value) (base : Heap) (k : Nat) (f : Addr) (ps : List Str) (sp : Sp) : Prop :=
  ∃ fd, FnOk P w K mg base (L2.CX P w) k f fd ps sp ∧ Binds K fd ps [] ∧ PySem.W.keepIn K (.ref f) = true
section
variable {X : Cx} {k : Nat} {f CC : Addr} {ps : List Str} {sp : Sp} {E : XK} {x m : Str} {p pos apos : Pos} {e o : Expr} {es : List Expr} {ta : TE} {t : TA}
theorem pe_callC (h : Cl X.prog X.w X.K X.mg X.base k f ps sp) (hr : Room k X.A) (hg : Gl X x) (hm : X.mg x = some (.ref f)) (hx : Passes (L2.CX X.prog X.w) X E)
    (ha : PA X (e :: es) t) (hdb : (x == ("__debug__" : Str)) = false := by decide) (he : starEach (e :: es) X.env = (false, eval e X.env) :: starEach es X.env := by rfl) (hpl : (backTo pos (starEach es X.env)).any (·.1) = false := by rfl) :
    PE X (.Call (.Name x p) (e :: es) [] pos) (tCall sp [] E t) := by
  obtain ⟨fd, F, b, kp⟩ := h
  exact pe_call F hr hg hm kp b .nil hx ha hdb he hpl
theorem pe_call0C (h : Cl X.prog X.w X.K X.mg X.base k f ps sp) (hr : Room k X.A) (hg : Gl X x) (hm : X.mg x = some (.ref f)) (hx : Passes (L2.CX X.prog X.w) X E)
    (hdb : (x == ("__debug__" : Str)) = false := by decide) :
    PE X (.Call (.Name x p) [] [] pos) (tCall sp [] E tNil) := by
  obtain ⟨fd, F, b, kp⟩ := h
  exact pe_call0 F hr hg hm kp b .nil hx hdb
/-- a def lets its callees' errors out -/
theorem passE {W : WX} (tk : Takes X W) (hW : ∀ cls d σ H, E cls d H → W cls d σ H) : Passes (L2.CX X.prog X.w) X E := passes_call tk hW
/-- within a try's body -/
def XA (n : Nat) (W : WX) : XK := fun cls d H => ∀ σ : St, σ.length = n → W cls d σ H
theorem passT {W : WX} (tk : Takes X W) : Passes (L2.CX X.prog X.w) X (XA X.N.length W) := fun pins σ H s e s' I c => tk e s' (XE.of_call I (fun cls d H' h => h σ I.len) c)
/-- an int of the module -/
theorem pe_gi {i : Int} (hg : Gl X x) (h : ∃ t, X.mg x = some (.int i t)) (hd : (x == ("__debug__" : Str)) = false := by decide) : PE X (.Name x pos) (tC (.int i)) := by
  obtain ⟨t, h⟩ := h
  exact pe_glob hg h ⟨_, rfl⟩ hd
theorem pe_gs {i : Str} (hg : Gl X x) (h : ∃ t, X.mg x = some (.str i t)) (hd : (x == ("__debug__" : Str)) = false := by decide) : PE X (.Name x pos) (tC (.str i)) := by
  obtain ⟨t, h⟩ := h
  exact pe_glob hg h ⟨_, rfl⟩ hd
theorem pe_gr {a : Addr} (hg : Gl X x) (h : X.mg x = some (.ref a)) (hd : (x == ("__debug__" : Str)) = false := by decide) : PE X (.Name x pos) (tC (.ref a)) := pe_glob hg h rfl hd
/-! operators -/
def rPlus (K : PySem.W.Frag) : R2 := fun x y H Q => (rI0 fun i j => .int (i + j)) x y H Q ∨ (∃ i j, x = .str i ∧ y = .str j ∧ i.length + j.length ≤ sizeLine ∧ Q (.str (i ++ j)) H) ∨ rCat x y H Q ∨ rCatT K x y H Q
theorem op_plus : OpR X (binaryOp .Add) (rPlus X.K) := op_add.or (op_add_str.or (op_cat.or op_catT))
def rTimes : R2 := fun x y H Q => (rI CMul fun i j => .int (i * j)) x y H Q ∨ rRep x y H Q
theorem op_times : OpR X (binaryOp .Mult) rTimes := op_mul.or op_rep
abbrev rSb : R2 := rI0 fun i j => .int (i - j)
abbrev rDv : R2 := rI CDiv fun i j => .int (i / j)
abbrev rMd : R2 := rI (fun _ j => 0 < j) fun i j => .int (i % j)
abbrev rPw : R2 := rI CPow fun i j => .int (i ^ j.toNat)
abbrev rLt : R2 := rI0 fun i j => .bl (decide (i < j))
abbrev rLe : R2 := rI0 fun i j => .bl (decide (i ≤ j))
abbrev rGt : R2 := rI0 fun i j => .bl (decide (j < i))
abbrev rGe : R2 := rI0 fun i j => .bl (decide (j ≤ i))
def rNg : V → Hp → VK → Prop := rU fun i => .int (-i)
theorem un_ng : UnR X (unaryOp .USub) rNg := un_neg
def rSlQ (K : PySem.W.Frag) : V → Option Int → Option Int → Hp → VK → Prop := fun x lo hi H Q => rSlL K x lo hi H Q ∨ (rSlT K x lo hi H Q ∨ rSlS x lo hi H Q)
theorem sl_q : SlR X (rSlQ X.K) := sl_list.or (sl_tup.or sl_str)
end
section
variable {B : Bs} {g : Gs} {S : List SV} {C : Cs} {k : SV → Cs → Prop} {kb : Bool → Cs → Prop} {ka : List SV → Cs → Prop} {te ta tb tc tl : TE} {t' : TA} {tt tu : TT} {kk : Ks} {tbody : TS}
theorem wr_plus {i j : Int} (q : k (.dat (.int (i + j))) C) : Wr B (rPlus B.K) (.dat (.int i)) (.dat (.int j)) g S C k := fun σ vs H Q v w R kq => .inl (wr_ii q σ vs H Q v w R kq)
theorem wr_plusS {i j : Str} (hl : i.length + j.length ≤ sizeLine) (q : k (.dat (.str (i ++ j))) C) : Wr B (rPlus B.K) (.dat (.str i)) (.dat (.str j)) g S C k := fun σ vs H Q v w R kq => .inr (.inl (we_op_str hl q σ vs H Q v w R kq))
theorem wr_plusL {x y : SV} {xs ys : List D} (lx : LV C x (xs.map .dat)) (ly : LV C y (ys.map .dat)) (hl : xs.length + ys.length ≤ sizeLine) (q : k (.dat (.list (xs ++ ys))) C) : Wr B (rPlus B.K) x y g S C k := fun σ vs H Q v w R kq => .inr (.inr (.inl (wr_cat lx ly hl q σ vs H Q v w R kq)))
theorem wr_times {i j : Int} (c : CMul i j) (q : k (.dat (.int (i * j))) C) : Wr B rTimes (.dat (.int i)) (.dat (.int j)) g S C k := fun σ vs H Q v w R kq => .inl (wr_iC c q σ vs H Q v w R kq)
theorem wr_timesL {x : SV} {xs : List D} {n : Int} (lx : LV C x (xs.map .dat)) (h0 : -(2 ^ 63) ≤ n) (h1 : n < 2 ^ 63) (hl : xs.length * n.toNat ≤ sizeLine) (q : k (.dat (.list (List.replicate n.toNat xs).flatten)) C) : Wr B rTimes x (.dat (.int n)) g S C k := fun σ vs H Q v w R kq => .inr (wr_rep lx h0 h1 hl q σ vs H Q v w R kq)
theorem wl_q {x : SV} {ds : List D} {lo hi : Option Int} (l : LV C x (ds.map .dat)) (q : k (.dat (.list (cutL ds lo hi))) C) : Wl B (rSlQ B.K) x lo hi g S C k := fun σ vs H Q v R kq => .inl (wl_list l q σ vs H Q v R kq)
theorem we_ng {ta : TE} (h : We B ta g S C fun x C1 => ∃ i, x = .dat (.int i) ∧ k (.dat (.int (-i))) C1) : We B (tUn rNg ta) g S C k := we_un h
theorem cmul_r {i j : Int} (h0 : -(2 ^ 64) < j) (h1 : j < 2 ^ 64) : CMul i j := .inr ⟨h0, h1⟩
theorem cmul_l {i j : Int} (h0 : -(2 ^ 64) < i) (h1 : i < 2 ^ 64) : CMul i j := .inl ⟨h0, h1⟩
/-- a tuple of the module -/
theorem we_kt {a : Addr} {ws : List V} {ds : List D} (h : ∀ H, SqT B.K H a ws) (hs : ws.map scS = ds.map some) (q : k (.dat (.tuple ds)) C) : We B (tC (.ref a)) g S C k := fun σ vs H Q ⟨F, ρ, R⟩ kq => by
  refine kq _ C _ H q ⟨F, ρ, R.push (.tup (h F) ?_)⟩
  clear q h
  induction ws generalizing ds with
  | nil => cases ds with
    | nil => exact .nil
    | cons d r => cases hs
  | cons w r ih => cases ds with
    | nil => cases hs
    | cons d t =>
      simp only [List.map_cons, List.cons.injEq] at hs
      exact .cons (scS_is hs.1) (ih hs.2)
end
end Sy

set_option Elab.async false
set_option linter.all false
set_option maxRecDepth 100000
set_option maxHeartbeats 400000
namespace Sy
open PySem L2
section
variable {B : Bs} {g : Gs} {S : List SV} {C : Cs} {k : SV → Cs → Prop} {kb : Bool → Cs → Prop} {ka : List SV → Cs → Prop} {te ta tb tc tl : TE} {t' : TA} {tt tu : TT} {kk : Ks} {tbody : TS}
theorem wr_sb {i j : Int} (q : k (.dat (.int (i - j))) C) : Wr B rSb (.dat (.int i)) (.dat (.int j)) g S C k := wr_ii (f := fun i j => i - j) q
theorem wr_dv {i j : Int} (h : CDiv i j) (q : k (.dat (.int (i / j))) C) : Wr B rDv (.dat (.int i)) (.dat (.int j)) g S C k := wr_iC (f := fun i j => i / j) h q
theorem wr_md {i j : Int} (h : 0 < j) (q : k (.dat (.int (i % j))) C) : Wr B rMd (.dat (.int i)) (.dat (.int j)) g S C k := wr_iC (P := fun _ j => 0 < j) (f := fun i j => i % j) h q
theorem wr_pw {i j : Int} (h : CPow i j) (q : k (.dat (.int (i ^ j.toNat))) C) : Wr B rPw (.dat (.int i)) (.dat (.int j)) g S C k := wr_iC (f := fun i j => i ^ j.toNat) h q
theorem wr_lt {i j : Int} (q : k (.dat (.bool (decide (i < j)))) C) : Wr B rLt (.dat (.int i)) (.dat (.int j)) g S C k := wr_ib (f := fun i j => decide (i < j)) q
theorem wr_le {i j : Int} (q : k (.dat (.bool (decide (i ≤ j)))) C) : Wr B rLe (.dat (.int i)) (.dat (.int j)) g S C k := wr_ib (f := fun i j => decide (i ≤ j)) q
theorem wr_gt {i j : Int} (q : k (.dat (.bool (decide (j < i)))) C) : Wr B rGt (.dat (.int i)) (.dat (.int j)) g S C k := wr_ib (f := fun i j => decide (j < i)) q
theorem wr_ge {i j : Int} (q : k (.dat (.bool (decide (j ≤ i)))) C) : Wr B rGe (.dat (.int i)) (.dat (.int j)) g S C k := wr_ib (f := fun i j => decide (j ≤ i)) q
/-- 0 <= x < n and its kin -/
theorem we_chLL (h : We B ta g S C fun x C1 => We B tb g (x :: S) C1 fun y C2 => ∃ i j l, x = .dat (.int i) ∧ y = .dat (.int j) ∧ (We B tc g (.dat (.int j) :: S) C2 fun z C3 => C3 = C2 ∧ z = .dat (.int l)) ∧ k (.dat (.bool (decide (i ≤ j) && decide (j < l)))) C2) :
    We B (tChain rLe rLt ta tb tc) g S C k := we_chain (p := fun i j => decide (i ≤ j)) (p' := fun i j => decide (i < j)) (h.imp fun s C' h => h.imp fun s' C'' ⟨i, j, l, a, b, c, d⟩ => ⟨i, j, l, a, b, fun _ => c, d⟩)
theorem we_chLE (h : We B ta g S C fun x C1 => We B tb g (x :: S) C1 fun y C2 => ∃ i j l, x = .dat (.int i) ∧ y = .dat (.int j) ∧ (We B tc g (.dat (.int j) :: S) C2 fun z C3 => C3 = C2 ∧ z = .dat (.int l)) ∧ k (.dat (.bool (decide (i ≤ j) && decide (j ≤ l)))) C2) :
    We B (tChain rLe rLe ta tb tc) g S C k := we_chain (p := fun i j => decide (i ≤ j)) (p' := fun i j => decide (i ≤ j)) (h.imp fun s C' h => h.imp fun s' C'' ⟨i, j, l, a, b, c, d⟩ => ⟨i, j, l, a, b, fun _ => c, d⟩)
theorem atI_map {α β : Type} (f : α → β) {xs : List α} {i : Int} {x : α} (h : atI xs i = some x) : atI (xs.map f) i = some (f x) := by
  unfold atI at h ⊢
  rw [List.length_map]
  cases q : ixN xs.length i with
  | none => rw [q] at h; cases h
  | some j =>
    rw [q] at h
    have h' : xs[j]? = some x := h
    show (xs.map f)[j]? = _
    rw [List.getElem?_map, h']
    rfl
theorem atI_getD {α : Type} {xs : List α} {i : Int} (d : α) (h0 : 0 ≤ i) (h1 : i < xs.length) : atI xs i = some (xs.getD i.toNat d) := by
  rw [at_nn h0 h1, List.getD_eq_getElem?_getD, List.getElem?_eq_getElem (by omega)]
  rfl
/-- a cell of our own is frozen; its names stay -/
theorem Rl.frzC {σ : St} {vs : List V} {H F : Hp} {ρ : Nat → Addr} {i : Nat} {c : Cell} {d : D} (R : Rl B g S C σ vs H F ρ) (hi : C[i]? = some (some c)) (hf : Fzn c d) (hn : B.n0 ≤ i) :
    ∃ F', Rl B g S (C.set i none) σ vs H F' ρ ∧ Is B.K F' (.ref (ρ i)) d := by
  obtain ⟨n1, ⟨u, e1, h3⟩, h4⟩ := R.cell i c hi
  have L : Le F (upd F (ρ i) u) := fun b u e => by rw [upd_ne (ne_of_none e n1)]; exact e
  have lt : i < C.length := (List.getElem?_eq_some_iff.mp hi).1
  have old : ∀ {j : Nat} {d : Cell}, (C.set i none)[j]? = some (some d) → j ≠ i ∧ C[j]? = some (some d) := fun {j d} e => by
    by_cases h : i = j
    · subst h
      rw [List.getElem?_set_self lt] at e
      cases e
    · rw [List.getElem?_set_ne h] at e
      exact ⟨Ne.symm h, e⟩
  have hl : (C.set i none).length = C.length := by simp
  refine ⟨_, ⟨fun b u e => ?_, R.sub.tr L, R.keep, R.there, fun b u e => ?_, R.rho, by rw [hl]; exact R.nc, fun a j c d p q => R.inj a j c d (old p).2 (old q).2, fun j c e => ?_, R.len, fun j s e => ?_, ?_⟩, hf _ _ ρ _ _ _ upd_same (h3.mono L (Nat.le_refl _) fun _ _ => rfl)⟩
  · by_cases hb : b = ρ i
    · subst hb; rw [upd_same] at e; cases e; exact e1
    · rw [upd_ne hb] at e; exact R.le b u e
  · by_cases hb : b = ρ i
    · rcases h4 with h4 | h4
      · omega
      · rw [hb]; exact .inr (.inl h4)
    · rw [upd_ne hb] at e; exact R.frz b u e
  · obtain ⟨hj, e⟩ := old e
    obtain ⟨q1, ⟨o, q2, q3⟩, q4⟩ := R.cell j _ e
    have ne : ρ j ≠ ρ i := fun z => hj (R.inj j i _ _ e hi z)
    rw [hl]
    exact ⟨by rw [upd_ne ne]; exact q1, ⟨o, q2, q3.mono L (Nat.le_refl _) fun _ _ => rfl⟩, q4⟩
  · obtain ⟨v, q, r⟩ := R.slot j s e
    rw [hl]
    exact ⟨v, q, r.mono L (Nat.le_refl _) fun _ _ => rfl⟩
  · rw [hl]
    exact Paired.mapP R.stk fun _ _ q => q.mono L (Nat.le_refl _) fun _ _ => rfl
/-- a cell at the top frozen, as what is returned -/
theorem rx_frz {P : SV → Cs → Prop} {c : Cell} {d : D} {i : Nat} (hi : C[i]? = some (some c)) (hf : Fzn c d) (hn : B.n0 ≤ i) (h : P (.dat d) (C.set i none)) : Rx B P (.ref i) C := fun v H R => by
  obtain ⟨F, ρ, R, hv⟩ := R.top
  obtain ⟨F', R', hd⟩ := R.frzC hi hf hn
  exact ⟨_, _, h, F', ρ, R'.push (by rw [hv.2]; exact hd)⟩
/-- a cell named by a slot frozen there -/
theorem nx_frz {P : Gs → Cs → Prop} {c : Cell} {d : D} {i j : Nat} (hj : g[j]? = some (some (.ref i))) (hi : C[i]? = some (some c)) (hf : Fzn c d) (hn : B.n0 ≤ i) (h : Nx B S P (g.set j (some (.dat d))) (C.set i none)) : Nx B S P g C := fun σ vs H R => by
  obtain ⟨F, ρ, R⟩ := R
  obtain ⟨v, ev, hv⟩ := R.slot j _ hj
  obtain ⟨F', R', hd⟩ := R.frzC hi hf hn
  have e : σ.set j (some v) = σ := by
    refine List.ext_getElem? fun m => ?_
    by_cases hm : j = m
    · subst hm
      rw [List.getElem?_set_self (List.getElem?_eq_some_iff.mp ev).1, ev]
    · rw [List.getElem?_set_ne hm]
  have R2 := (R'.push (s := .dat d) (v := v) (by rw [hv.2]; exact hd)).set (i := j)
  rw [e] at R2
  exact h σ vs H ⟨F', ρ, R2⟩
/-- .. ahead of a statement -/
theorem ws_frz {t : TS} {c : Cell} {d : D} {i j : Nat} (hj : g[j]? = some (some (.ref i))) (hi : C[i]? = some (some c)) (hf : Fzn c d) (hn : B.n0 ≤ i) (h : Ws B t (g.set j (some (.dat d))) S (C.set i none) kk) : Ws B t g S C kk := fun σ vs H D R dk => by
  obtain ⟨F, ρ, R⟩ := R
  obtain ⟨v, ev, hv⟩ := R.slot j _ hj
  obtain ⟨F', R', hd⟩ := R.frzC hi hf hn
  have e : σ.set j (some v) = σ := by
    refine List.ext_getElem? fun m => ?_
    by_cases hm : j = m
    · subst hm
      rw [List.getElem?_set_self (List.getElem?_eq_some_iff.mp ev).1, ev]
    · rw [List.getElem?_set_ne hm]
  have R2 := (R'.push (s := .dat d) (v := v) (by rw [hv.2]; exact hd)).set (i := j)
  rw [e] at R2
  exact h σ vs H D ⟨F', ρ, R2⟩ dk
/-- dead cells at the end are forgotten -/
theorem fzn_l {xs : List SV} (ds : List D) (e : xs = ds.map .dat) : Fzn (.lst xs) (.list ds) := by subst e; exact fzn_lst ds
/-- x.append(e), x a name -/
theorem ws_app {i j : Nat} (hj : g[j]? = some (some (.ref i))) (h0 : ∃ xs, C[i]? = some (some (.lst xs))) (h : We B te g (.ref i :: S) C fun y C1 => ∃ xs, C1[i]? = some (some (.lst xs)) ∧ xs.length < sizeLine ∧ kk.nx g (C1.set i (some (.lst (xs ++ [y]))))) :
    Ws B (tDrop (tBM B.K "list" rAppend (tVar j) (tCons te tNil))) g S C kk := ws_drop (we_app (we_var hj (let ⟨xs0, h0⟩ := h0; ⟨i, xs0, rfl, h0, wa_cons (h.imp fun y C1 ⟨xs, a, b, c⟩ => wa_nil ⟨y, xs, rfl, a, b, c⟩)⟩)))
end
end Sy

set_option Elab.async false
set_option linter.all false
set_option maxRecDepth 100000
set_option maxHeartbeats 400000
namespace Sy
open PySem L2
/-! ## slices written (reading) -/
section
open PyProof.Rows PySem.Spec
def gSlc (to : TE) (tl th : TO) : TG := fun v σ H Q => to σ H fun o H1 => tl σ H1 fun x H2 => th σ H2 fun y H3 => ∃ l b a c xs ys, o = .ref l ∧ x = some a ∧ y = some c ∧ v = .ref b ∧ H3 l = some (.lst xs) ∧ H3 b = some (.lst ys) ∧ l ≠ b ∧ 0 ≤ a ∧ a ≤ c ∧ c ≤ xs.length ∧ xs.length + ys.length ≤ sizeLine ∧ Q σ (upd H3 l (.lst (xs.take a.toNat ++ ys ++ xs.drop c.toNat)))
theorem pg_slc {X : Cx} {o : Expr} {lo hi : Option Expr} {to : TE} {tl th : TO} {pos p2 : Pos} (ho : PE X o to) (hl : PO X lo tl) (hu : PO X hi th)
    (ha : ∀ v, assign (.Subscript o (.Slice lo hi none p2) pos) X.env v = (do
      let ov ← holding [v] (eval o X.env)
      let iv ← holding [v, ov] (eval (.Slice lo hi none p2) X.env)
      standAt pos
      holding [v, ov, iv] (setItem ov iv v)
      release [iv, v, ov] []) := by intro _; rfl) : PG X (.Subscript o (.Slice lo hi none p2) pos) (gSlc to tl th) := by
  refine ⟨fun pins s σ H v u Q I r h => ?_⟩
  rw [ha]
  refine wpAny_bind (wpAny_holding (thn (ho.run pins s σ H _ I h) fun ov s1 ⟨x, H1, I1, r1, q1⟩ => ?_))
  refine wpAny_bind (wpAny_holding ?_)
  refine wpAny_Slice (thn (hl.run pins s1 σ H1 _ I1 q1) fun vl s2 ⟨l, H2, I2, pl, q2⟩ => thn (hu.run pins s2 σ H2 _ I2 q2) fun vu s3 ⟨w, H3, I3, pu, q3⟩ => ?_)
  rw [evalPart_none]
  refine wpAny_pure ?_
  obtain ⟨a, b, i, j, xs, ys, rfl, rfl, rfl, rfl, ha, hb, hne, h0, hij, hj, hz, q⟩ := q3
  have I4 : Inv X pins σ H3 { s3 with heap := s3.heap.push { cls := .type "slice", data := .fields #[vl, vu, .none] } } := I3.kept (t' := s3.toks) fun b ob q => Heap.get?_push_of_some _ q
  refine wpAny_bind (wpAny_standAt (wpAny_bind (wpAny_holding ?_)))
  obtain rfl : ov = Value.ref a := r1
  obtain rfl : u = Value.ref b := r
  cases pl with
  | int i t =>
    cases pu with
    | int j t' =>
      exact set_slice I4 ha hb hne (Heap.IsSliceOf.new _ _ _ _) ⟨t, rfl⟩ ⟨t', rfl⟩ h0 hij hj hz fun s' I5 => wpAny_release ⟨σ, _, I5, q⟩
end
section
variable {B : Bs} {g : Gs} {S : List SV} {C : Cs} {k : SV → Cs → Prop} {kb : Bool → Cs → Prop} {ka : List SV → Cs → Prop} {te ta tb tc tl td tv ty : TE} {t' : TA} {tt tu : TT} {kk : Ks} {tbody : TS}
variable {σ : St} {vs : List V} {H : Hp} {F : Hp} {ρ : Nat → Addr}
theorem wg_slc {tl th : TO} {x : SV} {k : Gs → Cs → Prop} (h : We B ta g (x :: S) C fun o C1 => Wo B tl g (o :: x :: S) C1 fun lo C2 => Wo B th g (o :: x :: S) C2 fun hi C3 => ∃ i xs a c, ∃ ds : List D, x = .dat (.list ds) ∧ o = .ref i ∧ lo = some a ∧ hi = some c ∧ C3[i]? = some (some (.lst xs)) ∧ 0 ≤ a ∧ a ≤ c ∧ c ≤ xs.length ∧ xs.length + ds.length ≤ sizeLine ∧ k g (C3.set i (some (.lst (xs.take a.toNat ++ ds.map .dat ++ xs.drop c.toNat))))) : Wg B (gSlc ta tl th) x g S C k := fun σ vs v H Q R kq =>
  h σ (v :: vs) H _ R fun o C1 w H1 h1 R1 => h1 σ (w :: v :: vs) H1 _ R1 fun lo C2 H2 h2 R2 => h2 σ (w :: v :: vs) H2 _ R2 fun hi C3 H3 ⟨i, xs, a, c, ds, ex, eo, el, eh, ei, b1, b2, b3, b4, q⟩ R3 => by
    subst ex eo el eh
    obtain ⟨F, ρ, R4, ho⟩ := R3.top
    obtain ⟨R5, hx⟩ := R4.pop
    obtain ⟨n1, ⟨ob, e2, q3⟩, _⟩ := R5.cell _ _ ei
    cases q3 with
    | @lst ws _ q3 =>
      cases hx with
      | @lst b ys _ e3 r3 =>
        have hl := Paired.length q3
        have hl2 := IsAll.length r3
        refine ⟨ρ i, b, a, c, ws, ys, ho.2, rfl, rfl, rfl, e2, R5.le _ _ e3, fun z => ?_, b1, b2, by rw [hl]; exact b3, by rw [hl, hl2]; exact b4, kq _ _ _ _ q ⟨F, ρ, R5.wr ei (.lst ?_)⟩⟩
        · rw [z, e3] at n1; cases n1
        · exact paired_app (paired_app (paired_take _ q3) (sis_all r3)) (paired_drop _ q3)
/-! ## dicts, by their pairs -/
def valA {α : Type} (kvs : List (Key × α)) (k : Key) : Option α := (kvs.find? fun kv => decide (kv.1 = k)).map (·.2)
def putA {α : Type} (kvs : List (Key × α)) (k : Key) (v : α) : List (Key × α) :=
  if (kvs.any fun kv => decide (kv.1 = k)) = true then kvs.map (fun kv => if kv.1 = k then (kv.1, v) else kv) else kvs ++ [(k, v)]
theorem valA_pos {α : Type} {p : Key × α} {r : List (Key × α)} {k : Key} (e : p.1 = k) : valA (p :: r) k = some p.2 := by simp [valA, List.find?_cons, e]
theorem valA_neg {α : Type} {p : Key × α} {r : List (Key × α)} {k : Key} (e : ¬ p.1 = k) : valA (p :: r) k = valA r k := by simp [valA, List.find?_cons, e]
theorem valA_any {α : Type} (k : Key) : ∀ kvs : List (Key × α), (kvs.any fun kv => decide (kv.1 = k)) = (valA kvs k).isSome
  | [] => rfl
  | p :: r => by
    by_cases e : p.1 = k
    · rw [valA_pos e]; simp [e]
    · rw [valA_neg e, List.any_cons, valA_any k r]; simp [e]
theorem valA_map {α : Type} (k j : Key) (y : α) : ∀ kvs : List (Key × α), valA (kvs.map fun kv => if kv.1 = k then (kv.1, y) else kv) j = (valA kvs j).map fun x => if j = k then y else x
  | [] => rfl
  | p :: r => by
    rw [List.map_cons]
    by_cases e : p.1 = j
    · rw [valA_pos e]
      by_cases e2 : p.1 = k
      · rw [if_pos e2, valA_pos (by exact e), Option.map_some, if_pos (e ▸ e2)]
      · rw [if_neg e2, valA_pos (by exact e), Option.map_some, if_neg (e ▸ e2)]
    · rw [valA_neg e]
      by_cases e2 : p.1 = k
      · rw [if_pos e2, valA_neg (by exact e)]; exact valA_map k j y r
      · rw [if_neg e2, valA_neg (by exact e)]; exact valA_map k j y r
theorem valA_snoc {α : Type} (k j : Key) (y : α) : ∀ kvs : List (Key × α), valA kvs k = none → valA (kvs ++ [(k, y)]) j = if j = k then some y else valA kvs j
  | [], _ => by
    by_cases e : k = j
    · subst e; simp [valA]
    · rw [if_neg (Ne.symm e)]; simp [valA, e]
  | p :: r, h => by
    by_cases e : p.1 = k
    · rw [valA_pos e] at h; cases h
    · rw [valA_neg e] at h
      rw [List.cons_append]
      by_cases e2 : p.1 = j
      · rw [valA_pos e2, valA_pos e2, if_neg (fun z => e (e2.trans z))]
      · rw [valA_neg e2, valA_neg e2]; exact valA_snoc k j y r h
theorem valA_put {α : Type} (kvs : List (Key × α)) (k j : Key) (y : α) : valA (putA kvs k y) j = if j = k then some y else valA kvs j := by
  unfold putA
  rw [valA_any]
  cases e : valA kvs k with
  | none => exact valA_snoc k j y kvs e
  | some v =>
    rw [if_pos (by rfl), valA_map]
    by_cases e2 : j = k
    · rw [if_pos e2, e2, e]; simp
    · rw [if_neg e2]; simp [e2]
theorem putA_new {α : Type} {kvs : List (Key × α)} {k : Key} (v : α) (h : valA kvs k = none) : putA kvs k v = kvs ++ [(k, v)] := by
  unfold putA
  rw [valA_any, h]; rfl
theorem putA_len {α : Type} (c : List (Key × α)) (k : Key) (x : α) : (putA c k x).length ≤ c.length + 1 := by
  unfold putA
  split <;> simp
theorem valA_mapv {α β : Type} (f : α → β) (k : Key) : ∀ kvs : List (Key × α), valA (kvs.map fun q => (q.1, f q.2)) k = (valA kvs k).map f
  | [] => rfl
  | p :: r => by
    rw [List.map_cons]
    by_cases e : p.1 = k
    · rw [valA_pos e, valA_pos (by exact e)]; rfl
    · rw [valA_neg e, valA_neg (by exact e)]; exact valA_mapv f k r
theorem putA_mapv {α β : Type} (f : α → β) (k : Key) (v : α) (kvs : List (Key × α)) : (putA kvs k v).map (fun q => (q.1, f q.2)) = putA (kvs.map fun q => (q.1, f q.2)) k (f v) := by
  unfold putA
  have e1 : ((kvs.map fun q => (q.1, f q.2)).any fun kv => decide (kv.1 = k)) = kvs.any fun kv => decide (kv.1 = k) := by rw [List.any_map]; rfl
  rw [e1]
  by_cases h : (kvs.any fun kv => decide (kv.1 = k)) = true
  · rw [if_pos h, if_pos h, List.map_map, List.map_map]
    refine List.map_congr_left fun q _ => ?_
    by_cases e : q.1 = k
    · simp [e]
    · simp [e]
  · rw [if_neg h, if_neg h, List.map_append]; rfl
theorem pair_val {P : V → SV → Prop} (k : Key) : ∀ {ws : List (Key × V)} {ds : List (Key × SV)}, Paired (fun p q => p.1 = q.1 ∧ P p.2 q.2) ws ds → (valV ws k = none ∧ valA ds k = none) ∨ ∃ v s, valV ws k = some v ∧ valA ds k = some s ∧ P v s
  | _, _, .nil => .inl ⟨rfl, rfl⟩
  | (k', v) :: ws, (k2, s) :: ds, .cons a r => by
    obtain ⟨a1, a2⟩ := a
    have e : k' = k2 := a1
    subst e
    by_cases e : k' = k
    · exact .inr ⟨v, s, valV_pos e, valA_pos e, a2⟩
    · rw [valV_neg (by exact e), valA_neg (by exact e)]
      exact pair_val k r
theorem pair_any {P : V → SV → Prop} (k : Key) : ∀ {ws : List (Key × V)} {ds : List (Key × SV)}, Paired (fun p q => p.1 = q.1 ∧ P p.2 q.2) ws ds → (ws.any fun kv => decide (kv.1 = k)) = ds.any fun kv => decide (kv.1 = k)
  | _, _, .nil => rfl
  | (k', v) :: ws, (k2, s) :: ds, .cons a r => by
    have e : k' = k2 := a.1
    subst e
    rw [List.any_cons, List.any_cons, pair_any k r]
theorem pair_set {P : V → SV → Prop} (k : Key) {v : V} {s : SV} (hv : P v s) : ∀ {ws : List (Key × V)} {ds : List (Key × SV)}, Paired (fun p q => p.1 = q.1 ∧ P p.2 q.2) ws ds → Paired (fun p q => p.1 = q.1 ∧ P p.2 q.2) (ws.map fun kv => if kv.1 = k then (kv.1, v) else kv) (ds.map fun kv => if kv.1 = k then (kv.1, s) else kv)
  | _, _, .nil => .nil
  | x :: _, y :: _, .cons a r => by
    obtain ⟨a1, a2⟩ := a
    refine .cons ?_ (pair_set k hv r)
    show (if x.1 = k then (x.1, v) else x).1 = (if y.1 = k then (y.1, s) else y).1 ∧ P (if x.1 = k then (x.1, v) else x).2 (if y.1 = k then (y.1, s) else y).2
    by_cases e : y.1 = k
    · rw [if_pos e, if_pos (a1.trans e)]; exact ⟨a1, hv⟩
    · rw [if_neg e, if_neg (fun z => e (a1.symm.trans z))]; exact ⟨a1, a2⟩
theorem pair_put {P : V → SV → Prop} (k : Key) {v : V} {s : SV} (hv : P v s) {ws : List (Key × V)} {ds : List (Key × SV)} (h : Paired (fun p q => p.1 = q.1 ∧ P p.2 q.2) ws ds) : Paired (fun p q => p.1 = q.1 ∧ P p.2 q.2) (putK ws k v) (putA ds k s) := by
  unfold putK putA
  rw [pair_any k h]
  split
  · exact pair_set k hv h
  · exact paired_app h (.cons ⟨rfl, hv⟩ .nil)
theorem kv_pair {K : PySem.W.Frag} {F : Hp} {ρ : Nat → Addr} {n : Nat} : ∀ {ds : List (Key × D)} {ws : List (Key × V)}, IsKv K F ws (ds.map fun q => (keyD q.1, q.2)) → Paired (fun p q => p.1 = q.1 ∧ SIs K F ρ n p.2 q.2) ws (ds.map fun q => (q.1, SV.dat q.2))
  | [], _, h => by
    generalize e : (List.map (fun q : Key × D => (keyD q.1, q.2)) []) = l at h
    cases h with
    | nil => exact .nil
    | cons a r => cases e
  | (k, d) :: ds, _, h => by
    generalize e : (List.map (fun q : Key × D => (keyD q.1, q.2)) ((k, d) :: ds)) = l at h
    cases h with
    | nil => cases e
    | cons a r =>
      simp only [List.map_cons, List.cons.injEq, Prod.mk.injEq] at e
      obtain ⟨⟨e1, e2⟩, e3⟩ := e
      subst e2 e3
      exact .cons ⟨(keyD_inj e1).symm, a⟩ (kv_pair r)
/-- what a dict has at a key, or not -/
inductive DA (C : Cs) : SV → Key → Option SV → Prop
  | dat {kvs : List (Key × D)} {k : Key} {o : Option D} : valA kvs k = o → DA C (.dat (.dict (kvs.map fun q => (keyD q.1, q.2)))) k (o.map .dat)
  | cell {i : Nat} {ks : List (Key × SV)} {k : Key} {o : Option SV} : C[i]? = some (some (.dct ks)) → valA ks k = o → DA C (.ref i) k o
theorem Rl.da {v : V} {s : SV} {key : Key} {o : Option SV} (R : Rl B g S C σ vs H F ρ) (h : SIs B.K F ρ C.length v s) (d : DA C s key o) : ∃ a r, v = .ref a ∧ DGet H a (kV key) r ∧ ((r = none ∧ o = none) ∨ ∃ u t, r = some u ∧ o = some t ∧ SIs B.K F ρ C.length u t) := by
  cases d with
  | @dat kvs _ o hv =>
    generalize e : (PyData.dict (kvs.map fun q => (keyD q.1, q.2))) = dd at h
    cases h with
    | @dct a ks ds e1 r =>
      cases e
      refine ⟨a, _, rfl, DGet.k (R.le _ _ e1), ?_⟩
      have h2 := pair_val (P := SIs B.K F ρ C.length) key (kv_pair r)
      rw [valA_mapv, hv] at h2
      rcases h2 with ⟨a1, a2⟩ | ⟨v, s, a1, a2, a3⟩
      · exact .inl ⟨a1, a2⟩
      · exact .inr ⟨v, s, a1, a2, a3⟩
    | _ => cases e
  | @cell i ks _ o hi hv =>
    obtain ⟨_, ⟨ob, e2, q3⟩, _⟩ := R.cell _ _ hi
    obtain ⟨_, ev⟩ := h
    cases q3 with
    | dct q3 =>
      refine ⟨_, _, ev, DGet.k e2, ?_⟩
      have h2 := pair_val (P := SIs B.K F ρ C.length) key q3
      rw [hv] at h2
      exact h2
theorem we_dgetA (h : We B ta g S C fun x C1 => We B tb g (x :: S) C1 fun y C2 => ∃ key s, y = keyS key ∧ DA C2 x key (some s) ∧ k s C2) : We B (tDGet ta tb) g S C k := fun σ vs H Q R kq =>
  h σ vs H _ R fun x C1 v H1 h1 R1 => h1 σ (v :: vs) H1 _ R1 fun y C2 w H2 ⟨key, s, ey, dv, q⟩ R2 => by
    subst ey
    obtain ⟨F, ρ, R3, hy⟩ := R2.top
    obtain ⟨R4, hx⟩ := R3.pop
    obtain rfl := is_key hy
    obtain ⟨a, r, ev, dg, hr⟩ := R4.da hx dv
    rcases hr with ⟨_, e⟩ | ⟨u, t, e1, e2, e3⟩
    · cases e
    · cases e2
      subst e1
      exact ⟨a, u, ev, dg, kq _ C2 u H2 q ⟨F, ρ, R4.push e3⟩⟩
theorem we_din (h : We B ty g S C fun y C1 => We B td g (y :: S) C1 fun x C2 => ∃ key o, y = keyS key ∧ DA C2 x key o ∧ k (.dat (.bool o.isSome)) C2) : We B (tDIn ty td) g S C k := fun σ vs H Q R kq =>
  h σ vs H _ R fun y C1 v H1 h1 R1 => h1 σ (v :: vs) H1 _ R1 fun x C2 w H2 ⟨key, o, ey, dv, q⟩ R2 => by
    subst ey
    obtain ⟨F, ρ, R3, hx⟩ := R2.top
    obtain ⟨R4, hy⟩ := R3.pop
    obtain rfl := is_key hy
    obtain ⟨a, r, ev, dg, hr⟩ := R4.da hx dv
    refine ⟨a, r, ev, dg, ?_⟩
    have e : r.isSome = o.isSome := by
      rcases hr with ⟨e1, e2⟩ | ⟨u, t, e1, e2, _⟩ <;> rw [e1, e2] <;> rfl
    rw [e]
    exact kq _ C2 _ H2 q ⟨F, ρ, R4.push (.bl _)⟩
theorem we_dnotin (h : We B ty g S C fun y C1 => We B td g (y :: S) C1 fun x C2 => ∃ key o, y = keyS key ∧ DA C2 x key o ∧ k (.dat (.bool (!o.isSome))) C2) : We B (tDNotIn ty td) g S C k := fun σ vs H Q R kq =>
  h σ vs H _ R fun y C1 v H1 h1 R1 => h1 σ (v :: vs) H1 _ R1 fun x C2 w H2 ⟨key, o, ey, dv, q⟩ R2 => by
    subst ey
    obtain ⟨F, ρ, R3, hx⟩ := R2.top
    obtain ⟨R4, hy⟩ := R3.pop
    obtain rfl := is_key hy
    obtain ⟨a, r, ev, dg, hr⟩ := R4.da hx dv
    refine ⟨a, r, ev, dg, ?_⟩
    have e : r.isSome = o.isSome := by
      rcases hr with ⟨e1, e2⟩ | ⟨u, t, e1, e2, _⟩ <;> rw [e1, e2] <;> rfl
    rw [e]
    exact kq _ C2 _ H2 q ⟨F, ρ, R4.push (.bl _)⟩
theorem ws_dput (h : We B tv g S C fun v C1 => We B td g (v :: S) C1 fun x C2 => We B ty g (x :: v :: S) C2 fun y C3 => ∃ i ks key, x = .ref i ∧ y = keyS key ∧ C3[i]? = some (some (.dct ks)) ∧ ks.length < sizeLine ∧ kk.nx g (C3.set i (some (.dct (putA ks key v))))) : Ws B (sDPut td ty tv) g S C kk := fun σ vs H D R d =>
  h σ vs H _ R fun v C1 w1 H1 h1 R1 => h1 σ (w1 :: vs) H1 _ R1 fun x C2 w2 H2 h2 R2 => h2 σ (w2 :: w1 :: vs) H2 _ R2 fun y C3 w3 H3 ⟨i, ks, key, ex, ey, ei, hl, q⟩ R3 => by
    subst ex ey
    obtain ⟨F, ρ, R4, hy⟩ := R3.top
    obtain ⟨R5, hx⟩ := R4.pop
    obtain ⟨R6, hv⟩ := R5.pop
    obtain rfl := is_key hy
    obtain ⟨_, ⟨ob, e2, q3⟩, _⟩ := R6.cell _ _ ei
    cases q3 with
    | @dct ws _ q3 => exact ⟨ρ i, _, hx.2, DPut.k e2 (by rw [Paired.length q3]; exact hl), d.nx _ _ _ _ q ⟨F, ρ, R6.wr ei (.dct (pair_put key hv q3))⟩⟩
theorem we_dnew (q : k (.ref C.length) (C ++ [some (.dct [])])) : We B tDNewK g S C k := fun σ vs H Q R kq p hp => by
  obtain ⟨F, ρ, R⟩ := R
  exact kq _ _ _ _ q ⟨F, _, R.lay_c hp (.dct .nil)⟩
/-! ## extend -/
theorem we_ext (h : We B ta g S C fun x C1 => ∃ i xs0, x = .ref i ∧ C1[i]? = some (some (.lst xs0)) ∧ Wa B t' g (x :: S) C1 fun ss C2 => ∃ xs, ∃ ds : List D, ss = [.dat (.list ds)] ∧ C2[i]? = some (some (.lst xs)) ∧ xs.length + ds.length ≤ sizeLine ∧ k (.dat .none) (C2.set i (some (.lst (xs ++ ds.map .dat))))) :
    We B (tBM B.K "list" rExtend ta t') g S C k := fun σ vs H Q R kq =>
  h σ vs H _ R fun x C1 v H1 ⟨i, xs0, e, ei, h1⟩ R1 => by
    subst e
    obtain ⟨F, ρ, R2, hx⟩ := R1.top
    obtain ⟨_, ⟨o, e2, q3⟩, _⟩ := R2.cell _ _ ei
    cases q3 with
    | @lst ws0 _ q3 =>
      have ev := hx.2
      subst ev
      refine ⟨.inl ⟨rfl, _, SqL.of e2⟩, ?_⟩
      refine h1 σ _ H1 _ R1 fun ss C2 us H2 ⟨xs, ds, ess, ei2, hl, q⟩ l R3 => ?_
      subst ess
      obtain ⟨u, rfl, R3⟩ := R3.one l
      obtain ⟨F2, ρ2, R4, hy⟩ := R3.top
      obtain ⟨R5, hx2⟩ := R4.pop
      obtain ⟨_, ⟨o2, e3, q4⟩, _⟩ := R5.cell _ _ ei2
      cases q4 with
      | @lst ws _ q4 =>
        have er : ρ i = ρ2 i := V.ref.inj hx2.2
        cases hy with
        | @lst b zs _ e4 r4 =>
          refine ⟨ρ i, b, ws, zs, rfl, rfl, by rw [er]; exact e3, R5.le _ _ e4, by rw [Paired.length q4, IsAll.length r4]; exact hl, ?_⟩
          rw [er]
          exact kq _ _ _ _ q ⟨F2, ρ2, (R5.wr ei2 (.lst (paired_app q4 (sis_all r4)))).push .non⟩
theorem ws_ext {i j : Nat} (hj : g[j]? = some (some (.ref i))) (h0 : ∃ xs, C[i]? = some (some (.lst xs))) (h : We B te g (.ref i :: S) C fun y C1 => ∃ xs, ∃ ds : List D, y = .dat (.list ds) ∧ C1[i]? = some (some (.lst xs)) ∧ xs.length + ds.length ≤ sizeLine ∧ kk.nx g (C1.set i (some (.lst (xs ++ ds.map .dat))))) :
    Ws B (tDrop (tBM B.K "list" rExtend (tVar j) (tCons te tNil))) g S C kk := ws_drop (we_ext (we_var hj (let ⟨xs0, h0⟩ := h0; ⟨i, xs0, rfl, h0, wa_cons (h.imp fun y C1 ⟨xs, ds, e, a, b, c⟩ => wa_nil ⟨xs, ds, by rw [e], a, b, c⟩)⟩)))
/-! ## while -/
abbrev whileK (B : Bs) (S : List SV) (kk : Ks) (P : Gs → Cs → Prop) : Ks := { nx := Nx B S P, rt := kk.rt, bk := kk.nx, ct := Nx B S P }
theorem ws_while (I : Nat → Gs → Cs → Prop) {m0 : Nat} (i0 : I m0 g C) (hs : ∀ m g' C', I m g' C' → Wt B tt g' S C' fun b C2 => (b = true → Ws B tbody g' S C2 (turnK B S kk fun g2 C3 => ∃ m', m' < m ∧ I m' g2 C3)) ∧ (b = false → kk.nx g' C2)) :
    Ws B (tWhile tt tbody) g S C kk := fun σ vs H D R d => by
  refine ⟨fun m σ' H' => ∃ g' C', I m g' C' ∧ Rel B g' S C' σ' vs H', ⟨m0, g, C, i0, R⟩, ?_⟩
  rintro m σ1 H1 ⟨g', C', q, R1⟩
  refine hs m g' C' q σ1 vs H1 _ R1 fun b C2 H2 ⟨qt, qf⟩ R2 => ?_
  cases b with
  | true =>
    refine (if_pos rfl).mpr ⟨fun σ3 H3 => ∃ m' g2 C3, (m' < m ∧ I m' g2 C3) ∧ Rel B g2 S C3 σ3 vs H3, fun σ3 H3 ⟨m', g2, C3, a, R3⟩ => ⟨m', a.1, g2, C3, a.2, R3⟩, ?_⟩
    refine qt rfl σ1 vs H2 _ R2 ⟨fun g3 C3 σ3 H3 n R3 => ?_, d.rt, fun g3 C3 σ3 H3 n R3 => d.nx _ _ _ _ n R3, fun g3 C3 σ3 H3 n R3 => ?_⟩
    · obtain ⟨g4, C4, ⟨m', a, b⟩, R4⟩ := n σ3 vs H3 R3
      exact ⟨m', g4, C4, ⟨a, b⟩, R4⟩
    · obtain ⟨g4, C4, ⟨m', a, b⟩, R4⟩ := n σ3 vs H3 R3
      exact ⟨m', g4, C4, ⟨a, b⟩, R4⟩
  | false => exact (if_neg Bool.false_ne_true).mpr (d.nx _ _ _ _ (qf rfl) R2)
/-! ## tuple + tuple -/
theorem wr_plusT {xs ys : List D} (h0 : xs ≠ []) (hl : xs.length + ys.length ≤ sizeLine) (q : k (.dat (.tuple (xs ++ ys))) C) : Wr B (rPlus B.K) (.dat (.tuple xs)) (.dat (.tuple ys)) g S C k := fun σ vs H Q v w R kq => .inr (.inr (.inr (by
  obtain ⟨F, ρ, R1, hy⟩ := R.top
  obtain ⟨R2, hx⟩ := R1.pop
  have hx0 := hx
  obtain ⟨a, ws, rfl, ha, hp⟩ := R2.tv hx
  obtain ⟨b, us, rfl, hb, hq⟩ := R2.tv hy
  have l1 := Paired.length hp
  have l2 := Paired.length hq
  rw [List.length_map] at l1 l2
  refine ⟨a, b, ws, us, rfl, rfl, ha, hb, fun z => h0 (List.length_eq_zero_iff.mp (by rw [← l1, z]; rfl)), by omega, fun z => ?_, fun z p hp3 => ?_⟩
  · have e : ys = [] := List.length_eq_zero_iff.mp (by rw [← l2, z]; rfl)
    subst e
    rw [List.append_nil] at q
    exact kq _ C _ _ q ⟨F, ρ, R2.push hx0⟩
  · obtain ⟨R4, L⟩ := R2.lay (o := .tup (ws ++ us)) hp3
    have ap : IsAll B.K F (ws ++ us) (xs ++ ys) := all_sis (ρ := ρ) (n := C.length) (by rw [List.map_append]; exact paired_app hp hq)
    exact kq _ C _ _ q ⟨_, ρ, R4.push (.tup (SqT.of upd_same) (ap.mono L))⟩)))
/-! ## data that may be compared -/
def Shp (n : Nat) (d : D) : Prop := d.canLay0 = true ∧ d.depth ≤ n
theorem shp_int {n : Nat} {i : Int} : Shp n (.int i) := ⟨rfl, Nat.zero_le _⟩
theorem shp_bool {n : Nat} {i : Bool} : Shp n (.bool i) := ⟨rfl, Nat.zero_le _⟩
theorem shp_none {n : Nat} : Shp n .none := ⟨rfl, Nat.zero_le _⟩
theorem shp_all {n : Nat} : ∀ {xs : List D}, (∀ x ∈ xs, Shp n x) → PyData.canLayAll0 xs = true ∧ PyData.depthAll xs ≤ n
  | [], _ => ⟨rfl, Nat.zero_le _⟩
  | x :: xs, h => by
    obtain ⟨a, b⟩ := shp_all fun y hy => h y (List.mem_cons_of_mem _ hy)
    obtain ⟨c, d⟩ := h x List.mem_cons_self
    exact ⟨by rw [PyData.canLayAll0, c, a]; rfl, by rw [PyData.depthAll]; exact Nat.max_le.mpr ⟨d, b⟩⟩
theorem shp_list {n : Nat} {xs : List D} (h : ∀ x ∈ xs, Shp n x) : Shp (n + 1) (.list xs) := ⟨by rw [PyData.canLay0]; exact (shp_all h).1, by rw [PyData.depth]; exact Nat.succ_le_succ (shp_all h).2⟩
theorem shp_tuple {n : Nat} {xs : List D} (h : ∀ x ∈ xs, Shp n x) : Shp (n + 1) (.tuple xs) := ⟨by rw [PyData.canLay0]; exact (shp_all h).1, by rw [PyData.depth]; exact Nat.succ_le_succ (shp_all h).2⟩
theorem shp_map {n : Nat} {α : Type} {f : α → D} {xs : List α} (h : ∀ x, Shp n (f x)) : ∀ y ∈ xs.map f, Shp n y := fun y hy => by
  obtain ⟨x, _, e⟩ := List.mem_map.mp hy
  rw [← e]; exact h x
theorem shp_nil {n : Nat} : ∀ y ∈ ([] : List D), Shp n y := fun y hy => by cases hy
theorem shp_cons {n : Nat} {x : D} {xs : List D} (h : Shp n x) (r : ∀ y ∈ xs, Shp n y) : ∀ y ∈ x :: xs, Shp n y := fun y hy => by
  rcases List.mem_cons.mp hy with e | e
  · rw [e]; exact h
  · exact r y e
theorem shaped_of {n : Nat} {d : D} (h : Shp n d) (hn : n ≤ 64) : SeqAt.shaped d = true := by
  unfold SeqAt.shaped
  rw [h.1, Bool.true_and]
  exact decide_eq_true (Nat.le_trans h.2 hn)
mutual
theorem eqv_self : ∀ {d : D}, d.canLay0 = true → PyData.eqv d d = true
  | .none, _ => by rw [PyData.eqv]
  | .bool _, _ => by rw [PyData.eqv]; exact beq_self_eq_true _
  | .int _, _ => by rw [PyData.eqv]; exact beq_self_eq_true _
  | .str _, _ => by rw [PyData.eqv]; exact beq_self_eq_true _
  | .list xs, h => by rw [PyData.eqv]; exact eqv_selfs (by rw [PyData.canLay0] at h; exact h)
  | .tuple xs, h => by rw [PyData.eqv]; exact eqv_selfs (by rw [PyData.canLay0] at h; exact h)
  | .dict _, h => by rw [PyData.canLay0] at h; cases h
theorem eqv_selfs : ∀ {xs : List D}, PyData.canLayAll0 xs = true → PyData.eqvAll xs xs = true
  | [], _ => by rw [PyData.eqvAll]
  | x :: xs, h => by
    rw [PyData.canLayAll0, Bool.and_eq_true] at h
    rw [PyData.eqvAll, eqv_self h.1, eqv_selfs h.2]; rfl
end
/-- alike: == True, != False -/
theorem wr_eqSame {d e : D} (n : Nat) (hs : Shp n d) (he : e = d) (hn : n ≤ 64) (q : k (.dat (.bool true)) C) : Wr B (rEqQ B.K) (.dat d) (.dat e) g S C k := by
  subst he
  exact wr_eqD (shaped_of hs hn) (shaped_of hs hn) (by rw [eqv_self hs.1]; exact q)
theorem wr_neSame {d e : D} (n : Nat) (hs : Shp n d) (he : e = d) (hn : n ≤ 64) (q : k (.dat (.bool false)) C) : Wr B (rNeQ B.K) (.dat d) (.dat e) g S C k := by
  subst he
  exact wr_neD (shaped_of hs hn) (shaped_of hs hn) (by rw [eqv_self hs.1]; exact q)
end
end Sy

set_option Elab.async false
set_option linter.all false
set_option maxRecDepth 100000
set_option maxHeartbeats 400000
namespace Sy
open PySem L2
section
variable {B : Bs} {g : Gs} {S : List SV} {C : Cs} {k : SV → Cs → Prop} {t' : TA} {te ta tb tc : TE} {tt : TT}
/-- a call whose arguments stand -/
def Wk (c : Cp) (ex : Addr → Int → Prop) (ss : List SV) (k : SV → Cs → Prop) (C : Cs) : Prop := ∃ i, ss = c.args i ∧ (c.args i).all SV.cl = true ∧ c.pre i ∧ (∀ d, c.post i d → k (.dat d) C) ∧ (∀ cls n, c.exc i cls n → ex cls n)
theorem we_callW {c : Cp} {E : XK} {ex : Addr → Int → Prop} (hX : Xk B E ex) (h : Wa B t' g S C fun ss C1 => Wk c ex ss k C1) : We B (tCall (c.sp B.K) [] E t') g S C k := we_call hX h
theorem wk_of {c : Cp} {ex : Addr → Int → Prop} (i : c.ι) (v : D) (hc : (c.args i).all SV.cl = true) (hp : c.pre i) (hv : ∀ d, c.post i d → d = v) (he : ∀ cls n, ¬ c.exc i cls n) (q : k (.dat v) C) : Wk c ex (c.args i) k C :=
  ⟨i, rfl, hc, hp, fun d h => by rw [hv d h]; exact q, fun cls n h => absurd h (he cls n)⟩
theorem xkN {E : XK} : Xk B E (fun _ _ => False) := fun _ _ _ _ _ x _ _ _ => x.elim
theorem we_callN {c : Cp} {E : XK} (h : Wa B t' g S C fun ss C1 => Wk c (fun _ _ => False) ss k C1) : We B (tCall (c.sp B.K) [] E t') g S C k := we_call xkN h
inductive DS : List SV → List D → Prop
  | nil : DS [] []
  | cons {d : D} {ss : List SV} {ds : List D} : DS ss ds → DS (.dat d :: ss) (d :: ds)
theorem DS.map {ss : List SV} {ds : List D} (h : DS ss ds) : ss = ds.map .dat := by
  induction h with
  | nil => rfl
  | cons _ ih => rw [ih]; rfl
inductive IL : List D → List Int → Prop
  | nil : IL [] []
  | cons {i : Int} {ss : List D} {ds : List Int} : IL ss ds → IL (.int i :: ss) (i :: ds)
theorem IL.map {ss : List D} {ds : List Int} (h : IL ss ds) : ss = ds.map .int := by
  induction h with
  | nil => rfl
  | cons _ ih => rw [ih]; rfl
theorem len_ok {n : Nat} (h : Nat.ble n 100000 = true) : n ≤ sizeLine := Nat.le_trans (Nat.le_of_ble_eq_true h) (by rw [sizeLine_eq]; decide)
theorem we_tupX (h : Wa B t' g S C fun ss C1 => ∃ ds : List D, DS ss ds ∧ ds.length ≤ sizeLine ∧ k (.dat (.tuple ds)) C1) : We B (tTup t') g S C k := we_tup fun σ vs H Q R kq => h σ vs H Q R fun ss C1 us H1 ⟨ds, a, b, c⟩ => kq ss C1 us H1 ⟨ds, a.map, b, c⟩
theorem we_lstX {t0 : TE} (h : Wa B (tCons t0 t') g S C fun ss C1 => ∃ ds : List D, DS ss ds ∧ ds.length ≤ sizeLine ∧ k (.dat (.list ds)) C1) : We B (tLst (tCons t0 t')) g S C k := we_lst fun σ vs H Q R kq => h σ vs H Q R fun ss C1 us H1 ⟨ds, a, b, c⟩ => kq ss C1 us H1 ⟨ds, a.map, b, c⟩
theorem wr_ixI {ds : List D} {ns : List Int} {i : Int} (e : IL ds ns) (h0 : 0 ≤ i) (h1 : i < ns.length) (q : k (.dat (.int (ns.getD i.toNat 0))) C) : Wr B (rIx B.K) (.dat (.list ds)) (.dat (.int i)) g S C k := by
  rw [e.map]
  exact wr_ixl .dat (atI_map _ (atI_map _ (atI_getD 0 h0 h1))) q
theorem wr_ixM {α : Type} {f : α → D} {ns : List α} {i : Int} (d : α) (h0 : 0 ≤ i) (h1 : i < ns.length) (q : k (.dat (f (ns.getD i.toNat d))) C) : Wr B (rIx B.K) (.dat (.list (ns.map f))) (.dat (.int i)) g S C k :=
  wr_ixl .dat (atI_map _ (atI_map _ (atI_getD d h0 h1))) q
theorem wr_ixD {ds : List D} {i : Int} (h0 : 0 ≤ i) (h1 : i < ds.length) (q : k (.dat (ds.getD i.toNat .none)) C) : Wr B (rIx B.K) (.dat (.list ds)) (.dat (.int i)) g S C k :=
  wr_ixl .dat (atI_map _ (atI_getD .none h0 h1)) q
/-- a list's item by a number, the list a literal or not -/
theorem ix_map {α : Type} {f : α → SV} {xs : List α} {i : Int} (d : α) (h0 : 0 ≤ i) (h1 : i < xs.length) : atI (xs.map f) i = some (f (xs.getD i.toNat d)) := atI_map f (atI_getD d h0 h1)
/-! ## comprehensions, in short -/
theorem wt_yes {kb : Bool → Cs → Prop} (q : kb true C) : Wt B tYes g S C kb := fun σ vs H Q R kq => kq true C H q R
theorem LV.more {C' : Cs} {s : SV} {xs : List SV} (h : LV C s xs) : LV (C ++ C') s xs := by
  cases h with
  | dat => exact .dat
  | cell e => exact .cell (by rw [List.getElem?_append_left (List.getElem?_eq_some_iff.mp e).1]; exact e)
def rng (a b : Int) : List Int := (List.range (b - a).toNat).map fun (i : Nat) => a + (i : Int)
theorem rng_len (a b : Int) : (rng a b).length = (b - a).toNat := by simp [rng]
theorem mem_rng {a b x : Int} (h : x ∈ rng a b) : a ≤ x ∧ x < b := by
  obtain ⟨i, hi, e⟩ := List.mem_map.mp h
  have := List.mem_range.mp hi
  omega
theorem rng_at {a b : Int} {i : Nat} (h : i < (b - a).toNat) : (rng a b)[i]? = some (a + i) := by
  unfold rng
  rw [List.getElem?_map, List.getElem?_range h]; rfl
/-- what a comprehension walks -/
def Wsrc (B : Bs) (wi : TI) {α : Type} (as : List α) (enc : α → SV) (g : Gs) (S : List SV) (C : Cs) (k : Cs → Prop) : Prop := Wi B wi g S C fun T xs ok C1 => xs = as.map enc ∧ (∀ acc, ok (C1 ++ [some (.lst acc)])) ∧ k C1
theorem wsrc_list {α : Type} {as : List α} {enc : α → SV} {tl : TE} {k : Cs → Prop} (h : We B tl g S C fun s C1 => LV C1 s (as.map enc) ∧ k C1) : Wsrc B (iList B.K tl) as enc g S C k :=
  wi_list (h.imp fun s C1 ⟨a, b⟩ => ⟨_, a, rfl, fun acc => a.more, b⟩)
theorem wsrc_rng1 {n : Int} {k : Cs → Prop} (h : Wa B t' g S C fun ss C1 => ss = [.dat (.int n)] ∧ (-(2 ^ 62) ≤ n ∧ n < 2 ^ 62) ∧ k C1) : Wsrc B (iRng1 t') (rng 0 n) (fun x => .dat (.int x)) g S C k :=
  wi_rng1 fun σ vs H Q R kq => h σ vs H Q R fun ss C1 us H1 ⟨a, b, c⟩ => kq ss C1 us H1 ⟨n, a, b, by simp [rngS, rng], fun _ => trivial, c⟩
theorem wsrc_rng2 {lo n : Int} {k : Cs → Prop} (h : Wa B t' g S C fun ss C1 => ss = [.dat (.int lo), .dat (.int n)] ∧ (-(2 ^ 62) ≤ lo ∧ lo < 2 ^ 62 ∧ -(2 ^ 62) ≤ n ∧ n < 2 ^ 62) ∧ k C1) : Wsrc B (iRng2 t') (rng lo n) (fun x => .dat (.int x)) g S C k :=
  wi_rng2 fun σ vs H Q R kq => h σ vs H Q R fun ss C1 us H1 ⟨a, b, c⟩ => kq ss C1 us H1 ⟨lo, n, a, b, by simp [rngS, rng], fun _ => trivial, c⟩
theorem we_lcT {wi : TI} {tg : TG} {is : List Nat} {α : Type} (as : List α) (enc : α → SV) (p : α → Bool) (f : α → D) (hl : as.length ≤ sizeLine)
    (h : Wsrc B wi as enc g S C fun C1 => (∀ a, a ∈ as → ∀ S' acc, Wgw B tg is (enc a) (wipeG g is) S' (C1 ++ [some (.lst acc)]) fun g2 C2 => C2 = C1 ++ [some (.lst acc)] ∧
        Wt B tt g2 S' (C1 ++ [some (.lst acc)]) fun b C3 => C3 = C1 ++ [some (.lst acc)] ∧ b = p a ∧ (b = true → We B te g2 S' (C1 ++ [some (.lst acc)]) fun y C4 => C4 = C1 ++ [some (.lst acc)] ∧ y = .dat (f a))) ∧
      k (.dat (.list ((as.filter p).map f))) C1) : We B (tLc wi tg tt te is) g S C k :=
  we_lc as enc p f hl fun σ vs H Q R kq => h σ vs H Q R fun J T tv xs ok C1 H1 ⟨a, b, c, d⟩ => kq J T tv xs ok C1 H1 ⟨a, b, fun i x acc e => c x (List.mem_of_getElem? e) _ acc, d⟩
theorem we_lc1F {wi : TI} {j : Nat} {α : Type} (as : List α) (enc : α → SV) (p : α → Bool) (f : α → D) (hl : as.length ≤ sizeLine)
    (h : Wsrc B wi as enc g S C fun C1 => (∀ a, a ∈ as → ∀ S' acc, Wt B tt ((wipeG g [j]).set j (some (enc a))) S' (C1 ++ [some (.lst acc)]) fun b C3 => C3 = C1 ++ [some (.lst acc)] ∧ b = p a) ∧
      (∀ a, a ∈ as → p a = true → ∀ S' acc, We B te ((wipeG g [j]).set j (some (enc a))) S' (C1 ++ [some (.lst acc)]) fun y C4 => C4 = C1 ++ [some (.lst acc)] ∧ y = .dat (f a)) ∧
      k (.dat (.list ((as.filter p).map f))) C1) : We B (tLc wi (gName j) tt te [j]) g S C k :=
  we_lcT as enc p f hl fun σ vs H Q R kq => h σ vs H Q R fun J T tv xs ok C1 H1 ⟨a, b, c, d, e⟩ => kq J T tv xs ok C1 H1 ⟨a, b, fun x hx S' acc => wgw_name (by simp) ⟨rfl, (c x hx S' acc).imp fun b C3 ⟨e1, e2⟩ => ⟨e1, e2, fun z => d x hx (e2 ▸ z) S' acc⟩⟩, e⟩
theorem we_lc1 {wi : TI} {j : Nat} {α : Type} (as : List α) (enc : α → SV) (f : α → D) (hl : as.length ≤ sizeLine)
    (h : Wsrc B wi as enc g S C fun C1 => (∀ a, a ∈ as → ∀ S' acc, We B te ((wipeG g [j]).set j (some (enc a))) S' (C1 ++ [some (.lst acc)]) fun y C4 => C4 = C1 ++ [some (.lst acc)] ∧ y = .dat (f a)) ∧
      k (.dat (.list (as.map f))) C1) : We B (tLc wi (gName j) tYes te [j]) g S C k :=
  we_lc1F as enc (fun _ => true) f hl fun σ vs H Q R kq => h σ vs H Q R fun J T tv xs ok C1 H1 ⟨a, b, c, d⟩ => kq J T tv xs ok C1 H1 ⟨a, b, fun x hx S' acc => wt_yes ⟨rfl, rfl⟩, fun x hx _ => c x hx, by rw [List.filter_eq_self.mpr fun _ _ => rfl]; exact d⟩
theorem lv_map {α : Type} {as : List α} {f : α → D} : LV C (.dat (.list (as.map f))) (as.map fun x => .dat (f x)) := by
  have h : LV C (.dat (.list (as.map f))) ((as.map f).map .dat) := .dat
  rw [List.map_map] at h
  exact h
theorem wc_allM {α : Type} {as : List α} {f : α → Bool} (q : k (.dat (.bool (as.all f))) C) : Wc B (rAll B.K) [.dat (.list (as.map fun x => .bool (f x)))] g S C k := by
  refine wc_all (bs := as.map f) ?_ ?_
  · rw [List.map_map, List.map_map]; exact lv_map
  · rw [List.all_map]; exact q
theorem wc_anyM {α : Type} {as : List α} {f : α → Bool} (q : k (.dat (.bool (as.any f))) C) : Wc B (rAny B.K) [.dat (.list (as.map fun x => .bool (f x)))] g S C k := by
  refine wc_any (bs := as.map f) ?_ ?_
  · rw [List.map_map, List.map_map]; exact lv_map
  · rw [List.any_map]; exact q
theorem wc_sumM {α : Type} {as : List α} {f : α → Int} (q : k (.dat (.int (as.map f).sum)) C) : Wc B (rSum B.K) [.dat (.list (as.map fun x => .int (f x)))] g S C k := by
  refine wc_sum (bs := as.map f) ?_ q
  rw [List.map_map, List.map_map]; exact lv_map
theorem dec_and {p q : Prop} [Decidable p] [Decidable q] (h : p ∧ q) : (decide p && decide q) = true := by
  rw [decide_eq_true h.1, decide_eq_true h.2]; rfl
theorem cutL_len {α : Type} (xs : List α) (lo hi : Option Int) : (cutL xs lo hi).length ≤ xs.length := by
  unfold cutL
  rw [List.length_take, List.length_drop]
  omega
/-- for over a list of data -/
theorem ws_forD {kk : Ks} {tl : TE} {tg : TG} {tbody : TS} {α : Type} (as : List α) (e : α → D) (h : We B tl g S C fun s C1 => s = .dat (.list (as.map e)) ∧ ∃ I : Nat → Gs → Cs → Prop, I 0 g C1 ∧
      (∀ (i : Nat) a g' C', as[i]? = some a → I i g' C' → Wg B tg (.dat (e a)) g' (s :: S) C' fun g2 C2 => Ws B tbody g2 (s :: S) C2 (turnK B (s :: S) kk (I (i + 1)))) ∧ (∀ g' C', I as.length g' C' → kk.nx g' C')) :
    Ws B (tFor (iList B.K tl) tg tbody) g S C kk := ws_forL (h.imp fun s C1 ⟨es, I, i0, hs, hd⟩ => by
  subst es
  refine ⟨(as.map e).map .dat, I, i0, fun _ _ _ _ _ => .dat, fun i x g' C' hx q => ?_, fun g' C' q => hd g' C' (by simpa using q)⟩
  rw [List.map_map, List.getElem?_map] at hx
  cases ea : as[i]? with
  | none => rw [ea] at hx; cases hx
  | some a =>
    rw [ea] at hx
    cases hx
    exact hs i a g' C' ea q)
theorem ws_forED {kk : Ks} {t1 t2 : TG} {tbody : TS} {α : Type} (as : List α) (e : α → D) (h : Wa B t' g S C fun ss C1 => ss = [.dat (.list (as.map e))] ∧ ∃ I : Nat → Gs → Cs → Prop, I 0 g C1 ∧
      (∀ (i : Nat) a g' C', as[i]? = some a → I i g' C' → Wg B t1 (.dat (.int i)) g' (.dat (e a) :: .dat (.list (as.map e)) :: S) C' fun g2 C2 => Wg B t2 (.dat (e a)) g2 (.dat (.list (as.map e)) :: S) C2 fun g3 C3 => Ws B tbody g3 (.dat (.list (as.map e)) :: S) C3 (turnK B (.dat (.list (as.map e)) :: S) kk (I (i + 1)))) ∧ (∀ g' C', I as.length g' C' → kk.nx g' C')) :
    Ws B (tFor (iEnum B.K t') (gTup B.K 2 (gCons t1 (gCons t2 gNil))) tbody) g S C kk := ws_forE fun σ vs H Q R kq => h σ vs H Q R fun ss C1 us H1 ⟨es, I, i0, hs, hd⟩ => by
  subst es
  refine kq _ _ _ _ ⟨_, (as.map e).map .dat, I, rfl, i0, fun _ _ _ _ _ => .dat, fun i x g' C' hx q => ?_, fun g' C' q => hd g' C' (by simpa using q)⟩
  rw [List.map_map, List.getElem?_map] at hx
  cases ea : as[i]? with
  | none => rw [ea] at hx; cases hx
  | some a =>
    rw [ea] at hx
    cases hx
    exact hs i a g' C' ea q
theorem take_snoc {α : Type} {as : List α} {i : Nat} {a : α} (h : as[i]? = some a) : as.take (i + 1) = as.take i ++ [a] := by rw [List.take_succ, h]; rfl
/-- x if c else y, ints -/
theorem we_ifI (h : Wt B tt g S C fun b C1 => ∃ i1 i2, (b = true → We B ta g S C1 fun y C2 => C2 = C1 ∧ y = .dat (.int i1)) ∧ (b = false → We B tb g S C1 fun y C2 => C2 = C1 ∧ y = .dat (.int i2)) ∧ k (.dat (.int (if b then i1 else i2))) C1) : We B (tIf tt ta tb) g S C k :=
  we_ifJ (h.imp fun b C1 ⟨i1, i2, h1, h2, q⟩ => ⟨.int i1, .int i2, h1, h2, by cases b <;> exact q⟩)
theorem getD_mem {ns : List Int} {i : Int} (h0 : 0 ≤ i) (h1 : i < ns.length) : ns.getD i.toNat 0 ∈ ns := by
  rw [List.getD_eq_getElem?_getD, List.getElem?_eq_getElem (by omega)]
  exact List.getElem_mem _
theorem wr_ixG {ds : List D} {ns : List Int} {i : Int} (e : IL ds ns) (h0 : 0 ≤ i) (h1 : i < ns.length) (q : ∀ v, v ∈ ns → k (.dat (.int v)) C) : Wr B (rIx B.K) (.dat (.list ds)) (.dat (.int i)) g S C k := wr_ixI e h0 h1 (q _ (getD_mem h0 h1))
inductive IS : List D → List Str → Prop
  | nil : IS [] []
  | cons {i : Str} {ss : List D} {ds : List Str} : IS ss ds → IS (.str i :: ss) (i :: ds)
theorem IS.map {ss : List D} {ds : List Str} (h : IS ss ds) : ss = ds.map .str := by
  induction h with
  | nil => rfl
  | cons _ ih => rw [ih]; rfl
theorem wr_ixGS {ds : List D} {ns : List Str} {i : Int} (e : IS ds ns) (h0 : 0 ≤ i) (h1 : i < ns.length) (q : ∀ v, v ∈ ns → k (.dat (.str v)) C) : Wr B (rIx B.K) (.dat (.list ds)) (.dat (.int i)) g S C k := by
  rw [e.map]
  refine wr_ixl .dat (atI_map _ (atI_map _ (atI_getD (⟨#[]⟩ : Str) h0 h1))) (q _ ?_)
  rw [List.getD_eq_getElem?_getD, List.getElem?_eq_getElem (by omega)]
  exact List.getElem_mem _
/-- if c: x = e, x an int ahead -/
theorem ws_ifA {kk : Ks} {i : Nat} (h : Wt B tt g S C fun b C1 => ∃ i1 i0, g[i]? = some (some (.dat (.int i0))) ∧ (b = true → We B te g S C1 fun y C2 => C2 = C1 ∧ y = .dat (.int i1)) ∧ kk.nx (g.set i (some (.dat (.int (if b then i1 else i0))))) C1) :
    Ws B (tIfS tt (tAsg te (gName i)) tNext) g S C kk := ws_if (h.imp fun b C1 ⟨i1, i0, h0, h1, q⟩ => by
  refine ⟨fun hb => ?_, fun hb => ?_⟩
  · subst hb
    refine ws_asg ((h1 rfl).imp fun y C2 ⟨e1, e2⟩ => ?_)
    subst e1 e2
    exact q
  · subst hb
    refine ws_next ?_
    have e : g.set i (some (.dat (.int (if false = true then i1 else i0)))) = g := by
      refine List.ext_getElem? fun m => ?_
      by_cases hm : i = m
      · subst hm
        rw [List.getElem?_set_self (List.getElem?_eq_some_iff.mp h0).1, h0]
        rfl
      · rw [List.getElem?_set_ne hm]
    rw [e] at q
    exact q)
/-! ## forgetting -/
inductive Sub : Gs → Gs → Prop
  | nil : Sub [] []
  | keep {s : SV} {a b : Gs} (hc : s.cl = true) : Sub a b → Sub (some s :: a) (some s :: b)
  | drop {o : Option SV} {a b : Gs} : Sub a b → Sub (none :: a) (o :: b)
theorem Sub.len {a b : Gs} (h : Sub a b) : a.length = b.length := by
  induction h with
  | nil => rfl
  | keep _ _ ih => rw [List.length_cons, List.length_cons, ih]
  | drop _ ih => rw [List.length_cons, List.length_cons, ih]
theorem Sub.at {a b : Gs} (h : Sub a b) : ∀ {i : Nat} {s : SV}, a[i]? = some (some s) → b[i]? = some (some s) ∧ s.cl = true := by
  induction h with
  | nil => intro i s e; simp at e
  | keep hc _ ih =>
    intro i s e
    cases i with
    | zero =>
      simp at e
      subst e
      exact ⟨rfl, hc⟩
    | succ i => exact ih (by simpa using e)
  | drop _ ih =>
    intro i s e
    cases i with
    | zero => simp at e
    | succ i => exact ih (by simpa using e)
/-- the dead cells and slots are forgotten -/
theorem nx_gc {P : Gs → Cs → Prop} (g2 : Gs) (hs : Sub g2 g) (hS : S.all SV.cl = true) (hn : B.n0 = 0) (h : P g2 []) : Nx B S P g C := fun σ vs H R => by
  obtain ⟨F, ρ, R⟩ := R
  refine ⟨g2, [], h, F, ρ, ⟨R.le, R.sub, R.keep, R.there, R.frz, R.rho, by rw [hn]; exact Nat.zero_le _, fun i j c d e => by simp at e, fun i c e => by simp at e, by rw [R.len, hs.len], fun i s e => ?_, sis_cl hS R.stk⟩⟩
  obtain ⟨e2, hc⟩ := hs.at e
  obtain ⟨v, q, r⟩ := R.slot i s e2
  exact ⟨v, q, SIs.cl hc r⟩
theorem eqv_nil (xs : List D) : PyData.eqv (.list xs) (.list []) = xs.isEmpty := by
  rw [PyData.eqv]
  cases xs <;> rw [PyData.eqvAll] <;> rfl
end
end Sy

set_option Elab.async false
set_option linter.all false
set_option maxRecDepth 100000
set_option maxHeartbeats 1000000
namespace Sy
open PySem PySem.Spec PyProof.Rows L2
/-! ## draws -/
abbrev nums (ns : List Int) : D := .list (ns.map PyData.int)
/-- drawn numbers -/
structure Dr (ds : List Int) : Prop where
  lt : ∀ d ∈ ds, 0 ≤ d ∧ d < 65536
  len : ds.length ≤ 4000
def cell (ds : List Int) (k : Int) : Int := if ds.length > 0 then ds.getD (k % (ds.length : Int)).toNat 0 else 0
def mix (ds : List Int) (k many : Int) : Int := if k < (ds.length : Int) then cell ds k % many else ((cell ds k * 7919 + k * 104729) / 3) % many
theorem mix_lt {ds : List Int} {k many : Int} (h : 0 < many) : 0 ≤ mix ds k many ∧ mix ds k many < many := by
  unfold mix
  split
  · exact ⟨Int.emod_nonneg _ (by omega), Int.emod_lt_of_pos _ h⟩
  · exact ⟨Int.emod_nonneg _ (by omega), Int.emod_lt_of_pos _ h⟩
def c_l_law_draws : Cp where
  ι := List Int
  pre ns := ns.length ≤ 63
  args ns := [.scr ns]
  post _ d := ∃ ds, d = nums ds ∧ Dr ds
def c_l_law_mix : Cp where
  ι := List Int × Int × Int
  pre i := Dr i.1 ∧ 0 ≤ i.2.1 ∧ i.2.1 < 1000000 ∧ 0 < i.2.2
  args i := [.dat (nums i.1), .dat (.int i.2.1), .dat (.int i.2.2)]
  post i d := d = .int (mix i.1 i.2.1 i.2.2)
abbrev N_l_law_draws : List Str := ["script", "draws", "k", "rest", "turn", "stirred"]
def t_l_law_draws (K : PySem.W.Frag) (E : XK) : TS :=
  (tSeq (tAsg (tLst tNil) (gName 1))
  (tSeq (tFor (iRng1 (tCons (tCB rMn2 (tCons (tC (.int 63)) (tCons (tCB (rLn K) (tCons (tVar 0) tNil)) tNil))) tNil)) (gName 2)
  (tSeq (tAsg (tCB rAb (tCons (tOp (rIx K) (tVar 0) (tVar 2)) tNil)) (gName 3))
  (tIfS (tTest (tOp rGe (tVar 3) (tOp rPw (tC (.int 10)) (tC (.int 18)))))
  (tFor (iRng1 (tCons (tC (.int 60)) tNil)) (gName 4)
  (tIfS (tTest (tOp rGt (tVar 3) (tC (.int 0))))
  (tSeq (tDrop (tBM K "list" rAppend (tVar 1) (tCons (tOp rMd (tCB rIn1 (tCons (tVar 3) tNil)) (tC (.int 65536))) tNil)))
  (tAsg (tOp rDv (tVar 3) (tC (.int 65536))) (gName 3)))
  tNext))
  (tSeq (tAsg (tOp rMd (tCB rIn1 (tCons (tOp (rPlus K) (tOp rTimes (tVar 3) (tC (.int 48271))) (tOp rTimes (tOp (rPlus K) (tVar 2) (tC (.int 1))) (tC (.int 69621)))) tNil)) (tC (.int 2147483647))) (gName 5))
  (tSeq (tAsg (tOp rMd (tCB rIn1 (tCons (tOp (rPlus K) (tOp (rPlus K) (tOp rTimes (tVar 5) (tC (.int 16807))) (tOp rTimes (tC (.int 11)) (tVar 2))) (tC (.int 5))) tNil)) (tC (.int 2147483629))) (gName 5))
  (tSeq (tDrop (tBM K "list" rAppend (tVar 1) (tCons (tOp rMd (tCB rIn1 (tCons (tVar 5) tNil)) (tC (.int 65536))) tNil)))
  (tDrop (tBM K "list" rAppend (tVar 1) (tCons (tOp rMd (tCB rIn1 (tCons (tOp rDv (tVar 5) (tC (.int 65536))) tNil)) (tC (.int 32768))) tNil)))))))))
  (tRet (tVar 1))))
abbrev N_l_law_mix : List Str := ["draws", "k", "many", "cell"]
def t_l_law_mix (K : PySem.W.Frag) (E : XK) : TS :=
  (tSeq (tAsg (tC (.int 0)) (gName 3))
  (tSeq (tIfS (tTest (tOp rGt (tCB (rLn K) (tCons (tVar 0) tNil)) (tC (.int 0))))
  (tAsg (tOp (rIx K) (tVar 0) (tOp rMd (tCB rIn1 (tCons (tVar 1) tNil)) (tCB (rLn K) (tCons (tVar 0) tNil)))) (gName 3))
  tNext)
  (tSeq (tIfS (tTest (tOp rLt (tVar 1) (tCB (rLn K) (tCons (tVar 0) tNil))))
  (tRet (tOp rMd (tCB rIn1 (tCons (tVar 3) tNil)) (tVar 2)))
  tNext)
  (tRet (tOp rMd (tCB rIn1 (tCons (tOp rDv (tCB rIn1 (tCons (tOp (rPlus K) (tOp rTimes (tVar 3) (tC (.int 7919))) (tOp rTimes (tVar 1) (tC (.int 104729)))) tNil)) (tC (.int 3))) tNil)) (tVar 2))))))
local macro_rules | `(tactic| walk_at "s1") => `(tactic| first
  | ((with_reducible refine' we_var ?hv ?_); (case hv => rfl))
  | with_reducible refine we_int ?_ | with_reducible refine we_op ?_ | with_reducible refine we_cb ?_ | with_reducible refine wa_cons ?_ | with_reducible refine wa_nil ?_
  | with_reducible refine wr_plus ?_ | with_reducible refine wr_sb ?_ | ((with_reducible refine wr_md ?hc ?_); (case hc => decide)) | ((with_reducible refine wr_dv ?hc ?_); (case hc => exact ⟨by decide, by decide⟩))
  | ((with_reducible refine wr_times ?hc ?_); (case hc => first | exact cmul_r (by decide) (by decide) | exact cmul_l (by decide) (by decide)))
  | ((with_reducible refine wr_pw ?hc ?_); (case hc => exact ⟨by decide, by decide, by decide⟩))
  | with_reducible refine wr_lt ?_ | with_reducible refine wr_le ?_ | with_reducible refine wr_gt ?_ | with_reducible refine wr_ge ?_ | with_reducible refine wr_eqI ?_ | with_reducible refine wr_neI ?_ | with_reducible refine wr_eqS ?_ | with_reducible refine wr_neS ?_
  | with_reducible refine we_str ?_ | with_reducible refine we_bl ?_ | with_reducible refine we_non ?_
  | with_reducible refine wc_int ?_ | with_reducible refine wc_intB ?_ | with_reducible refine wc_abs ?_ | with_reducible refine wc_min2 ?_ | with_reducible refine wc_max2 ?_ | with_reducible refine wc_lenScr ?_
  | ((with_reducible refine' wc_len (.cell ?hl) ?_); (case hl => rfl)) | with_reducible refine wc_len .dat ?_ | with_reducible refine wc_lenT ?_
  | with_reducible refine wt_test ?_ | with_reducible refine wt_B ?_ | with_reducible refine wt_not ?_
  | with_reducible refine ws_seq ?_ | with_reducible refine ws_asg ?_ | with_reducible refine ws_ret ?_ | with_reducible refine ws_if ?_ | with_reducible refine ws_par ?_ | with_reducible refine ws_par3 ?_
  | with_reducible refine we_chLL ?_ | with_reducible refine we_chLE ?_ | with_reducible refine we_ng ?_ | with_reducible refine we_notV ?_
  | with_reducible refine ⟨_, rfl, ?_⟩ | with_reducible refine ⟨_, _, rfl, ?_⟩ | with_reducible refine ⟨_, _, _, rfl, ?_⟩ | with_reducible refine ⟨_, _, _, rfl, rfl, ?_⟩)
local macro_rules | `(tactic| walk_at "sx") => `(tactic| repeat (walk_at "s1"))
theorem pure_mix {K : PySem.W.Frag} (vs : List V) (H : Hp) (Q : VK) (E : XK) (h : c_l_law_mix.sp K vs H Q E) : t_l_law_mix K E { nx := fun _ H' => Q .non H', rt := Q } (L2.start N_l_law_mix vs) H := by
  refine Cp.body (N := N_l_law_mix) h fun B i e hp hX hB => ?_
  subst e
  obtain ⟨ds, k, many⟩ := i
  have h0 : 0 ≤ k := hp.2.1
  have h2 : 0 < many := hp.2.2.2
  have hl : ds.length ≤ 4000 := hp.1.len
  unfold t_l_law_mix
  show Ws B _ [some (.dat (nums ds)), some (.dat (.int k)), some (.dat (.int many)), none] [] [] _
  walk_at "sx"
  rw [List.length_map, List.length_map]
  refine ⟨fun hc => ?_, fun hc => ?_⟩
  · have hc := of_decide_eq_true hc
    walk_at "sx"
    rw [List.length_map, List.length_map]
    refine wr_md hc ?_
    have hm := Int.emod_nonneg k (b := (ds.length : Int)) (by omega)
    have hm2 := Int.emod_lt_of_pos k hc
    refine wr_ixl .dat (atI_map _ (atI_map _ (atI_getD 0 hm hm2))) ?_
    have ec : cell ds k = ds.getD (k % (ds.length : Int)).toNat 0 := if_pos (by omega)
    walk_at "sx"
    rw [List.length_map, List.length_map]
    refine ⟨fun h3 => ?_, fun h3 => ?_⟩
    · walk_at "sx"
      refine wr_md h2 (rx_here ⟨_, rfl, ?_⟩)
      show PyData.int _ = PyData.int (mix ds k many)
      rw [mix, if_pos (of_decide_eq_true h3), ec]
    · walk_at "sx"
      refine ws_next ?_
      walk_at "sx"
      refine wr_md h2 (rx_here ⟨_, rfl, ?_⟩)
      show PyData.int _ = PyData.int (mix ds k many)
      rw [mix, if_neg (of_decide_eq_false h3), ec]
  · have hc := of_decide_eq_false hc
    have ec : cell ds k = 0 := if_neg (by omega)
    refine ws_next ?_
    walk_at "sx"
    rw [List.length_map, List.length_map]
    refine ⟨fun h3 => ?_, fun h3 => ?_⟩
    · exact absurd (of_decide_eq_true h3) (by omega)
    · refine ws_next ?_
      walk_at "sx"
      refine wr_md h2 (rx_here ⟨_, rfl, ?_⟩)
      show PyData.int _ = PyData.int (mix ds k many)
      rw [mix, if_neg (of_decide_eq_false h3), ec]
theorem map_snoc (ds : List Int) (z : Int) : (ds.map PyData.int).map SV.dat ++ [.dat (.int z)] = ((ds ++ [z]).map PyData.int).map SV.dat := by simp
theorem mem_snoc {ds : List Int} {z : Int} (h : ∀ d ∈ ds, 0 ≤ d ∧ d < 65536) (hz : 0 ≤ z ∧ z < 65536) : ∀ d ∈ ds ++ [z], 0 ≤ d ∧ d < 65536 := fun d hd => by
  rcases List.mem_append.mp hd with h1 | h1
  · exact h d h1
  · rw [List.mem_singleton.mp h1]; exact hz
theorem line_ge : 100000 ≤ sizeLine := by rw [sizeLine_eq]; decide
theorem pure_draws {K : PySem.W.Frag} (vs : List V) (H : Hp) (Q : VK) (E : XK) (h : c_l_law_draws.sp K vs H Q E) : t_l_law_draws K E { nx := fun _ H' => Q .non H', rt := Q } (L2.start N_l_law_draws vs) H := by
  refine Cp.body (N := N_l_law_draws) h fun B (ns : List Int) e hp hX hB => ?_
  subst e
  have hp : ns.length ≤ 63 := hp
  have LG := line_ge
  unfold t_l_law_draws
  show Ws B _ [some (.scr ns), none, none, none, none, none] [] [] _
  walk_at "sx"
  refine we_lstC (wa_nil ⟨Nat.zero_le _, ?_⟩)
  walk_at "sx"
  refine ws_for1 ?_
  walk_at "sx"
  refine ⟨⟨by split <;> omega, by split <;> omega⟩, fun (i : Nat) (g : Gs) (C : Cs) => ∃ (ds : List Int), ∃ o1 o2 o3 o4, g = [some (.scr ns), some (.ref 0), o1, o2, o3, o4] ∧ C = [some (.lst ((ds.map PyData.int).map .dat))] ∧ (∀ d ∈ ds, 0 ≤ d ∧ d < 65536) ∧ ds.length ≤ 60 * i, ?_, ?_, ?_⟩
  · exact ⟨[], _, _, _, _, rfl, rfl, fun d h => (nomatch h), Nat.zero_le _⟩
  · rintro i g' C' hi ⟨ds, o1, o2, o3, o4, rfl, rfl, hd, hl⟩
    have hi63 : (i : Int) < 63 ∧ (i : Int) < ns.length := by split at hi <;> omega
    walk_at "sx"
    refine wr_ixscr (atI_getD 0 (by omega) (by omega)) ?_
    walk_at "sx"
    generalize ha : (if ns.getD (i : Int).toNat 0 < 0 then -ns.getD (i : Int).toNat 0 else ns.getD (i : Int).toNat 0) = r
    have r0 : 0 ≤ r := by rw [← ha]; split <;> omega
    refine ⟨fun hc => ?_, fun hc => ?_⟩
    · refine ws_for1 ?_
      walk_at "sx"
      refine ⟨⟨by decide, by decide⟩, fun (j : Nat) (g : Gs) (C : Cs) => ∃ (ds : List Int) (r : Int), ∃ o2 o3 o4, g = [some (.scr ns), some (.ref 0), o2, some (.dat (.int r)), o3, o4] ∧ C = [some (.lst ((ds.map PyData.int).map .dat))] ∧ (∀ d ∈ ds, 0 ≤ d ∧ d < 65536) ∧ 0 ≤ r ∧ ds.length ≤ 60 * i + j, ?_, ?_, ?_⟩
      · exact ⟨ds, r, _, _, _, rfl, rfl, hd, r0, by omega⟩
      · rintro j g' C' hj ⟨ds, r, o2, o3, o4, rfl, rfl, hd, r0, hl⟩
        walk_at "sx"
        refine ⟨fun hc => ?_, fun hc => ?_⟩
        · walk_at "sx"
          refine ws_app rfl ⟨_, rfl⟩ ?_
          walk_at "sx"
          refine ⟨by simp only [List.length_map]; omega, ?_⟩
          rw [map_snoc]
          walk_at "sx"
          exact nx_here ⟨_, _, _, _, _, rfl, rfl, mem_snoc hd (by omega), by omega, by rw [List.length_append, List.length_singleton]; omega⟩
        · exact ws_next (nx_here ⟨ds, r, _, _, _, rfl, rfl, hd, r0, by omega⟩)
      · rintro g' C' ⟨ds, r, o2, o3, o4, rfl, rfl, hd, r0, hl⟩
        have hl : ds.length ≤ 60 * i + 60 := hl
        exact nx_here ⟨ds, _, _, _, _, rfl, rfl, hd, by omega⟩
    · walk_at "sx"
      refine ws_app rfl ⟨_, rfl⟩ ?_
      walk_at "sx"
      refine ⟨by simp only [List.length_map]; omega, ?_⟩
      rw [map_snoc]
      walk_at "sx"
      refine ws_app rfl ⟨_, rfl⟩ ?_
      walk_at "sx"
      refine ⟨by simp only [List.length_map, List.length_append, List.length_singleton]; omega, ?_⟩
      rw [map_snoc]
      exact nx_here ⟨_, _, _, _, _, rfl, rfl, mem_snoc (mem_snoc hd (by omega)) (by omega), by simp only [List.length_append, List.length_singleton]; omega⟩
  · rintro g' C' ⟨ds, o1, o2, o3, o4, rfl, rfl, hd, hl⟩
    walk_at "sx"
    refine rx_frz (c := .lst _) rfl (fzn_lst _) (by rw [hB]; exact Nat.zero_le _) ⟨_, rfl, ds, rfl, hd, ?_⟩
    split at hl <;> omega
theorem wk_mix {ex : Addr → Int → Prop} {ds : List Int} {i m : Int} {k : SV → Cs → Prop} {C : Cs} (h1 : Dr ds) (h2 : 0 ≤ i ∧ i < 1000000 ∧ 0 < m) (q : k (.dat (.int (mix ds i m))) C) : Wk c_l_law_mix ex [.dat (nums ds), .dat (.int i), .dat (.int m)] k C :=
  wk_of (c := c_l_law_mix) (ds, i, m) _ rfl ⟨h1, h2.1, h2.2.1, h2.2.2⟩ (fun _ h => h) (fun _ _ h => h) q
theorem wk_mixG {ex : Addr → Int → Prop} {ds : List Int} {i m : Int} {k : SV → Cs → Prop} {C : Cs} (h1 : Dr ds) (h2 : 0 ≤ i ∧ i < 1000000 ∧ 0 < m) (q : ∀ r, 0 ≤ r ∧ r < m → k (.dat (.int r)) C) : Wk c_l_law_mix ex [.dat (nums ds), .dat (.int i), .dat (.int m)] k C :=
  wk_mix h1 h2 (q _ (mix_lt h2.2.2))
theorem wk_draws {ex : Addr → Int → Prop} {ns : List Int} {k : SV → Cs → Prop} {C : Cs} (h : ns.length ≤ 63) (q : ∀ ds, Dr ds → k (.dat (nums ds)) C) : Wk c_l_law_draws ex [.scr ns] k C :=
  ⟨ns, rfl, rfl, h, fun d ⟨ds, e, z⟩ => by rw [e]; exact q ds z, fun _ _ h => absurd h id⟩
end Sy

set_option Elab.async false
set_option linter.all false
set_option maxRecDepth 100000
set_option maxHeartbeats 2000000
namespace Sy
open PySem PySem.Spec PyProof.Rows L2 PySem.W PySem.Calls
/-! ## super().__init__(at), self.at = at: an own exception over ValueError -/
/-- what the written part says of such an __init__ (D: the class that has it) -/
structure SupF (prog : Program) (K : PySem.W.Frag) (qual : Str) (params : Arguments) (body : List Stmt) (scope : Scope) (f : Addr) (fd : FuncData) (D : Addr) : Prop where
  ex : ∃ (oc : Value) (od : Option Addr) (kV doc pm : Value) (an : Option Addr) (cda cc : Addr) (ct : Value) (osl : Array (Option Value)) (ccl cl : Value) (cdd cld : Option Addr) (ccs csl : Array (Option Value)) (vs : Array Value) (file : Str) (tf : Tok) (cdD : ClassData),
    fd = ksFn "__init__" qual params body scope .none kV doc pm an (.ref cda) ct cc ∧ K.lookup f = some ⟨oc, od, .func fd, osl⟩ ∧ codeIn K (.ref cda) qual = true ∧
    K.lookup cda = some ⟨ccl, cdd, .fields vs, ccs⟩ ∧ vs[2]? = some (.str file tf) ∧ ((prog.main.file : Str) == file) = true ∧
    K.lookup cc = some ⟨cl, cld, .cell (some (.ref D)), csl⟩ ∧ clsIn K D = some cdD
/-- .. of a class that is made by it -/
structure SupC (K : PySem.W.Frag) (C D : Addr) : Prop where
  o : OexC K C
  sub : mroIn K C (.ref D) = some true
  sup : ks_superIn K C D "__init__" = some (some (.builtin "ValueError.__init__"))
  ve : subIn K (.ref C) (.type "ValueError") = some true
  at_ : findIn K (.ref C) "at" = some none
/-- what it does -/
def spSup (K : PySem.W.Frag) (D : Addr) : Sp := fun vs H Q _ => ∃ (a C : Addr) (y : V), vs = [.ref a, y] ∧ SupC K C D ∧ H a = some (exo a C none) ∧
  ∀ dx, H dx = none → dx ≠ a → Q .non (upd (upd H dx (exd dx [("at", y)])) a (exo a C (some dx)))
section
variable {prog : Program} {w : World} {A : Around} {E : Value → Shared → Prop} {h : Heap} {g : Array GenState} {d : Drawn} {t : Nat} {os : OsState}
/-- the bound one, called -/
theorem mw_call {u x C t0 : Addr} {rest : List Value} {nm q : Str} {N : Addr} {bs bm : List Value} {hdct : Bool} {sn : List Str} {sub : List Value} {ab : Bool} {col : Option Bool} {dd : Option Addr} {k0 k1 k2 k3 k5 : Option Value} {Q : Value → Shared → Prop}
    (hC : h.get? C = some (excClassObj nm q C N bs bm hdct sn sub ab col dd k0 k1 k2 k3 k5 "ValueError.__new__")) (hu : h.get? u = some (kxs_mw "ValueError.__init__" x)) (hx : h.get? x = some (PySem.HandSPX.excO C t0)) (hz : rest.length ≤ sizeLine)
    (hq : ∀ h' t1, (∀ b o, b ≠ x → h.get? b = some o → h'.get? b = some o) → h'.get? x = some (PySem.HandSPX.excO C t1) → Q .none ⟨h', g, d, t, os⟩) :
    wpAny (model prog w) A (call (.ref u) rest) Q E ⟨h, g, d, t, os⟩ := by
  refine wpAny_call (codeAny_of_tree ?_)
  show wpAny _ A.in1 (callAny (.ref u) ⟨rest, []⟩) _ _ _
  unfold callAny
  refine wpAny_bind (wpAny_load hu ?_)
  have e1 : (Value.type "method-wrapper" == Value.type "method" || Value.type "method-wrapper" == Value.type "builtin_function_or_method" || Value.type "method-wrapper" == Value.type "method-wrapper") = true := by decide
  simp only [kxs_mw, e1, if_true]
  refine KFB.if_so (by decide) (wpAny_bind (check_bound_init PySem.F.excBase_ValueError.toExcCallFacts hC hx rfl (wpAny_bind (wpAny_pure (wpAny_pure ?_)))))
  refine ⟨plainId_quiet PySem.F.excBase_ValueError.init.plain _, codeAny_builtin PySem.F.excBase_ValueError.initEntry ?_⟩
  exact exc_init_tree (cls := .ref C) (t0 := t0) (dv := none) (c2 := .none) (c3 := .none) (b4 := .bool false) hx hz fun h' k e _ => hq h' _ k e
end
section
variable {P : Program} {w : World} {K : PySem.W.Frag} {mg : Str → Option Value} {base : Heap} {CX : CXT} {k : Nat} {qual : Str} {params : Arguments} {scope : Scope} {f D : Addr} {fd : FuncData} {p0 p1 p2 p3 p4 p5 q0 q1 q2 q3 : Pos}
/-- the scope without the class's cell -/
def thin (scope : Scope) : Scope := { scope with names := [("self", .local), ("at", .local)] }
theorem sup_ok (F : SupF P K qual params [.Expr (.Call (.Attribute (.Call (.Name "super" p0) [] [] p1) "__init__" p2) [.Name "at" p3] [] p4) p5, .Assign [.Attribute (.Name "self" q0) "at" q1] (.Name "at" q2) q3] scope f fd D)
    (hk : scope.kind = .function) (hco : scope.isCoroutine = false) (hgen : scope.isGenerator = false) (hcell : ∀ x ∈ scope.names, x.2 ≠ .cell)
    (n1 : scope.names.lookup ("super" : Str) = some .globalImplicit) (n2 : scope.names.lookup ("__class__" : Str) = some .free) (n3 : scope.names.lookup ("self" : Str) = some .local) (n4 : scope.names.lookup ("at" : Str) = some .local)
    (hp : ∃ ar, (params.posonlyargs ++ params.args).head? = some ar ∧ ar.arg = ("self" : Str))
    (htop : (P.main.scope.names.lookup ("super" : Str)).isSome = false) (hsup : mg ("super" : Str) = none) (hany : nsIn K cStatics "thirdparty.any" = some none)
    (hline : (p2.endLine == p4.line) = true) :
    FnOk P w K mg base CX (k + 1) f fd ["self", "at"] (spSup K D) := by
  obtain ⟨oc, od, kV, doc, pm, an, cda, cc, ct, osl, ccl, cl, cdd, cld, ccs, csl, vs0, file, tf, cdD, rfl, lk, hcd, lcode, hvs, hfile, lcell, hD⟩ := F.ex
  refine ⟨fun vs H Q E ⟨a, C, y, e, _⟩ => by rw [e]; rfl, fun A outer s H args us vs Q E hr e0 hb r hsp => ?_⟩
  obtain ⟨a, C, y, rfl, T, ea, hq⟩ := hsp
  obtain ⟨u0, u1, rfl, r0, r1⟩ : ∃ u0 u1, us = [u0, u1] ∧ RelV (V.ref a) u0 ∧ RelV y u1 := by
    cases r with
    | cons r0 rr => cases rr with
      | cons r1 rr => cases rr; exact ⟨_, _, rfl, r0, r1⟩
  obtain rfl : u0 = Value.ref a := r0
  have KX : K.In s.heap := e0.mod.kin.keeps fun b o e => (e0.bs b o e).1
  have lim : s.heap.NoLimit := e0.mod.nolimit.keeps fun b o e => (e0.bs b o e).1
  refine ks_codeAny_call_defAt (binds := [("self", .ref a), ("at", u1)]) hr.depth (KX _ _ lk) rfl lim (codeRec_of KX hcd) rfl hb hcell (fun x hx => ?_) (fun h₀ hns hkp => ?_) hco hgen hk
  · simp only [List.mem_cons, List.not_mem_nil, or_false] at hx
    rcases hx with rfl | rfl
    · exact n3
    · exact n4
  have S : FnScope ["self", "at"] ["self", "at"] (thin scope) := ⟨hk, hco, hgen, by decide, rfl, fun x hx => by
    simp only [List.mem_cons, List.not_mem_nil, or_false] at hx
    rcases hx with rfl | rfl
    · exact .inl rfl
    · exact .inl rfl, fun y hy => by
    have hy : y ∈ [(("self" : Str), NameKind.local), (("at" : Str), NameKind.local)] := hy
    simp only [List.mem_cons, List.not_mem_nil, or_false] at hy
    rcases hy with rfl | rfl <;> decide⟩
  have I0 : Inv (cxOf CX P w K mg base ["self", "at"] qual (thin scope) f (.ref cda) A outer s H E) [] (start ["self", "at"] [V.ref a, y]) H { s with heap := h₀, toks := s.toks + [(("self" : Str), Value.ref a), (("at" : Str), u1)].length } := by
    refine inv_start (us := [.ref a, u1]) S hr.hd e0 rfl (.cons rfl (.cons r1 .nil)) ⟨⟨⟨h₀, _, rfl⟩, ?_, hkp, Nat.le_refl _⟩, ?_, ?_, ?_⟩
    · have e : (bindL (envOfC qual (thin scope) s.heap.objs.size f (.ref cda)).kindOf ([("self" : Str), ("at" : Str)].zip [Value.ref a, u1]) fun _ => none) = fun x => [(("self" : Str), Value.ref a), (("at" : Str), u1)].reverse.lookup x := by
        funext x
        have k1 : (envOfC qual (thin scope) s.heap.objs.size f (.ref cda)).kindOf ("self" : Str) = some .local := rfl
        have k2 : (envOfC qual (thin scope) s.heap.objs.size f (.ref cda)).kindOf ("at" : Str) = some .local := rfl
        show bindL _ [(("self" : Str), Value.ref a), (("at" : Str), u1)] (fun _ => none) x = List.lookup x [(("at" : Str), u1), (("self" : Str), Value.ref a)]
        unfold bindL bindL bindL
        rw [k1, k2, if_pos rfl, if_pos rfl]
        by_cases h1 : x = ("at" : Str)
        · subst h1; simp [List.lookup]
        · have h1' : (x == ("at" : Str)) = false := by simpa using h1
          rw [if_neg h1]
          by_cases h2 : x = ("self" : Str)
          · subst h2; simp [List.lookup, h1']
          · have h2' : (x == ("self" : Str)) = false := by simpa using h2
            rw [if_neg h2]; simp [List.lookup, h1', h2']
      rw [e]
      exact hns
    · intro n c hc
      have z : (cellsFrom (s.heap.objs.size + 1) (thin scope).names []) = [] := rfl
      rw [z] at hc
      cases hc
    · have z : (cellsFrom (s.heap.objs.size + 1) (thin scope).names []) = [] := rfl
      rw [z]
      exact .nil
    · intro n c hc
      have z : (cellsFrom (s.heap.objs.size + 1) (thin scope).names []) = [] := rfl
      rw [z] at hc
      cases hc
  -- super()
  obtain ⟨ar, har, ear⟩ := hp
  have KX0 : K.In h₀ := fun b o e => hkp b o (KX b o e)
  obtain ⟨nm, qq, N, bs, bm, sn, sub, ab, col, dd, k0, k1, k2, k3, k5, hC, hbm⟩ := T.o.cls
  have hcl : clsIn K C = some { name := nm, bases := bs, mro := .ref C :: bm, ns := N, qualname := qq, hasDict := true, slotNames := sn, subclasses := sub, abstract := ab, collection := col, hasDel := false } := by unfold clsIn; rw [hC] <;> rfl
  obtain ⟨t0, hoe⟩ := exo_at I0.hok ea
  obtain ⟨mb, hmb, hblt⟩ := e0.mod.blt
  have kb : ∀ b o, base.get? b = some o → h₀.get? b = some o := fun b o e => hkp b o (e0.bs b o e).1
  obtain ⟨oD, hD1, hD2⟩ : ∃ oD, h₀.get? D = some oD ∧ oD.data = .cls cdD := by
    unfold clsIn at hD
    split at hD
    · rename_i c d cd' sl ho
      cases hD
      exact ⟨_, KX0 _ _ ho, rfl⟩
    · cases hD
  refine ks_wpAt_execs_cons (ks_wpAt_Expr_any (ks_wpAt_MethodCall (pl := plainOf (.Call (.Name "super" p0) [] [] p1) (ksEnv qual scope s.heap.objs.size f (.ref cda) cc)) ?_ ?_) ?_ ?_)
  · refine ks_wpAt_super_base (cc := cda) n1 n2 (by decide) rfl (KX0 _ _ lk) rfl har rfl (KX0 _ _ lcode) rfl hvs hfile htop ?_
    refine ks_loadName_global hk n1 (loadGlobal_builtin (e0.mod.glob.keeps kb) hsup (hmb.keeps kb) ((hblt _ (by decide)).trans (by rfl)) ⟨rfl, ?_⟩)
    refine wpAny_loadName_free hk n2 rfl ⟨_, KX0 _ _ lcell, rfl⟩ ?_
    rw [ear]
    refine wpAny_loadName_local hk n3 hns (by rfl) ?_
    refine ks_wpAny_isType_cls hD1 hD2 ⟨rfl, ?_⟩
    refine ks_wpAny_call_super hD1 hD2 hoe rfl (fun c e => by cases e) (looks_mroIn KX0 T.sub) (fun h1 hso k1 => ?_)
    have X1 : K.In h1 := fun b o e => k1 b o (KX0 b o e)
    have hoe1 := k1 _ _ hoe
    have I1 : InstAt h1 a { cls := .ref C, dict := none, data := .fields #[.ref t0, .none, .none, .none, .bool false, .none] } C none := ⟨hoe1, rfl, rfl, trivial⟩
    refine kxs_getMethod kxs_ValueError hso (looks_opaque X1 hany) (fun A Q E s k q => wpAny_bind ((looks_clsIn X1 hcl) A _ E s k (wpAny_pure q))) rfl X1 ?_ (I1.type.andThen (looks_subIn X1 T.ve)) (ks_ne X1 I1 hcl) (by decide) ?_
    · have z := T.sup
      unfold ks_superIn at z
      rw [hcl] at z
      exact z
    have hns1 : (h1.push (kxs_mw "ValueError.__init__" a)).Ns s.heap.objs.size (fun x => [(("self" : Str), Value.ref a), (("at" : Str), u1)].reverse.lookup x) := hns.keeps fun b o e => Heap.get?_push_of_some _ (k1 b o e)
    have e1 : starEach [Expr.Name "at" p3] (ksEnv qual scope s.heap.objs.size f (.ref cda) cc) = [(false, eval (.Name "at" p3) (ksEnv qual scope s.heap.objs.size f (.ref cda) cc))] := rfl
    show wpAny _ _ (callWith p4 (.ref h1.objs.size) [] (backTo p4 (starEach [Expr.Name "at" p3] (ksEnv qual scope s.heap.objs.size f (.ref cda) cc))) []) _ _ _
    rw [e1]
    refine kxs_callWith (i := "ValueError.__init__") (x := a) rfl (evalArgs_plain ?_)
    show wpAny _ _ (spliced ((false, eval (.Name "at" p3) (ksEnv qual scope s.heap.objs.size f (.ref cda) cc)) :: [])) _ _ _
    refine Calls.spliced_cons (wpAny_Name (wpAny_loadName_local hk n4 hns1 (by rfl) (Calls.spliced_nil ⟨Heap.get?_push_size _ rfl, ?_⟩)) (by decide))
    have k2 : ∀ b o, h₀.get? b = some o → (h1.push (kxs_mw "ValueError.__init__" a)).get? b = some o := fun b o e => Heap.get?_push_of_some _ (k1 b o e)
    refine mw_call (x := a) (C := C) (t0 := t0) (k2 _ _ (KX0 _ _ hC)) (Heap.get?_push_size _ rfl) (k2 _ _ hoe) (len_ok rfl) fun h' t1 k3 hx => ?_
    have I2 := I0.kept (t' := s.toks) (h' := h1.push (kxs_mw "ValueError.__init__" a)) k2
    have J := I2.write (t' := s.toks + [(("self" : Str), Value.ref a), (("at" : Str), u1)].length + 1) (x := a) (e := a) (o := exo a C none) (by rw [ea]; exact True.intro) (.inl rfl) k3 ⟨_, hx⟩ (exo_ok hx)
    have eu : upd H a (exo a C none) = H := by
      funext b
      by_cases hb : b = a
      · rw [hb, upd_same, ea]
      · rw [upd_ne hb]
    rw [eu] at J
    have hns2 : h'.Ns s.heap.objs.size (fun x => [(("self" : Str), Value.ref a), (("at" : Str), u1)].reverse.lookup x) := by
      obtain ⟨oL, es, ep, e1, e2⟩ := hns1
      exact ⟨oL, es, ep, k3 _ _ (fun z => by
        have := J.free
        have z2 : (cxOf CX P w K mg base ["self", "at"] qual (thin scope) f (.ref cda) A outer s H E).env.locals = s.heap.objs.size := rfl
        rw [z2, z, ea] at this
        cases this) e1, e2⟩
    refine ks_wpAt_execs_cons (ks_wpAt_Assign_Attr ?_ ?_)
    · refine wpAt_of_wpAny (wpAny_Name ?_ (by decide))
      refine wpAny_loadName_local hk n4 hns2 (by rfl) ?_
      refine wpAny_Name ?_ (by decide)
      refine wpAny_loadName_local hk n3 hns2 (by rfl) ?_
      exact ost_new T.o J ea T.at_ r1 fun dx s' n ne J2 => wpAt_of_wpAny (wpAny_pure ⟨.non, _, J2.os, J2.bare, J2.base, J2.hok, rfl, hq dx n ne⟩)
    · rfl
  · show (attributeBase (.Call (.Name "super" p0) [] [] p1) "__init__" (ksEnv qual scope s.heap.objs.size f (.ref cda) cc) (eval (.Call (.Name "super" p0) [] [] p1) (ksEnv qual scope s.heap.objs.size f (.ref cda) cc)) >>= fun ov => standAt p2.atName >>= fun _ =>
        methodCall (.Call (.Name "super" p0) [] [] p1) "__init__" p2 p4 (ksEnv qual scope s.heap.objs.size f (.ref cda) cc) ov 1 (backTo p4 (starEach [Expr.Name "at" p3] (ksEnv qual scope s.heap.objs.size f (.ref cda) cc))) []) = _
    refine congrArg _ (funext fun ov => congrArg _ (funext fun _ => ?_))
    exact mcall_line (by rfl) hline
  · unfold interactive
    show (scope.kind == .module && _) = false
    rw [hk]; rfl
  · rfl
end
end Sy

set_option Elab.async false
set_option linter.all false
set_option maxRecDepth 100000
set_option maxHeartbeats 2000000
namespace Sy
open PySem PySem.Spec PyProof.Rows L2 PySem.W PySem.Calls
/-! ## these facts, decided -/
def clsB (K : PySem.W.Frag) (C : Addr) : Bool := match K.lookup C with
  | some ⟨.type "type", _, .cls cd, sl⟩ => (match cd.mro, sl.toList with
    | .ref c :: bm, [_, _, _, _, some (.builtin n), _] => decide (c = C) && (decide (n = "ValueError.__new__") && (!cd.hasDel && (cd.hasDict && PySem.HandSPX.refsVE bm)))
    | _, _ => false)
  | _ => false
theorem clsB_ok {K : PySem.W.Frag} {C : Addr} (q : clsB K C = true) : ∃ nm q N bs bm sn sub ab col dd k0 k1 k2 k3 k5, K.lookup C = some (excClassObj nm q C N bs bm true sn sub ab col dd k0 k1 k2 k3 k5 "ValueError.__new__") ∧ PySem.HandSPX.refsVE bm = true := by
  unfold clsB at q
  split at q
  · rename_i dd cd sl ho
    split at q
    · rename_i c bm a0 a1 a2 a3 n a5 hm hs
      simp only [Bool.and_eq_true, decide_eq_true_eq, Bool.not_eq_true'] at q
      obtain ⟨rfl, rfl, hdel, hdict, hv⟩ := q
      obtain ⟨nm, bs, mro, ns, qn, hd, sn, sb, ab, col, del⟩ := cd
      dsimp only at hm hdel hdict
      subst hm hdel hdict
      refine ⟨nm, qn, ns, bs, bm, sn, sb, ab, col, dd, a0, a1, a2, a3, a5, ?_, hv⟩
      rw [ho]
      have e : sl = #[a0, a1, a2, a3, some (.builtin "ValueError.__new__"), a5] := by
        rw [← hs]
      rw [e]
    · cases q
  · cases q
def supCB (K : PySem.W.Frag) (C D fI : Addr) : Bool := clsB K C && (decide (findIn K (.ref C) "__setattr__" = some (some (.builtin "object.__setattr__"))) && (decide (subIn K (.ref C) (.type "BaseException") = some true) && (decide (typeIn K (.ref C) = some (.type "type")) && (keepIn K (.ref C) &&
  (decide (mroIn K C (.ref D) = some true) && (decide (ks_superIn K C D "__init__" = some (some (.builtin "ValueError.__init__"))) && (decide (subIn K (.ref C) (.type "ValueError") = some true) && (decide (findIn K (.ref C) "at" = some none) &&
  (decide (findIn K (.ref C) "__init__" = some (some (.ref fI))) && decide (typeIn K (.ref fI) = some (.type "function")))))))))))
structure ExcC (K : PySem.W.Frag) (C D fI : Addr) : Prop where
  s : SupC K C D
  ini : findIn K (.ref C) "__init__" = some (some (.ref fI))
  fn : typeIn K (.ref fI) = some (.type "function")
theorem supCB_ok {K : PySem.W.Frag} {C D fI : Addr} (q : supCB K C D fI = true) : ExcC K C D fI := by
  unfold supCB at q
  simp only [Bool.and_eq_true, decide_eq_true_eq] at q
  obtain ⟨a, b, c, d, e, f, g, h, i, j, k⟩ := q
  exact ⟨⟨⟨clsB_ok a, b, c, d, e⟩, f, g, h, i⟩, j, k⟩
/-- the text of the __init__ of the class named D -/
abbrev SupV : Type := Option (Str × Str × Arguments × FuncBody × Scope × Addr × Addr × List Str)
def supV (K : PySem.W.Frag) (x : Str) : SupV := match K.lookup (He.fAd K (x, some "__init__")) with
  | some ⟨_, _, .func fd, _⟩ => some (fd.name, fd.qualname, fd.params, fd.body, fd.scope, fd.globals, fd.builtins, fd.closure.map (·.1))
  | _ => none
def supB (K : PySem.W.Frag) (file : Str) (x : Str) : Bool := match K.lookup (He.fAd K (x, some "__init__")) with
  | some ⟨_, _, .func fd, _⟩ => (match fd.code, fd.closure, fd.defaults with
    | .ref cda, [(_, cc)], .none => codeIn K (.ref cda) fd.qualname && ((match K.lookup cda with
      | some ⟨_, _, .fields vs, _⟩ => (match (vs[2]? : Option Value) with
        | some (Value.str fl _) => decide (fl = file)
        | _ => false)
      | _ => false) && ((match K.lookup cc with
      | some ⟨_, _, .cell (some (.ref D)), _⟩ => decide (D = He.ga K x)
      | _ => false) && (clsIn K (He.ga K x)).isSome))
    | _, _, _ => false)
  | _ => false
theorem sup_of {prog : Program} {K : PySem.W.Frag} {x qual : Str} {params : Arguments} {body : List Stmt} {scope : Scope} (e : supV K x = some (("__init__" : Str), qual, params, FuncBody.stmts body, scope, mainGlobals, builtinsNs, [("__class__" : Str)])) (q : supB K prog.main.file x = true) :
    ∃ fd, SupF prog K qual params body scope (He.fAd K (x, some "__init__")) fd (He.ga K x) := by
  unfold supV at e
  unfold supB at q
  cases hl : K.lookup (He.fAd K (x, some "__init__")) with
  | none => rw [hl] at e; cases e
  | some o =>
    obtain ⟨oc, od, dt, osl⟩ := o
    rw [hl] at e q
    cases dt with
    | func fd =>
      obtain ⟨nm, qn, pr, bd, sc, gl, cl, dV, kV, doc, pm, an, cdv, ct, bl⟩ := fd
      simp only [Option.some.injEq, Prod.mk.injEq] at e
      obtain ⟨rfl, rfl, rfl, rfl, rfl, rfl, rfl, ecl⟩ := e
      dsimp only at q
      split at q
      · rename_i cda y cc
        have ey : y = "__class__" := by simpa using ecl
        subst ey
        simp only [Bool.and_eq_true] at q
        obtain ⟨q1, q2, q3, q4⟩ := q
        split at q2
        · rename_i ccl cdd vs ccs hcd
          split at q2
          · rename_i fl tf hv
            split at q3
            · rename_i cl1 cld D csl hcc
              have eD := of_decide_eq_true q3
              have ef := of_decide_eq_true q2
              subst eD ef
              cases hD : clsIn K (He.ga K x) with
              | none => rw [hD] at q4; cases q4
              | some cdD => exact ⟨_, oc, od, kV, doc, pm, an, cda, cc, ct, osl, ccl, cl1, cdd, cld, ccs, csl, vs, _, tf, cdD, rfl, hl, q1, hcd, hv, by simp, hcc, hD⟩
            · cases q3
          · cases q2
        · cases q2
      · cases q
    | _ => cases e
/-! ## a Hook that tells the __init__'s text, too; the interpreter's statics stand in its fragment -/
def fragS (n : Nat) (g : Addr → Option Obj) : PySem.W.Frag := He.frT g (PySem.cStatics :: He.asD g n)
abbrev AlS : Type := He.AlD × (Bool × SupV)
def obsS (n : Nat) (fa : List He.Fa) (fn : List He.DefD) (ex : PySem.W.Frag → Bool) (x : Str) (g : Addr → Option Obj) : AlS := (He.obsD fa fn (fragS n g), ex (fragS n g), supV (fragS n g) x)
def hookS (n : Nat) (fa : List He.Fa) (fn : List He.DefD) (ex : PySem.W.Frag → Bool) (x : Str) (v : SupV) : PySem.W.Hook where
  α := AlS
  obs := fun s => obsS n fa fn ex x s.heap.get?
  val := fun _ => (He.valD fn, true, v)
  says := fun _ h => ∃ K : PySem.W.Frag, K.In h ∧ He.SaysD fa fn K ∧ ex K = true ∧ supV K x = v
  of := fun _ _ e => ⟨_, He.frT_in, congrArg (fun z : AlS => z.1) e, congrArg (fun z : AlS => z.2.1) e, congrArg (fun z : AlS => z.2.2) e⟩
  keeps := fun _ _ _ ⟨K, hK, c, m, v⟩ k => ⟨K, PySem.W.Frag.In.keeps hK k, c, m, v⟩
theorem obsS_eq {n : Nat} {fa : List He.Fa} {fn : List He.DefD} {ex : PySem.W.Frag → Bool} {x : Str} {v : SupV} {g : Addr → Option Obj} {s : Shared} (h : ∀ a, g a = s.heap.get? a) : obsS n fa fn ex x g = (hookS n fa fn ex x v).obs s := by
  obtain rfl : g = s.heap.get? := funext h
  rfl
theorem sup_binds {K : PySem.W.Frag} {qual : Str} {params : Arguments} {body : List Stmt} {scope : Scope} {f D : Addr} {fd : FuncData} {prog : Program} (F : SupF prog K qual params body scope f fd D)
    (h : ∀ (kV doc pm : Value) (an : Option Addr) (cdv ct : Value) (cc : Addr) (us : List Value), us.length = 2 → bindArgs (ksFn "__init__" qual params body scope .none kV doc pm an cdv ct cc) ⟨us, []⟩ = pure ([("self" : Str), ("at" : Str)].zip us)) : Binds K fd ["self", "at"] [] := by
  obtain ⟨oc, od, kV, doc, pm, an, cda, cc, ct, osl, ccl, cl, cdd, cld, ccs, csl, vs0, file, tf, cdD, rfl, _⟩ := F.ex
  exact .all fun us hl => h kV doc pm an (.ref cda) ct cc us hl
end Sy

set_option Elab.async false
set_option linter.all false
set_option maxRecDepth 100000
set_option maxHeartbeats 2000000
namespace Sy
open PySem L2
/-- raise C(e): the reading; what leaves goes to W -/
def tRaise (CC : Addr) (sp : Sp) (ta : TA) (W : WX) : TS := fun _ σ H => tMkO CC sp [] ta σ H fun cls d H' => W cls d σ H'
section
variable {B : Bs} {g : Gs} {S : List SV} {C : Cs} {kk : Ks} {ta : TA}
theorem ws_raise {CC D : Addr} {E : XK} {ex : Addr → Int → Prop} (hX : Xk B E ex) (T : SupC B.K CC D) (h : Wa B ta g S C fun ss _ => ∃ n, ss = [.dat (.int n)] ∧ ex CC n) : Ws B (tRaise CC (spSup B.K D) ta fun cls d _ H => E cls d H) g S C kk := fun σ vs H Dn R d =>
  h σ vs H _ R fun ss C1 us H1 ⟨n, e, hx⟩ l R1 => by
    subst e
    obtain ⟨u, rfl, R2⟩ := R1.one l
    obtain rfl := R2.top_int
    obtain ⟨F, ρ, R3⟩ := R2
    refine ⟨Nat.le_of_ble_eq_true rfl, fun a ha => ⟨a, CC, .int n, rfl, T, upd_same, fun dx hdx hne => ⟨rfl, dx, [("at", .int n)], upd_same, ?_, ?_, ?_⟩⟩⟩
    · rw [upd_ne hne, upd_same]
    · rw [upd_ne hne] at hdx
      exact hdx
    · rw [upd_ne hne] at hdx
      refine hX CC n dx [("at", .int n)] _ hx (fun b o e k => ?_) upd_same (by rfl)
      have z := R3.keep b o e k
      have n1 : b ≠ a := ne_of_none z ha
      have n2 : b ≠ dx := ne_of_none z hdx
      rw [upd_ne n2, del_ne n1, upd_ne n1, upd_ne n2, upd_ne n1]
      exact z
end
/-! the walk's rule -/
section
variable {X : Cx} {x : Str} {CC D fI : Addr} {k : Nat} {fd : FuncData} {W : WX} {e : Expr} {es : List Expr} {ta : TA} {p pos rpos : Pos}
theorem ps_raiseC (hc : X.calm = true) (tk : Takes X W) (T : ExcC X.K CC D fI) (F : FnOk X.prog X.w X.K X.mg X.base (L2.CX X.prog X.w) k fI fd ["self", "at"] (spSup X.K D)) (hb : Binds X.K fd ["self", "at"] []) (hr : Room (k + 1) X.A) (hg : Gl X x) (hm : X.mg x = some (.ref CC)) (hx : Passes (L2.CX X.prog X.w) X (fun _ _ _ => False)) (ha : PA X (e :: es) ta)
    (hdb : (x == ("__debug__" : Str)) = false := by decide) (he : starEach (e :: es) X.env = (false, eval e X.env) :: starEach es X.env := by rfl) (hpl : (backTo pos (starEach es X.env)).any (·.1) = false := by rfl) :
    PS X (.Raise (some (.Call (.Name x p) (e :: es) [] pos)) none rpos) (tRaise CC (spSup X.K D) ta W) := ps_raise hc tk (pmk_oex T.s.o T.ini T.fn F hr hb .nil hx hg hm ha hdb he hpl)
end
end Sy

set_option Elab.async false
set_option linter.all false
set_option maxRecDepth 100000
set_option maxHeartbeats 2000000
namespace Sy
open PySem L2
/-- the body of a def, with what is frozen at its entry -/
theorem Cp.bodyX {K : PySem.W.Frag} {c : Cp} {vs : List V} {H : Hp} {Q : VK} {E : XK} {N : List Str} {t : TS} (h : c.sp K vs H Q E)
    (hb : ∀ (B : Bs) (i : c.ι), B.K = K → c.pre i → Xk B E (c.exc i) → B.n0 = 0 → Le B.F0 B.H0 →
      Ws B t ((c.args i).map some ++ List.replicate (N.length - (c.args i).length) none) [] [] ⟨fun _ _ => c.post i .none, fun s _ => ∃ d, s = .dat d ∧ c.post i d, fun _ _ => False, fun _ _ => False⟩) :
    t { nx := fun _ H' => Q .non H', rt := Q } (L2.start N vs) H := by
  obtain ⟨i, F, hp, hF, hc, ha, hq, he⟩ := h
  have hl := Paired.length ha
  refine hb ⟨K, H, F, 0, fun _ => 0⟩ i rfl hp (fun cls n dd fs H' x k a b => he cls n dd fs H' x (fun b o e => k b o e fun j hj => absurd hj (Nat.not_lt_zero j)) a b) rfl hF (L2.start N vs) [] H _ ⟨F, fun _ => 0, hF, fun _ _ e => e, fun b o e _ => e, fun b e => e, fun b o e => .inl e, fun i hi => absurd hi (Nat.not_lt_zero i), Nat.zero_le _, fun i j c d e => by simp at e, fun i c e => by simp at e, ?_, fun i s e => ?_, .nil⟩ ⟨fun g C σ H' q R => ?_, fun s C v H' q R => ?_, fun _ _ _ _ q _ => q.elim, fun _ _ _ _ q _ => q.elim⟩
  · unfold L2.start
    rw [List.length_append, List.length_append, List.length_map, List.length_map, hl, List.length_replicate, List.length_replicate]
  · exact start_slot ha e
  · obtain ⟨F', ρ', R⟩ := R
    exact hq .none .non F' H' q R.sub R.le (fun b o e => R.keep b o e fun j hj => absurd hj (Nat.not_lt_zero j)) (fun b o e => by
      rcases R.frz b o e with z | z | ⟨j, hj, _⟩
      · exact .inl z
      · exact .inr z
      · exact absurd hj (Nat.not_lt_zero j)) .non
  · obtain ⟨d, e, q⟩ := q
    subst e
    obtain ⟨F', ρ', R, hd⟩ := R.top
    exact hq d v F' H' q R.sub R.le (fun b o e => R.keep b o e fun j hj => absurd hj (Nat.not_lt_zero j)) (fun b o e => by
      rcases R.frz b o e with z | z | ⟨j, hj, _⟩
      · exact .inl z
      · exact .inr z
      · exact absurd hj (Nat.not_lt_zero j)) hd
section
variable {B : Bs} {g : Gs} {S : List SV} {C : Cs} {kk : Ks}
/-- nothing is known but what stood at the entry -/
theorem rel_bare {v : V} {d : D} {H' : Hp} (hn : B.n0 = 0) (hF : Le B.F0 B.H0) (hk : ∀ b o, B.H0 b = some o → H' b = some o) (h : scS v = some d) : Rel B [] [.dat d] [] [] [v] H' := by
  refine ⟨B.F0, B.r0, fun b o e => hk b o (hF b o e), fun _ _ e => e, fun b o e _ => hk b o e, fun b e => ?_, fun b o e => .inl e, fun _ _ => rfl, by rw [hn]; exact Nat.zero_le _, fun i j c d e => by simp at e, fun i c e => by simp at e, rfl, fun i s e => by simp at e, .cons (scS_is h) .nil⟩
  cases q : B.H0 b with
  | none => rfl
  | some o => rw [hk b o q] at e; cases e
/-- try: .. except CC as x: return x.at -/
theorem ws_tryAt {CC : Addr} {i : Nat} {tb : WX → TS} {Wout : WX} (exb : Addr → Int → Prop) (hn : B.n0 = 0) (hF : Le B.F0 B.H0) (hi : i < g.length) (hm : PySem.W.exmOne B.K (.ref CC) (.ref CC) = some true) (hc : ∀ cls n, exb cls n → cls = CC) (hr : ∀ n, exb CC n → kk.rt (.dat (.int n)) [])
    (h : ∀ W : WX, (∀ (cls : Addr) (n : Int) (dd : Addr) (fs : List (Str × V)) (σ : St) (H' : Hp), exb cls n → (∀ b o, B.H0 b = some o → H' b = some o) → H' dd = some (.xd fs) → fs.lookup ("at" : Str) = some (.int n) → σ.length = g.length → W (.ref cls) (some dd) σ H') → Ws B (tb W) g S C kk) :
    Ws B (fun D σ H => tb (wAs B.K (.ref CC) i (fun a cls d => tRet (tXf a cls d CC "at" (tVar i))) Wout D) D σ H) g S C kk := fun σ vs H D R d => by
  refine h _ (fun cls n dd fs σ' H' x k e l hl => ?_) σ vs H D R d
  obtain rfl := hc cls n x
  refine ⟨true, hm, fun _ a _ => ?_, fun z => by cases z⟩
  refine ⟨.ref a, ?_, rfl, rfl, dd, fs, .int n, rfl, e, l, ?_⟩
  · exact List.getElem?_set_self (by rw [hl]; exact hi)
  · exact d.rt _ [] _ _ (hr n x) (rel_bare hn hF k rfl)
end
end Sy

set_option Elab.async false
set_option linter.all false
set_option maxRecDepth 100000
set_option maxHeartbeats 2000000
namespace Sy
open PySem PySem.Spec PyProof.Rows L2
/-- the clauses 'except x as n' one after the other -/
def wAsMany (K : PySem.W.Frag) (Wout : WX) (D : Ends) : List (Value × Nat × (Addr → Value → Option Addr → TS)) → WX
  | [] => Wout
  | (c, i, ts) :: r => wAs K c i ts (wAsMany K Wout D r) D
inductive HdsAs (X : Cx) : List ExceptHandler → List (Value × Nat × (Addr → Value → Option Addr → TS)) → Prop
  | nil : HdsAs X [] []
  | cons {x n : Str} {c : Value} {i : Nat} {ts : Addr → Value → Option Addr → TS} {b₀ : Stmt} {suite : List Stmt} {np pos' : Pos} {hds : List ExceptHandler} {l : List (Value × Nat × (Addr → Value → Option Addr → TS))}
      (hi : X.N[i]? = some n) (hln : X.env.kindOf n = some .local) (hc : Names X x c)
      (hsu : ∀ (a : Addr) (oe : Obj) (cls : Value) (d : Option Addr) (pn : List (Addr × Obj)), Zc cls d oe → (∃ vs, oe.data = .fields vs) → PSs (X.suite a ((a, oe) :: pn)) (b₀ :: suite) (ts a cls d)) (r : HdsAs X hds l) :
      HdsAs X (.ExceptHandler (some (.Name x np)) (some n) (b₀ :: suite) pos' :: hds) ((c, i, ts) :: l)
section
variable {X : Cx} {body : List Stmt} {h₀ : ExceptHandler} {hds : List ExceptHandler} {l : List (Value × Nat × (Addr → Value → Option Addr → TS))} {pos : Pos} {tb : WX → TS} {Wout : WX}
theorem ps_try_manyAs (hs : X.stack = X.env :: X.outer) (hf : X.env.frame = some X.env.locals) (hN : X.N.Nodup) (tk : Takes X Wout)
    (hb : ∀ (W : WX) (pn : List (Addr × Obj)) (xe : Value → Shared → Prop), Takes (X.tr pn xe) W → PassesOwn (model X.prog X.w) X.A X.env xe → PSs (X.tr pn xe) body (tb W))
    (hh : HdsAs X (h₀ :: hds) l) : PS X (.Try body (h₀ :: hds) [] [] pos) (fun D σ H => tb (wAsMany X.K Wout D l) D σ H) := by
  refine ⟨fun pins s σ H D I h => ?_⟩
  have ok := I.ok
  have hfr : X.A.frames = some (X.env :: X.outer) := by rw [ok.frames, hs]
  refine wpAny_Try_except ?_
  refine wpAny_mono ((hb (wAsMany X.K Wout D l) (X.pn ++ pins) (fun e s₁ => wpAny (model X.prog X.w) X.A (noteFrame e X.env) (fun _ s₂ => wpAny (model X.prog X.w) X.A (setFlight e none) (fun _ s₃ =>
    wpAny (model X.prog X.w) X.A (handleBy e X.env (h₀ :: hds)) (SP X pins D) X.xe s₃) X.xe s₂) X.xe s₁) (fun u s' xx => ?_) PassesOwn.looking).run [] s σ H D (I.toTry _) h) (fun f s1 hsp => ?_) (fun e s1 he => he)
  · -- the catch
    obtain ⟨a, B, sI, pins', σ', H', cls, d, rfl, J', nb, up, sky, na, os, ag, w⟩ := xx
    have J : Inv X pins σ' H' sI := J'.ofTry ok
    have sky' : Sky B (X.env :: X.outer) a (Zc cls d) X.env.locals s'.heap := by rw [← hs]; exact sky
    show wpAny (model X.prog X.w) X.A (noteFrame (.ref a) X.env) _ _ _
    refine Sky.land Zc.steady hfr hf sky' fun h3 fl3 up3 => ?_
    have J3 : Inv X pins σ' H' { s' with heap := h3 } := J.landed nb fl3.1 (up.trans up3) os ag
    obtain ⟨oe3, vs3, he3, hz3, hd3⟩ := fl3.there
    have notFr : ∀ {h : Heap} {o : Obj} {vs : Array Value}, h.FunFrames B (X.env :: X.outer) → h.get? a = some o → o.data = .fields vs → a ∉ frs (X.env :: X.outer) := fun {h o vs} ff e dd hm => by
      obtain ⟨_, o', e', hnf⟩ := ff.mem hm
      rw [e] at e'; cases e'
      exact hnf _ dd
    have nfr := notFr fl3.2.2.1 he3 hd3
    have nL : a ≠ X.env.locals := fun z => nfr (List.mem_filterMap.mpr ⟨X.env, List.mem_cons_self, by rw [hf, z]⟩)
    have nF : a ∉ X.fs := fun hm => by
      obtain ⟨e, he, q⟩ := List.mem_filterMap.mp hm
      exact nfr (List.mem_filterMap.mpr ⟨e, List.mem_cons_of_mem _ he, q⟩)
    have S3 := J3.suite he3 hd3 na nL nF
    have go : ∀ {hds' : List ExceptHandler} {l' : List (Value × Nat × (Addr → Value → Option Addr → TS))}, HdsAs X hds' l' → wAsMany X.K Wout D l' cls d σ' H' →
        wpAny (model X.prog X.w) X.A (handleBy (.ref a) X.env hds') (SP X pins D) X.xe { s' with heap := h3 } := by
      intro hds' l' hk
      induction hk with
      | nil =>
        intro w
        refine wpAny_handleBy_nil ?_
        obtain ⟨k1, k2, k3, oe, vs, T, oT, ts', he, hz, hd, h1, hr⟩ := id fl3
        unfold PySem.passOn
        refine wpAny_bind (wpAny_field he hd h1 ?_)
        rw [if_neg (show ¬ ((Value.ref T == Value.none) = true) from by simp)]
        have fin : wpAny (model X.prog X.w) X.A (setFlight (.ref a) X.env.frame) (fun _ s4 => wpAny (model X.prog X.w) X.A (throw (.ref a) : Sem Flow) (SP X pins D) X.xe s4) X.xe { s' with heap := h3 } := by
          rw [hf]
          refine HandSPX.setFlight_upZ fl3 fun h4 hh4 up4 => wpAny_throw (tk _ _ ?_)
          exact ⟨a, B, sI, pins, σ', H', cls, d, rfl, J, nb, (up.trans up3).trans up4, .inr (.inr (by rw [hs]; exact hh4)), na, os, ag, w⟩
        first
          | exact wpAny_bind (wpAny_pure (wpAny_bind fin))
          | exact wpAny_bind fin
      | @cons x n c i ts b₀ suite np pos' hds2 l2 hi hln hc hsu r ih =>
        intro w
        obtain ⟨b, hb1, hyes, hno⟩ := w
        have hloc : Loc X.env.scope n := .inl hln
        refine wpAny_handleBy_cons (codeAny_handlers_test ?_) (by intro q; cases q)
        have LT : PySem.W.Looks (model X.prog X.w) h3 (typeOf (.ref a)) cls := fun A Q E s k q => wpAny_typeOf_ref (k _ _ he3) (by rw [hz3.1]; exact q)
        have LM := PySem.W.exm_one (M := model X.prog X.w) (J3.kIn) LT hb1
        have test : ∀ {Q : Value → Shared → Prop} {E : Value → Shared → Prop}, Q c { s' with heap := h3 } → wpAny (model X.prog X.w) (X.A.mark (some (.ref a))) (eval (.Name x np) X.env) Q E { s' with heap := h3 } := fun {Q E} q => by
          obtain ⟨hg, hdbg, hm | ⟨hm, hv, hnn⟩⟩ := hc
          · exact ld_glob (X := X.suite a ((a, oe3) :: (X.pn ++ pins))) S3 hg hm q hdbg
          · exact ld_blt (X := X.suite a ((a, oe3) :: (X.pn ++ pins))) S3 hg hm hv q hnn hdbg
        refine test (LM.here ?_)
        cases b with
        | true =>
          refine codeAny_handlers_suite_as ?_
          refine HandSPX.lands_againZ fl3 fun h4 fl4 up4 => ?_
          have J4 : Inv X pins σ' H' { s' with heap := h4 } := J.landed nb fl4.1 ((up.trans up3).trans up4) os ag
          obtain ⟨oe4, vs4, he4, hz4, hd4⟩ := fl4.there
          have S4 := J4.suite he4 hd4 na nL nF
          refine store_ok (X := X.suite a ((a, oe4) :: (X.pn ++ pins))) (v := .ref a) S4 hN hi hloc rfl (fun s5 S5 => ?_) (.inr hln)
          refine wpAny_mono ((hsu a oe4 cls d (X.pn ++ pins) hz4 ⟨_, hd4⟩).run [] s5 _ H' _ S5 (hyes rfl a na)) (fun f s6 hsp => ?_) (fun _ _ z => False.elim z)
          have end_ : ∀ {σ6 : L2.St} {H6 : Hp} {Q : Shared → Prop}, Inv (X.suite a ((a, oe4) :: (X.pn ++ pins))) [] σ6 H6 s6 → (∀ s7, Inv X pins (σ6.set i none) H6 s7 → Q s7) →
              wpAny (model X.prog X.w) X.A (do bindName X.env n .none; unbindBehindTheSuite X.env n pos') (fun _ s7 => Q s7) X.xe s6 := fun {σ6 H6 Q} S6 hq => gone_ok (S6.unsuite ok) hN hi hln hq
          cases f with
          | next =>
            obtain ⟨σ6, H6, S6, q6⟩ := hsp
            exact end_ S6 fun s7 J7 => ⟨_, _, J7, q6⟩
          | brk =>
            obtain ⟨σ6, H6, S6, q6⟩ := hsp
            exact end_ S6 fun s7 J7 => ⟨_, _, J7, q6⟩
          | cont =>
            obtain ⟨σ6, H6, S6, q6⟩ := hsp
            exact end_ S6 fun s7 J7 => ⟨_, _, J7, q6⟩
          | ret u =>
            obtain ⟨v6, σ6, H6, S6, r6, q6⟩ := hsp
            exact end_ S6 fun s7 J7 => ⟨_, _, _, J7, r6, q6⟩
        | false =>
          show wpAny _ X.A (handleBy (.ref a) X.env hds2) _ _ _
          exact ih (hno rfl)
    exact go hh w
  · cases f with
    | next =>
      obtain ⟨σ', H', J', q⟩ := hsp
      exact wpAny_execs_nil ⟨σ', H', J'.ofTry ok, q⟩
    | brk =>
      obtain ⟨σ', H', J', q⟩ := hsp
      exact ⟨σ', H', J'.ofTry ok, q⟩
    | cont =>
      obtain ⟨σ', H', J', q⟩ := hsp
      exact ⟨σ', H', J'.ofTry ok, q⟩
    | ret u =>
      obtain ⟨v, σ', H', J', r, q⟩ := hsp
      exact ⟨v, σ', H', J'.ofTry ok, r, q⟩
end
end Sy

set_option Elab.async false
set_option linter.all false
set_option maxRecDepth 100000
set_option maxHeartbeats 2000000
namespace Sy
open PySem L2
/-- 'except C as x: return x.at' -/
abbrev clA (C : Addr) (i : Nat) : Value × Nat × (Addr → Value → Option Addr → TS) := (.ref C, i, fun a cls d => tRet (tXf a cls d C "at" (tVar i)))
/-- 'except C as x: return (w, x.at)' -/
abbrev clW (C : Addr) (i : Nat) (w : Str) : Value × Nat × (Addr → Value → Option Addr → TS) := (.ref C, i, fun a cls d => tRet (tTup (tCons (tC (.str w)) (tCons (tXf a cls d C "at" (tVar i)) tNil))))
/-- which clause takes it -/
inductive Hit (K : PySem.W.Frag) (P : SV → Cs → Prop) (m : Nat) : List (Value × Nat × (Addr → Value → Option Addr → TS)) → Addr → Int → Prop
  | hereA {C : Addr} {i : Nat} {r : List (Value × Nat × (Addr → Value → Option Addr → TS))} {n : Int} (hm : PySem.W.exmOne K (.ref C) (.ref C) = some true) (hi : i < m) (h : P (.dat (.int n)) []) : Hit K P m (clA C i :: r) C n
  | hereW {C : Addr} {i : Nat} {w : Str} {r : List (Value × Nat × (Addr → Value → Option Addr → TS))} {n : Int} (hm : PySem.W.exmOne K (.ref C) (.ref C) = some true) (hi : i < m) (h : P (.dat (.tuple [.str w, .int n])) []) : Hit K P m (clW C i w :: r) C n
  | next {c : Value} {i : Nat} {ts : Addr → Value → Option Addr → TS} {r : List (Value × Nat × (Addr → Value → Option Addr → TS))} {C : Addr} {n : Int} (hm : PySem.W.exmOne K (.ref C) c = some false) (h : Hit K P m r C n) : Hit K P m ((c, i, ts) :: r) C n
section
variable {B : Bs} {g : Gs} {S : List SV} {C : Cs} {kk : Ks}
theorem rel_bare2 {v w : V} {d e : D} {H' : Hp} (hn : B.n0 = 0) (hF : Le B.F0 B.H0) (hk : ∀ b o, B.H0 b = some o → H' b = some o) (h : scS v = some d) (h2 : scS w = some e) {p : Addr} (hp : H' p = none) : Rel B [] [.dat (.tuple [d, e])] [] [] [.ref p] (upd H' p (.tup [v, w])) := by
  obtain ⟨F, ρ, R⟩ := rel_bare hn hF hk h
  obtain ⟨R0, _⟩ := R.pop
  obtain ⟨R4, L⟩ := R0.lay (o := .tup [v, w]) hp
  exact ⟨_, ρ, R4.push (.tup (SqT.of upd_same) (.cons (scS_is h) (.cons (scS_is h2) .nil)))⟩
theorem hit_run {l : List (Value × Nat × (Addr → Value → Option Addr → TS))} {cls : Addr} {n : Int} {Wout : WX} {D : Ends} {σ : St} {H' : Hp} {dd : Addr} {fs : List (Str × V)} {vs : List V} (hn : B.n0 = 0) (hF : Le B.F0 B.H0) (d : Dk B S vs kk D)
    (k : ∀ b o, B.H0 b = some o → H' b = some o) (e : H' dd = some (.xd fs)) (lk : fs.lookup ("at" : Str) = some (.int n)) {m : Nat} (hl : σ.length = m) (h : Hit B.K kk.rt m l cls n) : wAsMany B.K Wout D l (.ref cls) (some dd) σ H' := by
  induction h with
  | @hereA C i r n hm hi h =>
    refine ⟨true, hm, fun _ a _ => ?_, fun z => by cases z⟩
    refine ⟨.ref a, ?_, rfl, rfl, dd, fs, .int n, rfl, e, lk, ?_⟩
    · exact List.getElem?_set_self (by rw [hl]; exact hi)
    · exact d.rt _ [] _ _ h (rel_bare hn hF k rfl)
  | @hereW C i w r n hm hi h =>
    refine ⟨true, hm, fun _ a _ => ?_, fun z => by cases z⟩
    refine ⟨.ref a, ?_, rfl, rfl, dd, fs, .int n, rfl, e, lk, ?_⟩
    · exact List.getElem?_set_self (by rw [hl]; exact hi)
    · refine ⟨len_ok rfl, fun p hp => ?_⟩
      exact d.rt _ [] _ _ h (rel_bare2 hn hF k rfl rfl hp)
  | @next c i ts r C n hm h ih => exact ⟨false, hm, (fun z => by cases z), fun _ => ih lk⟩
/-- try: .. with clauses that have names -/
theorem ws_tryL {tb : WX → TS} {Wout : WX} {l : List (Value × Nat × (Addr → Value → Option Addr → TS))} (exb : Addr → Int → Prop) (hn : B.n0 = 0) (hF : Le B.F0 B.H0) (hh : ∀ cls n, exb cls n → Hit B.K kk.rt g.length l cls n)
    (h : ∀ W : WX, Xk B (XA g.length W) exb → Ws B (tb W) g S C kk) : Ws B (fun D σ H => tb (wAsMany B.K Wout D l) D σ H) g S C kk := fun σ vs H D R d => by
  refine h _ (fun cls n dd fs H' x k e l σ' hl => ?_) σ vs H D R d
  exact hit_run hn hF d (fun b o e => k b o e fun j hj => absurd hj (by rw [hn]; exact Nat.not_lt_zero j)) e l hl (hh cls n x)
end
end Sy

set_option Elab.async false
set_option linter.all false
set_option maxRecDepth 100000
set_option maxHeartbeats 3200000
namespace Sy
open PySem PySem.Spec PyProof.Rows L2
section
variable {P : Program} {w : World} {A : Around} {E : Value → Shared → Prop} {s : Shared}
theorem call_set_listI {l : Addr} {items : Array Value} (ns : List Int) {Q : Value → Shared → Prop} (hh : A.handled = none) (hl : s.heap.IsList l items) (hit : IntsAre items.toList ns) (hb : ns.length + 1 < scanBound)
    (h : ∀ (h' : Heap) (tk c : Nat), SetR w h' s.heap.objs.size (fun j => decide (j ∈ ns)) c → c ≤ ns.length → (∀ b o, s.heap.get? b = some o → h'.get? b = some o) → Q (.ref s.heap.objs.size) { s with heap := h', toks := tk }) :
    wpAny (model P w) A (call (.type "set") [.ref l]) Q E s := by
  have hisz : items.size = ns.length := by
    have q := IntsAre.length hit
    rw [Array.length_toList] at q
    exact q
  obtain ⟨c, tl, hmro⟩ := F.called_set.mro
  have hmade := F.called_set.made
  have hsub := F.called_set.sub
  refine wpAny_call (codeAny_of_tree ?_)
  show wpAny _ _ (callAny (.type "set") _) _ _ _
  refine wpAny_pure ⟨Code.quiet_builtin _ (by decide +kernel), codeAny_builtin F.entry_type_call ?_⟩
  rw [Around.under_plain (weight_type_call_type "set" [.ref l] []) rfl]
  have h1 := F.called_set.notType
  have h2 := F.called_set.canCreate
  have hct := F.typeCall_set_1 (.ref l)
  repeat (any_goals (first | assumption | wp_step))

  refine codeAny_mono (code_set_led1 (.ref l) (E := E) (Q₁ := fun obj s₁ => obj = .ref s.heap.objs.size ∧ s₁ = { s with heap := s.heap.push { cls := .type "set", dict := none, data := .set #[] 0 (.fresh 0 0 (!w.params.followText "set-order")) } }) ⟨rfl, rfl⟩) fun r s₁ hr => ?_
  cases r with
  | error e => exact hr
  | ok fl =>
    cases fl with
    | ret obj =>
      obtain ⟨rfl, rfl⟩ := hr
      have hS : (s.heap.push { cls := .type "set", dict := none, data := .set #[] 0 (.fresh 0 0 (!w.params.followText "set-order")) }).get? s.heap.objs.size = some { cls := .type "set", dict := none, data := .set #[] 0 (.fresh 0 0 (!w.params.followText "set-order")) } := Heap.get?_push_size _ rfl
      have hT : Shared.TypeIs { s with heap := s.heap.push { cls := .type "set", dict := none, data := .set #[] 0 (.fresh 0 0 (!w.params.followText "set-order")) } } (.ref s.heap.objs.size) "set" := ⟨_, hS, rfl⟩
      have hli := F.called_set.init.lookup
      have hbi := F.called_set.init.bind (.ref s.heap.objs.size)
      repeat (any_goals (first | assumption | wp_step))

      refine codeAny_mono (codeAny_call_builtin (R := wants (fun r s₂ => r = .none ∧ ∃ h' tk c, s₂ = { s with heap := h', toks := tk } ∧ SetR w h' s.heap.objs.size (fun j => decide (j ∈ ns)) c ∧ c ≤ ns.length ∧
          (∀ b o, s.heap.get? b = some o → h'.get? b = some o)) E) F.called_set.init.plain F.entry_set_init (check_set_init_1 hT ?_)) fun r₂ s₂ hr₂ => ?_
      · obtain ⟨ol, hol, hcl, nl, hdl⟩ := hl
        obtain ⟨ocls, odict, odata, oslots⟩ := ol
        simp only at hcl hdl
        subst hcl; subst hdl
        have hol' : (s.heap.push { cls := .type "set", dict := none, data := .set #[] 0 (.fresh 0 0 (!w.params.followText "set-order")) }).get? l = some { cls := .type "list", dict := odict, data := .seq items nl, slots := oslots } := Heap.get?_push_of_some _ hol
        have hsls := F.sub_list_set
        have hslf := F.sub_list_frozenset
        have hne : (Value.type "list" == Value.type "dict") = false := by decide
        have hl1 : (s.heap.push { cls := .type "set", dict := none, data := .set #[] 0 (.fresh 0 0 (!w.params.followText "set-order")) }).IsList l items := ⟨_, hol', rfl, nl, rfl⟩
        unfold Builtin.«set.__init__» noKeywords Builtin.Frozenset.updateFrom
        generalize hPI : pyIter = PI
        wp_walk
        subst hPI

        refine wpAny_pyIter_list hl1 ?_
        refine wpAny_bind (wpAny_runValue ?_)
        have hlS : l < s.heap.objs.size := Heap.lt_size hol
        have hh3 : A.in1.in1.in1.handled = none := by simp [hh]
        have hz1 : (s.heap.push { cls := .type "set", dict := none, data := .set #[] 0 (.fresh 0 0 (!w.params.followText "set-order")) }).objs.size = s.heap.objs.size + 1 := Heap.size_push ..
        have hneI : l ≠ (s.heap.push { cls := .type "set", dict := none, data := .set #[] 0 (.fresh 0 0 (!w.params.followText "set-order")) }).objs.size := by
          rw [Heap.size_push]; exact Nat.ne_of_lt (Nat.lt_succ_of_lt hlS)
        have hSf : s.heap.objs.size ∉ [(s.heap.push { cls := .type "set", dict := none, data := .set #[] 0 (.fresh 0 0 (!w.params.followText "set-order")) }).objs.size, l] := by
          rw [Heap.size_push]; simp only [List.mem_cons, List.mem_singleton, List.not_mem_nil, or_false, not_or]
          exact ⟨Nat.ne_of_lt (Nat.lt_succ_self _), Nat.ne_of_gt hlS⟩
        have hval : ∀ (i : Nat) (v : Value), items[i]? = some v → ∃ k t, ns[i]? = some k ∧ v = .int k t := fun i v hv => by
          have hi : i < ns.length := by rw [← hisz]; exact (Array.getElem?_eq_some_iff.mp hv).1
          obtain ⟨t, e⟩ := PyProof.Rows.IntsAre.int_at hit i v (by rw [Array.getElem?_toList]; exact hv)
          refine ⟨ns[i], t, List.getElem?_eq_getElem hi, ?_⟩
          rw [e, List.getD_eq_getElem?_getD, List.getElem?_eq_getElem hi] <;> rfl
        refine set_update_ints ((Walks.list hh3 _ l hneI items).toS) s.heap.objs.size
          hSf ns hisz hb hval (items.size - 0) 0 _ (by omega) (Nat.zero_le _)
          ⟨⟨_, Heap.get?_push_size _ rfl, rfl, rfl⟩, (hl1.push _)⟩ ?hS0 ?hR
        case hS0 =>
          have hget : ((s.heap.push { cls := .type "set", dict := none, data := .set #[] 0 (.fresh 0 0 (!w.params.followText "set-order")) }).push { cls := .type "list_iterator", data := .fields #[.ref l, .int 0 0] }).get? s.heap.objs.size
              = some { cls := .type "set", dict := none, data := .set #[] 0 (.fresh 0 0 (!w.params.followText "set-order")) } := Heap.get?_push_of_some _ hS
          exact ⟨0, Nat.le_refl 0, setR_new_at hget⟩
        case hR =>
          intro s' c' hm hc' hS'
          obtain ⟨h', g2, d', tk', os'⟩ := s'
          have eg : g2 = s.gens := hm.gens
          have ed : d' = s.drawn := hm.drawn
          have eo : os' = s.os := hm.os
          subst eg; subst ed; subst eo
          show wpAny _ _ _ _ _ _
          refine wpAny_pure ?_
          show wpAny _ _ (ret Value.none) _ _ _
          rw [hisz] at hc'
          refine wpAny_pure ⟨rfl, h', tk', c', rfl, hS', hc', fun b o e => ?_⟩
          have hb0 : b < s.heap.objs.size := Heap.lt_size e
          have hb1 : b ≠ s.heap.objs.size := Nat.ne_of_lt hb0
          have hb2 : b ≠ (s.heap.push { cls := .type "set", dict := none, data := .set #[] 0 (.fresh 0 0 (!w.params.followText "set-order")) }).objs.size := by
            rw [Heap.size_push]; exact Nat.ne_of_lt (Nat.lt_succ_of_lt hb0)
          exact hm.heap b o (by simp only [List.mem_cons, List.mem_singleton, List.not_mem_nil, or_false, not_or]; exact ⟨hb1, hb2⟩) (Heap.get?_push_of_some _ (Heap.get?_push_of_some _ e))

      · cases r₂ with
        | error e => exact hr₂
        | ok fl₂ =>
          cases fl₂ with
          | ret r =>
            obtain ⟨rfl, h', tk, c', rfl, hS', hc', hk'⟩ := hr₂
            repeat (any_goals (first | assumption | wp_step))
            exact h _ _ _ hS' hc' hk'
          | _ => exact hr₂.elim
    | _ => exact hr.elim
end
end Sy

set_option Elab.async false
set_option linter.all false
set_option maxRecDepth 100000
set_option maxHeartbeats 3200000
namespace Sy
open PySem PySem.Spec PyProof.Rows L2
theorem keys_of_set {w : World} {h : Heap} {a : Addr} {ns : List Int} {c : Nat} (R : SetR w h a (fun j => decide (j ∈ ns)) c) : ∃ ms : List Int, ms.Nodup ∧ (∀ k, k ∈ ms ↔ k ∈ ns) ∧ ms.length = c := by
  obtain ⟨o, es, ep, t, ho, hex, hd, g, nd, hm, hb, hf, hn, hr, hl⟩ := R
  refine ⟨es.toList.map keyOf, nd, fun k => ?_, by rw [List.length_map, Array.length_toList]; exact hn⟩
  have := hm k
  simp only [decide_eq_true_eq] at this
  first | exact this | exact this.symm
/-- len(set(xs)), xs a list of ints -/
def tLenSetU (K : PySem.W.Frag) (ta : TE) : TE := fun σ H Q => ta σ H fun x H1 => ∃ (l : Addr) (ns : List Int), x = .ref l ∧ SqL K H1 l (ns.map V.int) ∧ ns.length ≤ 4000 ∧ ∀ ms : List Int, ms.Nodup → (∀ k, k ∈ ms ↔ k ∈ ns) → Q (.int (ms.length : Nat)) H1
theorem pe_lenSetL {X : Cx} {a : Expr} {ta : TE} {p p2 q pos : Pos} (hg : Gl X "len") (hm : X.mg "len" = none) (hg2 : Gl X "set") (hm2 : X.mg "set" = none) (ha : PE X a ta) (hc : X.calm = true := by rfl)
    (na : starEach [a] X.env = (false, eval a X.env) :: starEach [] X.env := by rfl) : PE X (.Call (.Name "len" p) [.Call (.Name "set" p2) [a] [] q] [] pos) (tLenSetU X.K ta) := by
  refine ⟨fun pins s σ H Q I h => ?_⟩
  refine Call_ (ld_blt I hg hm boot_len ?_)
  refine PyProof.Rows.callWith_builtin1 (PyProof.Rows.args_cons ?_ rfl) rfl rfl
  refine Call_ (ld_blt I hg2 hm2 boot_set ?_)
  refine PyProof.Rows.callWith_type1 (PyProof.Rows.args_cons (thn (ha.run pins s σ H _ I h) fun v s1 ⟨x, H1, I1, r1, q1⟩ => PyProof.Rows.args_nil ?_) na) na rfl
  obtain ⟨l, ns, rfl, hq, hl, q1⟩ := q1
  cases r1
  obtain ⟨its, r, pl, hz⟩ := I1.list hq
  refine call_set_listI ns (I1.ok.hd hc) pl.isList (by simpa using RZ.intsAre_vals r) (by unfold scanBound; omega) fun h' tk c hS hcl hk => ?_
  refine PyProof.Rows.args_nil ?_
  have I2 : Inv X pins σ H1 { s1 with heap := h', toks := tk } := I1.kept fun b o e => hk b o e
  obtain ⟨ms, m1, m2, m3⟩ := keys_of_set hS
  obtain ⟨o, es, ep, t, ho, hex, hd, g, nd, hm, hb, hf, hn, hr, hl'⟩ := hS
  exact call_len_set ho hex hd hf (by rw [hn]; omega) ⟨.int ms.length, H1, I2.tok _, ⟨_, by rw [hn, m3]⟩, q1 ms m1 m2⟩
/-- sorted(set(xs)), xs a list of ints, fewer than 64 unlike ones -/
def tSortedSet (K : PySem.W.Frag) (ta : TE) : TE := fun σ H Q => ta σ H fun x H1 => ∃ (l : Addr) (ns : List Int), x = .ref l ∧ SqL K H1 l (ns.map V.int) ∧ ns.length ≤ 4000 ∧ (∀ ms : List Int, ms.Nodup → (∀ k, k ∈ ms ↔ k ∈ ns) → ms.length < 64) ∧
  ∀ (ms : List Int) (p : Addr), ms.Pairwise (· < ·) → (∀ k, k ∈ ms ↔ k ∈ ns) → H1 p = none → Q (.ref p) (upd H1 p (.lst (ms.map V.int)))
theorem pe_sortedSet {X : Cx} {a : Expr} {ta : TE} {p p2 q pos : Pos} (hg : Gl X "sorted") (hm : X.mg "sorted" = none) (hg2 : Gl X "set") (hm2 : X.mg "set" = none) (ha : PE X a ta) (hc : X.calm = true := by rfl)
    (na : starEach [a] X.env = (false, eval a X.env) :: starEach [] X.env := by rfl) : PE X (.Call (.Name "sorted" p) [.Call (.Name "set" p2) [a] [] q] [] pos) (tSortedSet X.K ta) := by
  refine ⟨fun pins s σ H Q I h => ?_⟩
  refine Call_ (ld_blt I hg hm (show bootBuiltins ("sorted" : Str) = some (.builtin "sorted") by decide +kernel) ?_)
  refine PyProof.Rows.callWith_builtin1 (PyProof.Rows.args_cons ?_ rfl) rfl rfl
  refine Call_ (ld_blt I hg2 hm2 boot_set ?_)
  refine PyProof.Rows.callWith_type1 (PyProof.Rows.args_cons (thn (ha.run pins s σ H _ I h) fun v s1 ⟨x, H1, I1, r1, q1⟩ => PyProof.Rows.args_nil ?_) na) na rfl
  obtain ⟨l, ns, rfl, hq, hl, h64, q1⟩ := q1
  cases r1
  obtain ⟨its, r, pl, hz⟩ := I1.list hq
  refine call_set_listI ns (I1.ok.hd hc) pl.isList (by simpa using RZ.intsAre_vals r) (by unfold scanBound; omega) fun h' tk c hS hcl hk => ?_
  refine PyProof.Rows.args_nil ?_
  have fin : ∀ s2 : Shared, Inv X pins σ H1 s2 → SetR X.w s2.heap s1.heap.objs.size (fun j => decide (j ∈ ns)) c → wpAny (model X.prog X.w) X.A (call (.builtin "sorted") [.ref s1.heap.objs.size]) (EP X pins σ Q) X.xe s2 := fun s2 I2 hS => by
    obtain ⟨ms, m1, m2, m3⟩ := keys_of_set hS
    refine sorted_set hS (I2.ok.hd hc) (by have := h64 ms m1 m2; omega) fun s' p out c ns' k g o hp hgp hi hs hm hl2 => ?_
    have hlen : (ns'.map V.int).length ≤ sizeLine := by rw [List.length_map, hl2, sizeLine_eq]; have := h64 ms m1 m2; omega
    have hn : H1 p = none := I2.hok.fresh hp
    have J : Inv X pins σ (upd H1 p (.lst (ns'.map V.int))) { s2 with heap := s'.heap, gens := s'.gens, drawn := s'.drawn, toks := s'.toks } :=
      I2.call (ch := []) (Un.laid k hp hn) (I2.hok.laid k hp ⟨hlen, out.toList, c, vals_of_ints hi, hgp⟩) (by rw [g]; exact I2.bare) (fun _ z => nomatch z)
    have e : s' = { s2 with heap := s'.heap, gens := s'.gens, drawn := s'.drawn, toks := s'.toks } := by
      cases s'
      cases s2
      cases o
      rfl
    rw [e]
    exact ⟨.ref p, _, J, rfl, q1 ns' p hs (fun k => by have := hm k; simpa using this) hn⟩
  exact fin _ (I1.kept fun b o e => hk b o e) hS
end Sy

set_option Elab.async false
set_option linter.all false
set_option maxRecDepth 100000
set_option maxHeartbeats 2000000
namespace Sy
open PySem PySem.Spec PyProof.Rows L2
/-! ## sum(lists, list) -/
def catI (val : Nat → Array Value) (i : Nat) : Nat → Array Value
  | 0 => #[]
  | k + 1 => val i ++ catI val (i + 1) k
section
variable {prog : Program} {w : World} {A : Around} {R : Result → Shared → Prop}
theorem sum_loopL (hh : A.handled = none) {I ax S : Addr} {items : Array Value} (hne : ax ≠ I) (hSI : S ≠ I) (hSa : S ≠ ax) (val : Nat → Array Value) (base : Heap)
    (hval : ∀ i v, items[i]? = some v → ∃ b c, v = .ref b ∧ IsL base b (val i) c ∧ b ≠ I ∧ b ≠ S) :
    ∀ (k i : Nat) (s : Shared) (t : Addr) (its : Array Value) (nt c : Nat), items.size - i = k → i ≤ items.size → (s.heap.IsListIter I ax i ∧ s.heap.IsList ax items) → (∀ b o, b ≠ I → b ≠ S → base.get? b = some o → s.heap.get? b = some o) →
      s.heap.get? S = some { cls := .type "list", dict := none, data := .seq #[.ref t] c, slots := #[] } → IsL s.heap t its nt → t ≠ I → t ≠ S → its.size + (catI val i k).size ≤ sizeLine →
      (∀ h' tk t' nt', (∀ b o, b ≠ I → b ≠ S → s.heap.get? b = some o → h'.get? b = some o) → IsL h' t' (its ++ catI val i k) nt' → (k = 0 → t' = t) → (0 < k → s.heap.objs.size ≤ t') → R (.ok (.ret (.ref t'))) { s with heap := h', toks := tk }) →
      codeAny (model prog w) A (.builtin "sum.loop" ⟨[.ref I, .ref S, rawInt 2, rawInt 0], []⟩) R s := by
  have hh1 : A.in1.handled = none := by simp [hh]
  intro k
  induction k with
  | zero =>
    intro i s t its nt c hk hi hst hb hS hT htI htS hz hR
    have hin : i = items.size := by omega
    subst hin
    refine codeAny_builtin F.entry_sum_loop ?_
    rw [Around.under_plainId F.plain_sum_loop _]
    show wpAny _ A.in1 (seqItems? (.ref S) >>= _) _ _ s
    refine wpAny_bind (wpAny_seqItems hS rfl ?_)
    show wpAny _ A.in1 (tryCatch (pyNext (.ref I)) _ >>= _) _ _ s
    refine wpAny_bind (wpAny_tryCatch (wpAny_pyNext_list_end hh1 hst.1 hst.2 (by simp) fun h' he' => ?_))
    refine wpAny_pure (hR h' s.toks t nt (fun b o b1 _ e => he' b o b1 e) ?_ (fun _ => rfl) (fun z => absurd z (Nat.lt_irrefl _)))
    have := he' t _ htI hT
    simpa [catI] using this
  | succ k ih =>
    intro i s t its nt c hk hi hst hb hS hT htI htS hz hR
    have hlt : i < items.size := by omega
    refine codeAny_builtin F.entry_sum_loop ?_
    rw [Around.under_plainId F.plain_sum_loop _]
    show wpAny _ A.in1 (seqItems? (.ref S) >>= _) _ _ s
    refine wpAny_bind (wpAny_seqItems hS rfl ?_)
    show wpAny _ A.in1 (tryCatch (pyNext (.ref I)) _ >>= _) _ _ s
    refine wpAny_bind (wpAny_tryCatch (wpAny_pyNext_list_item hst.1 hst.2 (x := items[i]) (by simp [hlt]) fun h' hit' hs' => ?_))
    obtain ⟨b, cb, ev, hB, hbI, hbS⟩ := hval i items[i] (by simp [hlt])
    rw [ev]
    have hz2 : its.size + (val i).size + (catI val (i + 1) k).size ≤ sizeLine := by
      have e : (catI val i (k + 1)).size = (val i).size + (catI val (i + 1) k).size := by simp [catI]
      omega
    have hS' := hs'.extBut S _ hSI hS
    have hT' : IsL h' t its nt := hs'.extBut t _ htI hT
    have hB' : IsL h' b (val i) cb := hs'.extBut b _ hbI (hb b _ hbI hbS hB)
    have hIlt : I < h'.objs.size := by obtain ⟨_, e, _⟩ := hit'; exact Heap.lt_size e
    have hSlt : S < h'.objs.size := Heap.lt_size hS'
    show wpAny _ A.in1 ((holding [Value.ref b] (binaryOp .Add (.ref t) (.ref b))).attempt >>= _) _ _ _
    refine wpAny_bind (wpAny_attempt (wpAny_holding (PySem.P.add_list hT' hB' ?_ (by omega))))
    show wpAny _ A.in1 (updateSeq S (fun _ => #[.ref h'.objs.size]) >>= _) _ _ _
    have hS1 : (h'.push { cls := .type "list", data := .seq (its ++ val i) }).get? S = some { cls := .type "list", dict := none, data := .seq #[.ref t] c, slots := #[] } := Heap.get?_push_of_some _ hS'
    refine wpAny_bind (wpAny_updateSeq hS1 rfl ?_)
    have hS2 := Heap.get?_update_self (Obj.mapSeq fun _ => #[Value.ref h'.objs.size]) hS1 rfl
    refine wpAny_bind (wpAny_letGo ?_)
    refine wpAny_bind (wpAny_updateSeq hS2 rfl (wpAny_pure ⟨plainId_quiet F.plain_sum_loop _, ?_⟩))
    have hS3 := Heap.get?_update_self (Obj.mapSeq fun _ => #[Value.ref h'.objs.size]) hS2 rfl
    have oth : ∀ x o, x ≠ S → (h'.push { cls := .type "list", data := .seq (its ++ val i) }).get? x = some o → (((h'.push { cls := .type "list", data := .seq (its ++ val i) }).update S (Obj.mapSeq fun _ => #[Value.ref h'.objs.size])).update S (Obj.mapSeq fun _ => #[Value.ref h'.objs.size])).get? x = some o :=
      fun x o h e => (Heap.get?_update_other _ _ (Ne.symm h)).trans ((Heap.get?_update_other _ _ (Ne.symm h)).trans e)
    have grow : ∀ x o, x ≠ I → x ≠ S → s.heap.get? x = some o → (((h'.push { cls := .type "list", data := .seq (its ++ val i) }).update S (Obj.mapSeq fun _ => #[Value.ref h'.objs.size])).update S (Obj.mapSeq fun _ => #[Value.ref h'.objs.size])).get? x = some o :=
      fun x o h1 h2 e => oth x o h2 (Heap.get?_push_of_some _ (hs'.extBut x o h1 e))
    refine ih (i + 1) _ h'.objs.size (its ++ val i) 0 _ (by omega) hlt ⟨?_, ?_⟩ (fun x o h1 h2 e => grow x o h1 h2 (hb x o h1 h2 e)) hS3 (oth _ _ (Nat.ne_of_gt hSlt) (Heap.get?_push_size _ rfl)) (Nat.ne_of_gt hIlt) (Nat.ne_of_gt hSlt) (by simp only [Array.size_append]; omega) ?_
    · exact hit'.at fun o e => oth I o (Ne.symm hSI) (Heap.get?_push_of_some _ e)
    · exact (hst.2.extBut hs'.extBut hne).at fun o e => oth ax o (Ne.symm hSa) (Heap.get?_push_of_some _ e)
    · intro h2 tk t' nt' k1 k2 k3 k4
      have hsz : s.heap.objs.size ≤ h'.objs.size := by rw [hs'.1]; exact Nat.le_refl _
      refine hR h2 tk t' nt' (fun x o h1 h3 e => k1 x o h1 h3 (grow x o h1 h3 e)) ?_ (fun z => by cases z) (fun _ => ?_)
      · have e : its ++ catI val i (k + 1) = its ++ val i ++ catI val (i + 1) k := by simp [catI, Array.append_assoc]
        rw [e]; exact k2
      · cases k with
        | zero => rw [k3 rfl]; exact hsz
        | succ k =>
          have := k4 (Nat.succ_pos _)
          refine Nat.le_trans hsz (Nat.le_trans ?_ this)
          simp only [Heap.size_update, Heap.size_push]
          omega
end
theorem args_sum2 (a b : Value) : argsOk "sum" ⟨[a, b], []⟩ := by unfold argsOk; kernel_rfl
section
variable {prog : Program} {w : World} {A : Around} {E : Value → Shared → Prop} {s : Shared}
theorem call_sum_lists (hh : A.handled = none) {l t0 : Addr} {items its : Array Value} {nt : Nat} {Q : Value → Shared → Prop} (hl : s.heap.IsList l items) (ht : IsL s.heap t0 its nt) (val : Nat → Array Value)
    (hval : ∀ i v, items[i]? = some v → ∃ b c, v = .ref b ∧ IsL s.heap b (val i) c) (hz : its.size + (catI val 0 items.size).size ≤ sizeLine)
    (h : ∀ h' tk t' nt', (∀ b o, s.heap.get? b = some o → h'.get? b = some o) → IsL h' t' (its ++ catI val 0 items.size) nt' → (items.size = 0 → t' = t0) → (0 < items.size → s.heap.objs.size ≤ t') → Q (.ref t') { s with heap := h', toks := tk }) :
    wpAny (model prog w) A (call (.builtin "sum") [.ref l, .ref t0]) Q E s := by
  refine call_function_tree F.kind_sum F.plain_sum F.entry_sum (args_sum2 _ _) ?_
  unfold Builtin.«sum»
  simp only [List.length_cons, List.length_nil]
  rw [if_neg (by decide)]
  refine wpAny_bind (wpAny_of_eq (show Builtin.Builtins.bindParams "sum" ["start"] 0 ⟨[.ref t0], []⟩ = pure [some (.ref t0)] from rfl) ?_)
  refine wpAny_bind (wpAny_pyIter_list hl ?_)
  refine wpAny_bind (wpAny_pure ?_)
  have ht1 : IsL (s.heap.push { cls := .type "list_iterator", data := .fields #[.ref l, .int 0 0] }) t0 its nt := Heap.get?_push_of_some _ ht
  have hty : Shared.TypeIs { s with heap := s.heap.push { cls := .type "list_iterator", data := .fields #[.ref l, .int 0 0] } } (.ref t0) "list" := ⟨_, ht1, rfl⟩
  simp only [List.forIn_cons, List.forIn_nil]
  refine wpAny_bind (wpAny_bind (wpAny_bind (wpAny_isInstance (T := "list") (b := false) hty F.sub_list_str ?_)))
  simp only [Bool.false_eq_true, if_false]
  refine wpAny_pure (wpAny_bind (wpAny_bind (wpAny_isInstance (T := "list") (b := false) hty F.sub_list_bytes ?_)))
  simp only [Bool.false_eq_true, if_false]
  refine wpAny_pure (wpAny_bind (wpAny_bind (wpAny_isInstance (T := "list") (b := false) hty F.sub_list_bytearray ?_)))
  simp only [Bool.false_eq_true, if_false]
  refine wpAny_pure (wpAny_pure ?_)
  refine wpAny_bind (wpAny_newObj_type ?_)
  have z1 : (s.heap.push { cls := .type "list_iterator", data := .fields #[.ref l, .int 0 0] }).objs.size = s.heap.objs.size + 1 := Heap.size_push ..
  have hll : l < s.heap.objs.size := by obtain ⟨o, e, _⟩ := hl; exact Heap.lt_size e
  have htl : t0 < s.heap.objs.size := Heap.lt_size ht
  refine wpAny_pure ⟨plainId_quiet F.plain_sum_loop _, sum_loopL (I := s.heap.objs.size) (ax := l) (S := (s.heap.push { cls := .type "list_iterator", data := .fields #[.ref l, .int 0 0] }).objs.size) (items := items) hh (Nat.ne_of_lt hll) (by rw [z1]; exact Nat.succ_ne_self _) (by rw [z1]; exact Nat.ne_of_gt (Nat.lt_succ_of_lt hll)) val s.heap
    (fun i v e => ?_) items.size 0 _ t0 its nt 0 (by omega) (Nat.zero_le _) ⟨⟨_, Heap.get?_push_of_some _ (Heap.get?_push_size _ rfl), rfl, rfl⟩, (hl.push _).push _⟩ (fun b o _ _ e => Heap.get?_push_of_some _ (Heap.get?_push_of_some _ e)) (Heap.get?_push_size _ rfl) (Heap.get?_push_of_some _ ht1) (Nat.ne_of_lt htl) (by rw [z1]; exact Nat.ne_of_lt (Nat.lt_succ_of_lt htl)) hz ?_⟩
  · obtain ⟨b, c, e1, e2⟩ := hval i v e
    have hb := Heap.lt_size e2
    exact ⟨b, c, e1, e2, Nat.ne_of_lt hb, by rw [z1]; exact Nat.ne_of_lt (Nat.lt_succ_of_lt hb)⟩
  · intro h' tk t' nt' k1 k2 k3 k4
    refine h h' tk t' nt' (fun b o e => ?_) k2 k3 (fun z => ?_)
    · have hb := Heap.lt_size e
      exact k1 b o (Nat.ne_of_lt hb) (by rw [z1]; exact Nat.ne_of_lt (Nat.lt_succ_of_lt hb)) (Heap.get?_push_of_some _ (Heap.get?_push_of_some _ e))
    · refine Nat.le_trans ?_ (k4 z)
      simp only [Heap.size_push]
      omega
end
theorem catI_getD : ∀ (vals : List (Array Value)) (pre : List (Array Value)), catI (fun i => (pre ++ vals).getD i #[]) pre.length vals.length = (vals.map Array.toList).flatten.toArray := by
  intro vals
  induction vals with
  | nil => intro pre; simp [catI]
  | cons a r ih =>
    intro pre
    have := ih (pre ++ [a])
    simp only [List.length_cons, catI]
    rw [show pre ++ a :: r = pre ++ [a] ++ r by simp, show pre.length + 1 = (pre ++ [a]).length by simp, this]
    have e : (pre ++ [a] ++ r).getD pre.length #[] = a := by simp
    rw [e]
    simp
/-- sum(xs, ys) of a list of lists and a list -/
def rSumL : List V → Hp → VK → Prop := fun vs H Q => ∃ (l t0 : Addr) (ws xs0 : List V) (xss : List (List V)), vs = [.ref l, .ref t0] ∧ H l = some (.lst ws) ∧ H t0 = some (.lst xs0) ∧ Paired (fun w xs => ∃ b, w = V.ref b ∧ H b = some (.lst xs)) ws xss ∧
  (xs0 ++ xss.flatten).length ≤ sizeLine ∧ (xss = [] → Q (.ref t0) H) ∧ (xss ≠ [] → ∀ p, H p = none → Q (.ref p) (upd H p (.lst (xs0 ++ xss.flatten))))
theorem cr_sumL {X : Cx} (hc : X.calm = true) : CallR X (.builtin "sum") rSumL := by
  intro pins s σ H vs us Q I r h
  obtain ⟨l, t0, ws, xs0, xss, rfl, hl, ht, hp, hz, q1, q2⟩ := h
  cases r with
  | cons r1 rr => cases rr with
    | cons r2 rr =>
      cases rr
      cases r1
      cases r2
      obtain ⟨z, its, n, rv, hl', e⟩ := I.lstM hl
      obtain ⟨z2, its2, n2, rv2, hl2', e2⟩ := I.lstM ht
      have key : ∀ {ws : List V} {xss : List (List V)} {its : List Value}, Paired (fun w xs => ∃ b, w = V.ref b ∧ H b = some (.lst xs)) ws xss → Vals ws its → ∃ vals : List (Array Value), vals.length = its.length ∧ (∀ (i : Nat) (v : Value), its[i]? = some v → ∃ b c a, v = .ref b ∧ vals[i]? = some a ∧ IsL s.heap b a c) ∧ Vals xss.flatten (vals.map Array.toList).flatten := by
        intro ws xss its hp
        induction hp generalizing its with
        | nil => intro r; cases r; exact ⟨[], rfl, fun i v e => by simp at e, .nil⟩
        | cons hd tl ih =>
          intro r
          cases r with
          | cons r1 rr =>
            obtain ⟨b, rfl, hb⟩ := hd
            cases r1
            obtain ⟨vals, v1, v2, v3⟩ := ih rr
            obtain ⟨z, itb, nb, rb, hb', eb⟩ := I.lstM hb
            refine ⟨itb.toArray :: vals, by simp [v1], fun i v e => ?_, ?_⟩
            · cases i with
              | zero =>
                simp at e
                exact ⟨b, nb, _, e.symm, rfl, eb⟩
              | succ i => exact v2 i v (by simpa using e)
            · simpa using rb.append v3
      obtain ⟨vals, v1, v2, v3⟩ := key hp rv
      have hcat : catI (fun i => vals.getD i #[]) 0 its.toArray.size = (vals.map Array.toList).flatten.toArray := by
        have := catI_getD vals []
        rw [List.size_toArray, ← v1]
        simpa using this
      have hl3 := v3.length
      have hl4 := rv2.length
      refine call_sum_lists (I.ok.hd hc) (IsL.isList e) e2 (fun i => vals.getD i #[]) (fun i v ev => ?_) ?_ fun h' tk t' nt' k1 k2 k3 k4 => ?_
      · obtain ⟨b, c, a, e1, e3, e4⟩ := v2 i v (by simpa using ev)
        refine ⟨b, c, e1, ?_⟩
        simp only [List.getD_eq_getElem?_getD, e3, Option.getD_some]
        exact e4
      · rw [hcat, List.size_toArray, List.size_toArray, ← hl3, ← hl4, ← List.length_append]; exact hz
      · rw [hcat] at k2
        by_cases h0 : xss = []
        · subst h0
          have hw : ws = [] := by cases hp; rfl
          subst hw
          have hi : its = [] := by cases rv; rfl
          subst hi
          obtain rfl := k3 rfl
          exact ⟨.ref t', H, I.kept k1, rfl, q1 rfl⟩
        · have hpos : 0 < its.toArray.size := by
            cases hp with
            | nil => exact absurd rfl h0
            | cons _ _ => cases rv with
              | cons _ _ => simp
          refine ⟨.ref t', upd H t' (.lst (xs0 ++ xss.flatten)), I.laid (t' := tk) k1 (k4 hpos) ⟨hz, its2 ++ (vals.map Array.toList).flatten, nt', rv2.append v3, ?_⟩, rfl, q2 h0 t' (I.hok.fresh (k4 hpos))⟩
          have ea : its2.toArray ++ (vals.map Array.toList).flatten.toArray = (its2 ++ (vals.map Array.toList).flatten).toArray := by simp
          rw [ea] at k2
          exact k2
end Sy

set_option Elab.async false
set_option linter.all false
set_option maxRecDepth 100000
set_option maxHeartbeats 2000000
namespace Sy
open PySem L2
section
variable {B : Bs} {g : Gs} {S : List SV} {C : Cs} {k : SV → Cs → Prop} {ka : List SV → Cs → Prop} {te ta tb tc tl : TE} {t' : TA} {tt tu : TT}
/-- what is walked, whatever happens to the cells -/
def WsrcD (B : Bs) (wi : TI) {α : Type} (as : List α) (enc : α → SV) (g : Gs) (S : List SV) (C : Cs) (k : Cs → Prop) : Prop := Wi B wi g S C fun T xs ok C1 => xs = as.map enc ∧ (∀ C', ok C') ∧ k C1
theorem wsrcD_list {α : Type} {as : List α} {e : α → D} {k : Cs → Prop} (h : We B tl g S C fun s C1 => s = .dat (.list (as.map e)) ∧ k C1) : WsrcD B (iList B.K tl) as (fun a => .dat (e a)) g S C k :=
  wi_list (h.imp fun s C1 ⟨a, b⟩ => ⟨_, by rw [a]; exact lv_map, rfl, fun C' => by rw [a]; exact lv_map, b⟩)
theorem wsrcD_rng1 {n : Int} {k : Cs → Prop} (h : Wa B t' g S C fun ss C1 => ss = [.dat (.int n)] ∧ (-(2 ^ 62) ≤ n ∧ n < 2 ^ 62) ∧ k C1) : WsrcD B (iRng1 t') (rng 0 n) (fun x => .dat (.int x)) g S C k :=
  wi_rng1 fun σ vs H Q R kq => h σ vs H Q R fun ss C1 us H1 ⟨a, b, c⟩ => kq ss C1 us H1 ⟨n, a, b, by simp [rngS, rng], fun _ => trivial, c⟩
theorem wipe_sub (σ : St) {is js : List Nat} (h : ∀ j ∈ js, j ∈ is) : L2.wipe (L2.wipe σ js) is = L2.wipe σ is := by
  rw [wipe_eq (L2.wipe σ js), wipe_eq σ is, wipe_eq σ js]
  refine List.ext_getElem? fun i => ?_
  rw [wipe_at, wipe_len, wipe_at, wipe_at]
  by_cases hi : i ∈ is
  · rw [if_pos hi, if_pos hi]
  · rw [if_neg hi, if_neg hi, if_neg fun z => hi (h i z)]
/-- [e for x in xs for y in ys] -/
theorem we_lc2 {wi wi1 : TI} {i1 i2 : Nat} {α β : Type} (as : List α) (enc : α → SV) (bs : α → List β) (enc1 : β → SV) (f : α → β → D) (hne : i1 ≠ i2) (hl : (as.flatMap bs).length ≤ sizeLine)
    (h : WsrcD B wi as enc g S C fun C1 => (∀ a, a ∈ as → ∀ S' acc, WsrcD B wi1 (bs a) enc1 ((wipeG g [i1, i2]).set i1 (some (enc a))) S' (C1 ++ [some (.lst acc)]) fun C3 => C3 = C1 ++ [some (.lst acc)] ∧
        ∀ b, b ∈ bs a → ∀ S'' acc', We B te (((wipeG g [i1, i2]).set i1 (some (enc a))).set i2 (some (enc1 b))) S'' (C1 ++ [some (.lst acc')]) fun y C5 => C5 = C1 ++ [some (.lst acc')] ∧ y = .dat (f a b)) ∧
      k (.dat (.list (as.flatMap fun a => (bs a).map (f a)))) C1) : We B (tLc2 wi (gName i1) tYes wi1 (gName i2) tYes te [i1, i2] [i2]) g S C k := fun σ vs H Q R kq =>
  h σ vs H _ R fun J T tv xs ok C1 H1 ⟨exs, hok, hs, hk⟩ hT src R1 D hD => by
    subst exs
    let is : List Nat := [i1, i2]
    have R1' : Rel B g (T ++ S) C1 σ (tv ++ vs) H1 := R1
    have RS : Rel B (wipeG g is) (T ++ (keptS g is ++ S)) C1 (L2.wipe σ is) (tv ++ (keptV g σ is ++ vs)) H1 := by
      obtain ⟨F, ρ, R2⟩ := R1'.wiped is
      obtain ⟨F0, ρ0, R0⟩ := R1'
      have hk := Paired.length (R0.kept is)
      obtain ⟨a, b⟩ := paired_append hk R2.stk
      obtain ⟨c, d⟩ := paired_append hT b
      exact ⟨F, ρ, { R2 with stk := paired_app c (paired_app a d) }⟩
    have RD : Rel B (wipeG g is) (.ref C1.length :: (T ++ (keptS g is ++ S))) (C1 ++ [some (.lst [])]) (L2.wipe σ is) (.ref D :: (tv ++ (keptV g σ is ++ vs))) (upd H1 D (.lst [])) := by
      obtain ⟨F, ρ, R2⟩ := RS
      exact ⟨F, _, R2.lay_c hD (.lst .nil)⟩
    let out : List α → List Sy.D := fun l => l.flatMap fun a => (bs a).map (f a)
    have outl : ∀ l, (out l).length = (l.flatMap bs).length := fun l => by
      induction l with
      | nil => rfl
      | cons a r ih => simp only [out, List.flatMap_cons, List.length_append, List.length_map] at ih ⊢; rw [ih]
    let Iv : Nat → Hp → Prop := fun i H' => Rel B (wipeG g is) (.ref C1.length :: (T ++ (keptS g is ++ S))) (C1 ++ [some (.lst ((out (as.take i)).map .dat))]) (L2.wipe σ is) (.ref D :: (tv ++ (keptV g σ is ++ vs))) H'
    refine ⟨fun i m H' => m = as.length - i ∧ i ≤ as.length ∧ Iv i H', ⟨as.length, by simp, Nat.zero_le _, by show Rel _ _ _ _ _ _ _; simpa [out] using RD⟩, ?_⟩
    rintro i m H' ⟨rfl, hi, RI⟩
    have RI' : Rel B (wipeG g is) (T ++ (.ref C1.length :: (keptS g is ++ S))) (C1 ++ [some (.lst ((out (as.take i)).map .dat))]) (L2.wipe σ is) (tv ++ (.ref D :: (keptV g σ is ++ vs))) H' := by
      obtain ⟨F, ρ, R2⟩ := (RI : Rel _ _ _ _ _ _ _)
      cases e : R2.stk with
      | cons a b =>
        obtain ⟨c, d⟩ := paired_append hT b
        exact ⟨F, ρ, { R2 with stk := paired_app c (.cons a d) }⟩
    have z := src i _ _ _ _ _ H' (hok _) RI'
    rw [List.length_map] at z
    by_cases hlt : i < as.length
    · refine .inr ⟨(z.1 hlt).1, Iv (i + 1), fun H3 p3 => ⟨as.length - (i + 1), by omega, rfl, hlt, p3⟩, fun x H3 y => ?_⟩
      obtain ⟨s, es, R3⟩ := (z.1 hlt).2 x H3 y
      have ea : as[i]? = some as[i] := List.getElem?_eq_getElem hlt
      rw [List.getElem?_map, ea] at es
      obtain rfl : enc as[i] = s := by simpa using es
      have R4 : Rel B (wipeG g is) (enc as[i] :: .ref C1.length :: (T ++ (keptS g is ++ S))) (C1 ++ [some (.lst ((out (as.take i)).map .dat))]) (L2.wipe σ is) (x :: .ref D :: (tv ++ (keptV g σ is ++ vs))) H3 := by
        obtain ⟨F, ρ, R2⟩ := R3
        cases e : R2.stk with
        | cons a b =>
          obtain ⟨c, d⟩ := paired_append hT b
          cases d with
          | cons d1 d2 => exact ⟨F, ρ, { R2 with stk := .cons a (.cons d1 (paired_app c d2)) }⟩
      have et : as.take (i + 1) = as.take i ++ [as[i]] := by rw [List.take_succ, ea]; rfl
      have eo : out (as.take (i + 1)) = out (as.take i) ++ (bs as[i]).map (f as[i]) := by
        rw [et]
        show List.flatMap _ _ = List.flatMap _ _ ++ _
        rw [List.flatMap_append, List.flatMap_cons, List.flatMap_nil, List.append_nil]
      have lim : (out (as.take i)).length + (bs as[i]).length ≤ sizeLine := by
        have e1 := outl (as.take (i + 1))
        rw [eo, List.length_append, List.length_map] at e1
        have e2 : ((as.take (i + 1)).flatMap bs).length ≤ (as.flatMap bs).length := by
          conv => rhs; rw [← List.take_append_drop (i + 1) as]
          rw [List.flatMap_append, List.length_append]
          omega
        omega
      show _ ∧ _
      have ew1 : L2.wipe ((L2.wipe σ is).set i1 (some x)) is = L2.wipe σ is := by rw [wipe_set_in _ _ (show i1 ∈ is by simp [is]), wipe_wipe]
      refine ⟨ew1, ?_⟩
      -- the inner source
      let g2 : Gs := (wipeG g is).set i1 (some (enc as[i]))
      let σ2 : St := (L2.wipe σ is).set i1 (some x)
      let S1 : List SV := .ref C1.length :: (T ++ (keptS g is ++ S))
      let vs1 : List V := .ref D :: (tv ++ (keptV g σ is ++ vs))
      have R5 : Rel B g2 S1 (C1 ++ [some (.lst ((out (as.take i)).map .dat))]) σ2 vs1 H3 := by
        obtain ⟨F, ρ, R2⟩ := R4
        exact ⟨F, ρ, R2.set⟩
      show wi1 σ2 H3 _
      refine hs as[i] (List.getElem_mem hlt) S1 _ σ2 vs1 H3 _ R5 fun J1 T1 tv1 xs1 ok1 C3 H4 ⟨exs1, hok1, eC3, hs1⟩ hT1 src1 R6 => ?_
      subst exs1 eC3
      let part : Nat → List Sy.D := fun j => out (as.take i) ++ ((bs as[i]).take j).map (f as[i])
      let Iv1 : Nat → Hp → Prop := fun j H' => Rel B (wipeG g2 [i2]) (T1 ++ S1) (C1 ++ [some (.lst ((part j).map .dat))]) (L2.wipe σ2 [i2]) (tv1 ++ vs1) H'
      have len2 : (L2.wipe σ2 [i2]).length = (wipeG g2 [i2]).length := by rw [wipe_eq, wipe_len, wipe_len]; exact R5.wlen
      have start : Iv1 0 H4 := by
        have e0 : part 0 = out (as.take i) := by simp [part]
        show Rel _ _ _ _ _ _ _
        rw [e0]
        exact Rel.rewipe (g := g2) (σ := σ2) (is := [i2]) R6 rfl (fun j hj => by rw [wipe_at, if_neg hj]) len2
      refine ⟨fun j m H' => m = (bs as[i]).length - j ∧ j ≤ (bs as[i]).length ∧ Iv1 j H', ⟨(bs as[i]).length, by simp, Nat.zero_le _, start⟩, ?_⟩
      rintro j m H5 ⟨rfl, hj, RJ⟩
      have z1 := src1 j _ _ _ _ _ H5 (hok1 _) RJ
      rw [List.length_map] at z1
      by_cases hlt1 : j < (bs as[i]).length
      · refine .inr ⟨(z1.1 hlt1).1, Iv1 (j + 1), fun H6 p6 => ⟨(bs as[i]).length - (j + 1), by omega, rfl, hlt1, p6⟩, fun x1 H6 y1 => ?_⟩
        obtain ⟨s1, es1, R7⟩ := (z1.1 hlt1).2 x1 H6 y1
        have eb : (bs as[i])[j]? = some (bs as[i])[j] := List.getElem?_eq_getElem hlt1
        rw [List.getElem?_map, eb] at es1
        obtain rfl : enc1 (bs as[i])[j] = s1 := by simpa using es1
        show _ ∧ _
        have ew2 : L2.wipe ((L2.wipe σ2 [i2]).set i2 (some x1)) [i2] = L2.wipe σ2 [i2] := by rw [wipe_set_in _ _ (show i2 ∈ [i2] by simp), wipe_wipe]
        refine ⟨ew2, ?_⟩
        show te ((L2.wipe σ2 [i2]).set i2 (some x1)) H6 _
        have R8 : Rel B ((wipeG g2 [i2]).set i2 (some (enc1 (bs as[i])[j]))) (T1 ++ S1) (C1 ++ [some (.lst ((part j).map .dat))]) ((L2.wipe σ2 [i2]).set i2 (some x1)) (tv1 ++ vs1) H6 := by
          obtain ⟨F, ρ, R2⟩ := R7
          exact ⟨F, ρ, R2.set⟩
        have eg : (wipeG g2 [i2]).set i2 (some (enc1 (bs as[i])[j])) = ((wipeG g [i1, i2]).set i1 (some (enc as[i]))).set i2 (some (enc1 (bs as[i])[j])) := List.set_set _
        rw [eg] at R8
        refine hs1 _ (List.getElem_mem hlt1) _ _ _ _ H6 _ R8 fun y C5 v H7 ⟨e5, ey⟩ R9 => ?_
        subst e5 ey
        obtain ⟨F, ρ, R9⟩ := R9
        obtain ⟨R10, hv⟩ := R9.pop
        obtain ⟨_, hd⟩ := paired_append hT1 R10.stk
        have hd : Paired _ (V.ref D :: (tv ++ (keptV g σ is ++ vs))) (SV.ref C1.length :: (T ++ (keptS g is ++ S))) := hd
        cases hd with
        | cons hd1 hd2 =>
          have hD2 : D = ρ C1.length := V.ref.inj hd1.2
          obtain ⟨n1, ⟨u, e1, h3⟩, h4⟩ := R10.cell C1.length (.lst ((part j).map .dat)) (by simp)
          cases h3 with
          | @lst ws' _ h3 =>
            refine ⟨ws', by rw [hD2]; exact e1, ?_, ?_⟩
            · rw [Paired.length h3, List.length_map]
              simp only [part, List.length_append, List.length_map, List.length_take]
              omega
            · have R11 := R10.wr (i := C1.length) (c := .lst ((part j).map .dat)) (c' := .lst (((part j).map .dat) ++ [.dat (f as[i] (bs as[i])[j])])) (o := .lst (ws' ++ [v])) (by simp) (.lst (Paired.snoc h3 hv))
              rw [← hD2] at R11
              have ec : (C1 ++ [some (Cell.lst ((part j).map .dat))]).set C1.length (some (.lst (((part j).map .dat) ++ [.dat (f as[i] (bs as[i])[j])]))) = C1 ++ [some (Cell.lst ((part (j + 1)).map .dat))] := by
                have e3 : part (j + 1) = part j ++ [f as[i] (bs as[i])[j]] := by
                  have e5 : (bs as[i]).take (j + 1) = (bs as[i]).take j ++ [(bs as[i])[j]] := by rw [List.take_succ, eb]; rfl
                  show _ ++ List.map _ _ = (_ ++ List.map _ _) ++ _
                  rw [e5, List.map_append, List.append_assoc]
                  rfl
                rw [e3]
                simp
              rw [ec] at R11
              show Rel _ _ _ _ _ _ _
              refine Rel.rewipe (g := g2) (σ := σ2) (is := [i2]) ⟨F, ρ, R11⟩ ew2 (fun m hm => ?_) len2
              rw [← eg, List.getElem?_set_ne fun e => hm (by rw [← e]; simp)]
      · have e : j = (bs as[i]).length := by omega
        subst e
        refine .inl ⟨z1.2 (Nat.le_refl _), ?_⟩
        show Rel _ _ _ _ _ _ _
        have e4 : part (bs as[i]).length = out (as.take (i + 1)) := by rw [eo]; simp only [part, List.take_length]
        rw [← e4]
        have R12 : Rel B (wipeG g2 [i2]) S1 (C1 ++ [some (.lst ((part (bs as[i]).length).map .dat))]) (L2.wipe σ2 [i2]) vs1 H5 := by
          obtain ⟨F, ρ, R2⟩ := (RJ : Rel _ _ _ _ _ _ _)
          obtain ⟨_, d⟩ := paired_append hT1 R2.stk
          exact ⟨F, ρ, { R2 with stk := d }⟩
        refine Rel.rewipe R12 ?_ (fun m hm => ?_) RI.wlen
        · rw [wipe_sub _ (fun q hq => by simp at hq; rw [hq]; simp [is]), ew1]
        · have h1 : m ≠ i1 := fun e => hm (by rw [e]; simp [is])
          have h2 : m ∉ [i2] := fun e => hm (by simp at e; rw [e]; simp [is])
          rw [wipe_at, if_neg h2]
          exact List.getElem?_set_ne (Ne.symm h1)
    · have e : i = as.length := by omega
      subst e
      refine .inl ⟨z.2 (Nat.le_refl _), ?_⟩
      have RF : Rel B (wipeG g is) (.ref C1.length :: (T ++ (keptS g is ++ S))) (C1 ++ [some (.lst ((out (as.take as.length)).map .dat))]) (L2.wipe σ is) (.ref D :: (tv ++ (keptV g σ is ++ vs))) H' := RI
      rw [List.take_length] at RF
      obtain ⟨F0, ρ0, R0⟩ := RS
      obtain ⟨F, ρ, RF⟩ := RF
      obtain ⟨F', RG⟩ := RF.frzE (fzn_lst _) (fun i j e => by
          obtain ⟨v, _, q⟩ := R0.slot i _ e
          exact q.1) (fun j hj => mem_ref R0.stk hj) (fun i c e o F ρ n q => by
          obtain ⟨_, ⟨o0, _, q0⟩, _⟩ := R0.cell i c e
          exact q0.lt q) R0.nc
      refine kq _ C1 (.ref D) H' hk (Rel.unwipe (is := is) (S := .dat (.list (out as)) :: S) (vs := .ref D :: vs) R1 ⟨F', ρ, { RG with stk := ?_ }⟩)
      cases e : RG.stk with
      | cons a b =>
        obtain ⟨c, d⟩ := paired_append hT b
        obtain ⟨c2, d2⟩ := paired_append (kept_len R1 is) d
        exact paired_app c2 (.cons a d2)
end
end Sy

set_option Elab.async false
set_option linter.all false
set_option maxRecDepth 100000
set_option maxHeartbeats 2000000
namespace Sy
open PySem L2
/-! ## lists of unlike ints, rising -/
def insU (x : Int) : List Int → List Int
  | [] => [x]
  | y :: r => if x < y then x :: y :: r else if x = y then y :: r else y :: insU x r
def uq (ns : List Int) : List Int := ns.foldr insU []
theorem mem_insU {x k : Int} : ∀ {l : List Int}, k ∈ insU x l ↔ k = x ∨ k ∈ l
  | [] => by simp [insU]
  | y :: r => by
    unfold insU
    split
    · simp
    · split
      · rename_i h
        subst h
        simp
      · rw [List.mem_cons, mem_insU, List.mem_cons]
        constructor
        · rintro (h | h | h)
          · exact .inr (.inl h)
          · exact .inl h
          · exact .inr (.inr h)
        · rintro (h | h | h)
          · exact .inr (.inl h)
          · exact .inl h
          · exact .inr (.inr h)
theorem ris_insU {x : Int} : ∀ {l : List Int}, l.Pairwise (· < ·) → (insU x l).Pairwise (· < ·)
  | [], _ => by simp [insU]
  | y :: r, h => by
    obtain ⟨h1, h2⟩ := List.pairwise_cons.mp h
    unfold insU
    split
    · rename_i hx
      refine List.pairwise_cons.mpr ⟨fun z hz => ?_, h⟩
      rcases List.mem_cons.mp hz with e | hz
      · rw [e]; exact hx
      · exact Int.lt_trans hx (h1 z hz)
    · split
      · exact h
      · refine List.pairwise_cons.mpr ⟨fun z hz => ?_, ris_insU h2⟩
        rcases mem_insU.mp hz with e | hz
        · omega
        · exact h1 z hz
theorem mem_uq {k : Int} : ∀ {ns : List Int}, k ∈ uq ns ↔ k ∈ ns
  | [] => by simp [uq]
  | n :: ns => by
    show k ∈ insU n (uq ns) ↔ _
    rw [mem_insU, mem_uq, List.mem_cons]
theorem ris_uq : ∀ (ns : List Int), (uq ns).Pairwise (· < ·)
  | [] => List.Pairwise.nil
  | n :: ns => ris_insU (ris_uq ns)
theorem ris_eq : ∀ {xs ys : List Int}, xs.Pairwise (· < ·) → ys.Pairwise (· < ·) → (∀ k, k ∈ xs ↔ k ∈ ys) → xs = ys
  | [], [], _, _, _ => rfl
  | [], y :: ys, _, _, h => by have := (h y).mpr List.mem_cons_self; cases this
  | x :: xs, [], _, _, h => by have := (h x).mp List.mem_cons_self; cases this
  | x :: xs, y :: ys, hx, hy, h => by
    obtain ⟨x1, x2⟩ := List.pairwise_cons.mp hx
    obtain ⟨y1, y2⟩ := List.pairwise_cons.mp hy
    have e : x = y := by
      rcases List.mem_cons.mp ((h x).mp List.mem_cons_self) with e | e
      · exact e
      · rcases List.mem_cons.mp ((h y).mpr List.mem_cons_self) with e2 | e2
        · exact e2.symm
        · have a := y1 x e
          have b := x1 y e2
          omega
    subst e
    rw [ris_eq x2 y2 fun k => ?_]
    constructor
    · intro hk
      rcases List.mem_cons.mp ((h k).mp (List.mem_cons_of_mem _ hk)) with e | e
      · have := x1 k hk
        omega
      · exact e
    · intro hk
      rcases List.mem_cons.mp ((h k).mpr (List.mem_cons_of_mem _ hk)) with e | e
      · have := y1 k hk
        omega
      · exact e
theorem ris_nodup {xs : List Int} (h : xs.Pairwise (· < ·)) : xs.Nodup := h.imp fun {a b} q e => by omega
theorem nodup_le : ∀ {xs ys : List Int}, xs.Nodup → (∀ k, k ∈ xs → k ∈ ys) → xs.length ≤ ys.length
  | [], _, _, _ => Nat.zero_le _
  | x :: xs, ys, h, m => by
    obtain ⟨h1, h2⟩ := List.nodup_cons.mp h
    have hx := m x List.mem_cons_self
    have := nodup_le (ys := ys.erase x) h2 fun k hk => (List.mem_erase_of_ne fun e => h1 (by rw [← e]; exact hk)).mpr (m k (List.mem_cons_of_mem _ hk))
    rw [List.length_erase_of_mem hx] at this
    have hp : 0 < ys.length := List.length_pos_of_mem hx
    rw [List.length_cons]
    omega
theorem nodup_len {xs ys : List Int} (h : xs.Nodup) (h' : ys.Nodup) (m : ∀ k, k ∈ xs ↔ k ∈ ys) : xs.length = ys.length := Nat.le_antisymm (nodup_le h fun k q => (m k).mp q) (nodup_le h' fun k q => (m k).mpr q)
section
variable {B : Bs} {g : Gs} {S : List SV} {C : Cs} {k : SV → Cs → Prop} {ka : List SV → Cs → Prop} {te ta tb tc tl : TE} {t' : TA} {tt tu : TT}
theorem ints_all {K : PySem.W.Frag} {F : Hp} : ∀ zs : List Int, IsAll K F (zs.map V.int) (zs.map PyData.int)
  | [] => .nil
  | z :: r => .cons (.int z) (ints_all r)
theorem we_sortedSet (h : We B ta g S C fun s C1 => ∃ ns : List Int, LV C1 s ((ns.map PyData.int).map .dat) ∧ ns.length ≤ 4000 ∧ (uq ns).length < 64 ∧ k (.dat (.list ((uq ns).map .int))) C1) : We B (tSortedSet B.K ta) g S C k := fun σ vs H Q R kq =>
  h σ vs H _ R fun s C1 v H1 ⟨ns, l, hl, h64, q⟩ R1 => by
    obtain ⟨F, ρ, R2, hx⟩ := R1.top
    obtain ⟨a, ws, rfl, ha, hp⟩ := R2.lv hx l
    obtain rfl := ints_of hp
    refine ⟨a, ns, rfl, SqL.of ha, hl, fun ms m1 m2 => ?_, fun ms p m1 m2 hp2 => ?_⟩
    · rw [nodup_len m1 (ris_nodup (ris_uq ns)) fun k => (m2 k).trans mem_uq.symm]; exact h64
    · obtain rfl := ris_eq m1 (ris_uq ns) fun k => (m2 k).trans mem_uq.symm
      obtain ⟨R4, L⟩ := R2.lay (o := .lst ((uq ns).map V.int)) hp2
      exact kq _ C1 _ _ q ⟨_, ρ, R4.push (.lst upd_same (ints_all _))⟩
theorem we_lenSet (h : We B ta g S C fun s C1 => ∃ ns : List Int, LV C1 s ((ns.map PyData.int).map .dat) ∧ ns.length ≤ 4000 ∧ k (.dat (.int (uq ns).length)) C1) : We B (tLenSetU B.K ta) g S C k := fun σ vs H Q R kq =>
  h σ vs H _ R fun s C1 v H1 ⟨ns, l, hl, q⟩ R1 => by
    obtain ⟨F, ρ, R2, hx⟩ := R1.top
    obtain ⟨a, ws, rfl, ha, hp⟩ := R2.lv hx l
    obtain rfl := ints_of hp
    refine ⟨a, ns, rfl, SqL.of ha, hl, fun ms m1 m2 => ?_⟩
    rw [nodup_len m1 (ris_nodup (ris_uq ns)) fun k => (m2 k).trans mem_uq.symm]
    exact kq _ C1 _ _ q (R1.drop1.sc rfl)
theorem lists_of {K : PySem.W.Frag} {F H : Hp} (e : Le F H) {ρ : Nat → Addr} {n : Nat} : ∀ {ws : List V} {xss : List (List D)}, Paired (SIs K F ρ n) ws ((xss.map PyData.list).map SV.dat) → ∃ uss : List (List V), Paired (fun w xs => ∃ b, w = V.ref b ∧ H b = some (.lst xs)) ws uss ∧ IsAll K F uss.flatten xss.flatten ∧ uss.length = xss.length
  | [], [], _ => ⟨[], .nil, .nil, rfl⟩
  | _ :: _, _ :: _, .cons h r => by
    obtain ⟨uss, a, b, c⟩ := lists_of e r
    cases h with
    | @lst p us ds hp ha => exact ⟨us :: uss, .cons ⟨p, rfl, e _ _ hp⟩ a, all_sis (ρ := ρ) (n := n) (by
        rw [List.flatten_cons, List.flatten_cons, List.map_append]
        exact paired_app (sis_all ha) (sis_all b)), by rw [List.length_cons, List.length_cons, c]⟩
  | [], _ :: _, h => nomatch h
  | _ :: _, [], h => nomatch h
theorem IsAll.app {K : PySem.W.Frag} {F : Hp} {vs ws : List V} {ds es : List D} (a : IsAll K F vs ds) (b : IsAll K F ws es) : IsAll K F (vs ++ ws) (ds ++ es) :=
  all_sis (ρ := fun _ => 0) (n := 0) (by rw [List.map_append]; exact paired_app (sis_all a) (sis_all b))
theorem wc_sumL {xss : List (List D)} {xs0 : List D} (hz : (xs0 ++ xss.flatten).length ≤ sizeLine) (q : k (.dat (.list (xs0 ++ xss.flatten))) C) : Wc B rSumL [.dat (.list (xss.map .list)), .dat (.list xs0)] g S C k := fun σ vs H Q us hl R kq => by
  obtain ⟨u, w, rfl, R⟩ := R.two hl
  obtain ⟨F, ρ, R1, hy⟩ := R.top
  obtain ⟨R2, hx⟩ := R1.pop
  have hy0 := hy
  obtain ⟨a, ws, rfl, ha, hp⟩ := R2.lv hx .dat
  cases hy with
  | @lst b us ds hb hb2 =>
    obtain ⟨uss, p1, p2, p3⟩ := lists_of R2.le hp
    have ap := hb2.app p2
    refine ⟨a, b, ws, us, uss, rfl, ha, R2.le _ _ hb, p1, by rw [IsAll.length ap]; exact hz, fun z => ?_, fun z p hp2 => ?_⟩
    · have e : xss = [] := List.length_eq_zero_iff.mp (by rw [← p3, z]; rfl)
      subst e
      have q' : k (.dat (.list xs0)) C := by simpa using q
      exact kq _ C _ _ q' ⟨F, ρ, R2.push hy0⟩
    · obtain ⟨R4, L⟩ := R2.lay (o := .lst (us ++ uss.flatten)) hp2
      exact kq _ C _ _ q ⟨_, ρ, R4.push (.lst upd_same (ap.mono L))⟩
/-! ## tuples: any slice, any sum -/
theorem wr_catA {xs ys : List D} (hl : xs.length + ys.length ≤ sizeLine) (q : k (.dat (.tuple (xs ++ ys))) C) : Wr B (rCatA B.K) (.dat (.tuple xs)) (.dat (.tuple ys)) g S C k := fun σ vs H Q v w R kq => by
  obtain ⟨F, ρ, R1, hy⟩ := R.top
  obtain ⟨R2, hx⟩ := R1.pop
  have hx0 := hx
  have hy0 := hy
  obtain ⟨a, ws, rfl, ha, hp⟩ := R2.tv hx
  obtain ⟨b, us, rfl, hb, hq⟩ := R2.tv hy
  have l1 := Paired.length hp
  have l2 := Paired.length hq
  rw [List.length_map] at l1 l2
  refine ⟨a, b, ws, us, rfl, rfl, ha, hb, by omega, fun z => ?_, fun z1 z => ?_, fun z1 z p hp3 => ?_⟩
  · have e : xs = [] := List.length_eq_zero_iff.mp (by rw [← l1, z]; rfl)
    subst e
    exact kq _ C _ _ q ⟨F, ρ, R2.push hy0⟩
  · have e : ys = [] := List.length_eq_zero_iff.mp (by rw [← l2, z]; rfl)
    subst e
    rw [List.append_nil] at q
    exact kq _ C _ _ q ⟨F, ρ, R2.push hx0⟩
  · obtain ⟨R4, L⟩ := R2.lay (o := .tup (ws ++ us)) hp3
    have ap : IsAll B.K F (ws ++ us) (xs ++ ys) := all_sis (ρ := ρ) (n := C.length) (by rw [List.map_append]; exact paired_app hp hq)
    exact kq _ C _ _ q ⟨_, ρ, R4.push (.tup (SqT.of upd_same) (ap.mono L))⟩
end
end Sy

set_option Elab.async false
set_option linter.all false
set_option maxRecDepth 100000
set_option maxHeartbeats 2000000
namespace Sy
open RZ
open PySem
section
variable {prog : Program} {w : World} {A : Around} {E : Value → Shared → Prop} {s : Shared}
theorem zipM_next_item {z TI TO i1 i2 l1 l2 : Addr} {k1 k2 : Nat} {xs ys : Array Value} {x y a b : Value} {Q : Value → Shared → Prop} (D : ZipApart z TI TO i1 i2 l1 l2)
    (hz : IsZip s.heap z TI TO .none) (hTI : IsPair s.heap TI (.ref i1) (.ref i2)) (hTO : IsPair s.heap TO a b)
    (h1 : s.heap.IsListIter i1 l1 k1) (h2 : s.heap.IsTupleIter i2 l2 k2) (hl1 : s.heap.IsList l1 xs) (hl2 : s.heap.IsTuple l2 ys) (hx : xs[k1]? = some x) (hy : ys[k2]? = some y)
    (hQ : ∀ h', IsZip h' z TI TO (rawInt s.heap.objs.size) → IsPair h' TO x y → h'.IsListIter i1 l1 (k1 + 1) → h'.IsTupleIter i2 l2 (k2 + 1) → IsPair h' s.heap.objs.size x y → h'.objs.size = s.heap.objs.size + 1 →
      (∀ c o, c ≠ z → c ≠ TO → c ≠ i1 → c ≠ i2 → s.heap.get? c = some o → h'.get? c = some o) → Q (.ref s.heap.objs.size) { s with heap := h' }) :
    wpAny (model prog w) A (Builtin.«zip.__next__» ⟨[.ref z], []⟩) (fun fin s' => ∃ v, fin = .done (.ret v) ∧ Q v s') E s := by
  show wpAny _ _ (field (.ref z) 2 >>= _) _ _ _
  refine wpAny_bind (wpAny_field hz rfl (x := .bool false) rfl ?_)
  show wpAny _ _ (field (.ref z) 3 >>= _) _ _ _
  refine wpAny_bind (wpAny_field hz rfl (x := .ref TI) rfl ?_)
  refine wpAny_bind (wpAny_seqItems hTI rfl ?_)
  show wpAny _ _ (Builtin.SmallTypes.ownedTupleIsFree (.ref z) >>= _) _ _ _
  refine wpAny_bind ?_
  unfold Builtin.SmallTypes.ownedTupleIsFree
  refine wpAny_bind (wpAny_field hz rfl (x := .none) rfl (wpAny_pure ?_))
  simp only [if_true]
  refine wpAny_bind (wpAny_rule ?_)
  refine wpAny_bind (wpAny_field hz rfl (x := .ref TO) rfl ?_)
  refine wpAny_bind (wpAny_setField_rec hz (by simp) fun h₁ hz₁ hs₁ => ?_)
  replace hz₁ : IsZip h₁ z TI TO .ellipsis := hz₁
  refine wpAny_bind ?_
  simp only [List.zipIdx_cons, List.zipIdx_nil, List.forIn_cons, List.forIn_nil]

  refine wpAny_bind (wpAny_bind (wpAny_onRaise ?_))
  show wpAny _ _ (Builtin.SmallTypes.nextOf (.ref i1) >>= _) _ _ _
  refine wpAny_bind (wpAny_nextOf_list_item (h1.extBut hs₁.extBut D.i1z) (hl1.extBut hs₁.extBut D.l1z) hx fun h₂ h1₂ hs₂ => wpAny_pure ?_)
  have hTO₂ : IsPair h₂ TO a b := hs₂.extBut _ _ D.TOi1 (hs₁.extBut _ _ D.TOz hTO)
  refine wpAny_bind (wpAny_seqItems hTO₂ rfl ?_)
  refine wpAny_bind (wpAny_updateSeq_pair hTO₂ fun h₃ hTO₃ hs₃ => ?_)
  replace hTO₃ : IsPair h₃ TO x b := hTO₃
  refine wpAny_bind (wpAny_letGo (wpAny_pure ?_))

  refine wpAny_bind (wpAny_bind (wpAny_onRaise ?_))
  show wpAny _ _ (Builtin.SmallTypes.nextOf (.ref i2) >>= _) _ _ _
  refine wpAny_bind (nextOf_tuple_item (((h2.extBut hs₁.extBut D.i2z).extBut hs₂.extBut D.i12.symm).extBut hs₃.extBut D.TOi2.symm)
    (((hl2.extBut hs₁.extBut D.l2z).extBut hs₂.extBut D.l2i1).extBut hs₃.extBut D.l2TO) hy fun h₄ h2₄ hs₄ => wpAny_pure ?_)
  have hTO₄ : IsPair h₄ TO x b := hs₄.extBut _ _ D.TOi2 hTO₃
  refine wpAny_bind (wpAny_seqItems hTO₄ rfl ?_)
  refine wpAny_bind (wpAny_updateSeq_pair hTO₄ fun h₅ hTO₅ hs₅ => ?_)
  replace hTO₅ : IsPair h₅ TO x y := hTO₅
  refine wpAny_bind (wpAny_letGo (wpAny_pure (wpAny_pure ?_)))

  refine wpAny_bind (wpAny_seqItems hTO₅ rfl ?_)
  refine wpAny_bind (wpAny_newTuple ?_)
  have hsz : h₅.objs.size = s.heap.objs.size := by rw [hs₅.1, hs₄.1, hs₃.1, hs₂.1, hs₁.1]
  have hz₅ : IsZip h₅ z TI TO .ellipsis := hs₅.extBut _ _ D.TOz.symm (hs₄.extBut _ _ D.i2z.symm (hs₃.extBut _ _ D.TOz.symm (hs₂.extBut _ _ D.i1z.symm hz₁)))
  have hk₅ : ∀ c o, c ≠ z → c ≠ TO → c ≠ i1 → c ≠ i2 → s.heap.get? c = some o → h₅.get? c = some o := fun c o c1 c2 c3 c4 e =>
    hs₅.extBut _ _ c2 (hs₄.extBut _ _ c4 (hs₃.extBut _ _ c2 (hs₂.extBut _ _ c3 (hs₁.extBut _ _ c1 e))))
  have h1₅ : h₅.IsListIter i1 l1 (k1 + 1) := ((h1₂.extBut hs₃.extBut D.TOi1.symm).extBut hs₄.extBut D.i12).extBut hs₅.extBut D.TOi1.symm
  have h2₅ : h₅.IsTupleIter i2 l2 (k2 + 1) := h2₄.extBut hs₅.extBut D.TOi2.symm
  have hzlt : z < h₅.objs.size := Heap.lt_size hz₅
  have hTOlt : TO < h₅.objs.size := Heap.lt_size hTO₅
  have hi1lt : i1 < h₅.objs.size := by obtain ⟨_, e, _⟩ := h1₅; exact Heap.lt_size e
  have hi2lt : i2 < h₅.objs.size := by obtain ⟨_, e, _⟩ := h2₅; exact Heap.lt_size e
  show wpAny _ _ (Builtin.SmallTypes.ownedTupleHandOut (.ref z) (.ref h₅.objs.size) >>= _) _ _ _
  refine wpAny_bind ?_
  unfold Builtin.SmallTypes.ownedTupleHandOut
  have hz₆ : IsZip (h₅.push { cls := .type "tuple", data := .seq #[x, y] }) z TI TO .ellipsis := Heap.get?_push_of_some _ hz₅
  refine wpAny_bind (wpAny_setField_rec hz₆ (by simp) fun h₇ hz₇ hs₇ => ?_)
  replace hz₇ : IsZip h₇ z TI TO (rawInt h₅.objs.size) := hz₇
  refine wpAny_setField_rec hz₇ (by simp) fun h₈ hz₈ hs₈ => ?_
  replace hz₈ : IsZip h₈ z TI TO (rawInt h₅.objs.size) := hz₈
  have up : ∀ c o, c ≠ z → h₅.get? c = some o → h₈.get? c = some o := fun c o c1 e => hs₈.extBut _ _ c1 (hs₇.extBut _ _ c1 (Heap.get?_push_of_some _ e))
  have hT₈ : IsPair h₈ h₅.objs.size x y := hs₈.extBut _ _ (Nat.ne_of_gt hzlt) (hs₇.extBut _ _ (Nat.ne_of_gt hzlt) (Heap.get?_push_size _ rfl))
  have hz8 : h₈.objs.size = h₅.objs.size + 1 := by rw [hs₈.1, hs₇.1, Heap.size_push]
  rw [hsz] at hz₈ hT₈ hz8
  refine wpAny_pure ⟨_, rfl, ?_⟩
  show Q (.ref h₅.objs.size) _
  rw [hsz]
  exact hQ h₈ hz₈ (up _ _ D.TOz hTO₅) (h1₅.at fun o e => up _ o D.i1z e) (h2₅.at fun o e => up _ o D.i2z e) hT₈ hz8 fun c o c1 c2 c3 c4 e => up c o c1 (hk₅ c o c1 c2 c3 c4 e)

theorem zipM_next_end {z TI TO i1 i2 l1 l2 : Addr} {k1 k2 : Nat} {xs ys : Array Value} {a b : Value} {Q : Fin → Shared → Prop} (hh : A.handled = none) (D : ZipApart z TI TO i1 i2 l1 l2)
    (hz : IsZip s.heap z TI TO .none) (hTI : IsPair s.heap TI (.ref i1) (.ref i2)) (hTO : IsPair s.heap TO a b)
    (h1 : s.heap.IsListIter i1 l1 k1) (h2 : s.heap.IsTupleIter i2 l2 k2) (hl1 : s.heap.IsList l1 xs) (hl2 : s.heap.IsTuple l2 ys) (hend : xs[k1]? = none ∨ ys[k2]? = none)
    (hE : ∀ h' e, (∀ c o, c ≠ z → c ≠ TO → c ≠ i1 → c ≠ i2 → s.heap.get? c = some o → h'.get? c = some o) → (∃ o, h'.get? e = some o ∧ o.cls = .type "StopIteration") → E (.ref e) { s with heap := h' }) :
    wpAny (model prog w) A (Builtin.«zip.__next__» ⟨[.ref z], []⟩) Q E s := by
  show wpAny _ _ (field (.ref z) 2 >>= _) _ _ _
  refine wpAny_bind (wpAny_field hz rfl (x := .bool false) rfl ?_)
  show wpAny _ _ (field (.ref z) 3 >>= _) _ _ _
  refine wpAny_bind (wpAny_field hz rfl (x := .ref TI) rfl ?_)
  refine wpAny_bind (wpAny_seqItems hTI rfl ?_)
  show wpAny _ _ (Builtin.SmallTypes.ownedTupleIsFree (.ref z) >>= _) _ _ _
  refine wpAny_bind ?_
  unfold Builtin.SmallTypes.ownedTupleIsFree
  refine wpAny_bind (wpAny_field hz rfl (x := .none) rfl (wpAny_pure ?_))
  simp only [if_true]
  refine wpAny_bind (wpAny_rule ?_)
  refine wpAny_bind (wpAny_field hz rfl (x := .ref TO) rfl ?_)
  refine wpAny_bind (wpAny_setField_rec hz (by simp) fun h₁ hz₁ hs₁ => ?_)
  replace hz₁ : IsZip h₁ z TI TO .ellipsis := hz₁
  refine wpAny_bind ?_
  simp only [List.zipIdx_cons, List.zipIdx_nil, List.forIn_cons, List.forIn_nil]
  refine wpAny_bind (wpAny_bind (wpAny_onRaise ?_))
  show wpAny _ _ (Builtin.SmallTypes.nextOf (.ref i1) >>= _) _ _ _
  cases hx : xs[k1]? with
  | none =>
    refine wpAny_bind (wpAny_nextOf_list_end hh (h1.extBut hs₁.extBut D.i1z) (hl1.extBut hs₁.extBut D.l1z) hx fun h₂ e hs₂ he => ?_)
    obtain ⟨oe, hoe, hce⟩ := he
    have hz₂ : IsZip h₂ z TI TO .ellipsis := hs₂ _ _ D.i1z.symm hz₁
    have hez : e ≠ z := fun x => by subst x; rw [hz₂] at hoe; cases hoe; simp at hce
    refine wpAny_setField_rec hz₂ (by simp) fun h₃ _ hs₃ => hE h₃ e (fun c o c1 _ c3 _ x => hs₃.extBut _ _ c1 (hs₂ _ _ c3 (hs₁.extBut _ _ c1 x))) ⟨oe, hs₃.extBut _ _ hez hoe, hce⟩
  | some x =>
    have hy : ys[k2]? = none := by rcases hend with h | h; rw [hx] at h; cases h; exact h
    refine wpAny_bind (wpAny_nextOf_list_item (h1.extBut hs₁.extBut D.i1z) (hl1.extBut hs₁.extBut D.l1z) hx fun h₂ h1₂ hs₂ => wpAny_pure ?_)
    have hTO₂ : IsPair h₂ TO a b := hs₂.extBut _ _ D.TOi1 (hs₁.extBut _ _ D.TOz hTO)
    refine wpAny_bind (wpAny_seqItems hTO₂ rfl ?_)
    refine wpAny_bind (wpAny_updateSeq_pair hTO₂ fun h₃ hTO₃ hs₃ => ?_)
    refine wpAny_bind (wpAny_letGo (wpAny_pure ?_))
    refine wpAny_bind (wpAny_bind (wpAny_onRaise ?_))
    show wpAny _ _ (Builtin.SmallTypes.nextOf (.ref i2) >>= _) _ _ _
    refine wpAny_bind (nextOf_tuple_end hh (((h2.extBut hs₁.extBut D.i2z).extBut hs₂.extBut D.i12.symm).extBut hs₃.extBut D.TOi2.symm)
      (((hl2.extBut hs₁.extBut D.l2z).extBut hs₂.extBut D.l2i1).extBut hs₃.extBut D.l2TO) hy fun h₄ e hs₄ he => ?_)
    obtain ⟨oe, hoe, hce⟩ := he
    have hz₄ : IsZip h₄ z TI TO .ellipsis := hs₄ _ _ D.i2z.symm (hs₃.extBut _ _ D.TOz.symm (hs₂.extBut _ _ D.i1z.symm hz₁))
    have hez : e ≠ z := fun x => by subst x; rw [hz₄] at hoe; cases hoe; simp at hce
    refine wpAny_setField_rec hz₄ (by simp) fun h₅ _ hs₅ => hE h₅ e (fun c o c1 c2 c3 c4 x => hs₅.extBut _ _ c1 (hs₄ _ _ c4 (hs₃.extBut _ _ c2 (hs₂.extBut _ _ c3 (hs₁.extBut _ _ c1 x))))) ⟨oe, hs₅.extBut _ _ hez hoe, hce⟩

theorem pyNext_zipM_item {z TI TO i1 i2 l1 l2 : Addr} {k1 k2 : Nat} {xs ys : Array Value} {x y a b : Value} {Q : Option Value → Shared → Prop} (D : ZipApart z TI TO i1 i2 l1 l2)
    (hz : IsZip s.heap z TI TO .none) (hTI : IsPair s.heap TI (.ref i1) (.ref i2)) (hTO : IsPair s.heap TO a b)
    (h1 : s.heap.IsListIter i1 l1 k1) (h2 : s.heap.IsTupleIter i2 l2 k2) (hl1 : s.heap.IsList l1 xs) (hl2 : s.heap.IsTuple l2 ys) (hx : xs[k1]? = some x) (hy : ys[k2]? = some y)
    (hQ : ∀ h', IsZip h' z TI TO (rawInt s.heap.objs.size) → IsPair h' TO x y → h'.IsListIter i1 l1 (k1 + 1) → h'.IsTupleIter i2 l2 (k2 + 1) → IsPair h' s.heap.objs.size x y → h'.objs.size = s.heap.objs.size + 1 →
      (∀ c o, c ≠ z → c ≠ TO → c ≠ i1 → c ≠ i2 → s.heap.get? c = some o → h'.get? c = some o) → Q (some (.ref s.heap.objs.size)) { s with heap := h' }) :
    wpAny (model prog w) A (pyNext (.ref z)) Q E s := by
  have hT : s.TypeIs (.ref z) "zip" := ⟨_, hz, rfl⟩
  unfold pyNext
  exact wpAny_bind (wpAny_attempt (wpAny_callSpecial?_slot (name := Str.ofString "__next__") hT F.slot_zip_next
    (wpAny_call_entry F.slot_zip_next hT F.entry_zip_next
      (zipM_next_item D hz hTI hTO h1 h2 hl1 hl2 hx hy fun h' a1 a2 a3 a4 a5 a6 a7 => wpAny_pure (hQ h' a1 a2 a3 a4 a5 a6 a7)) (F.args_zip_next_1 _))))

theorem pyNext_zipM_end {z TI TO i1 i2 l1 l2 : Addr} {k1 k2 : Nat} {xs ys : Array Value} {a b : Value} {Q : Option Value → Shared → Prop} (hh : A.handled = none) (D : ZipApart z TI TO i1 i2 l1 l2)
    (hz : IsZip s.heap z TI TO .none) (hTI : IsPair s.heap TI (.ref i1) (.ref i2)) (hTO : IsPair s.heap TO a b)
    (h1 : s.heap.IsListIter i1 l1 k1) (h2 : s.heap.IsTupleIter i2 l2 k2) (hl1 : s.heap.IsList l1 xs) (hl2 : s.heap.IsTuple l2 ys) (hend : xs[k1]? = none ∨ ys[k2]? = none)
    (hQ : ∀ h', (∀ c o, c ≠ z → c ≠ TO → c ≠ i1 → c ≠ i2 → s.heap.get? c = some o → h'.get? c = some o) → Q none { s with heap := h' }) : wpAny (model prog w) A (pyNext (.ref z)) Q E s := by
  have hT : s.TypeIs (.ref z) "zip" := ⟨_, hz, rfl⟩
  unfold pyNext
  refine wpAny_bind (wpAny_attempt (wpAny_callSpecial?_slot (name := Str.ofString "__next__") hT F.slot_zip_next
    (wpAny_call_entry F.slot_zip_next hT F.entry_zip_next (zipM_next_end hh D hz hTI hTO h1 h2 hl1 hl2 hend fun h' e hk he => ?_) (F.args_zip_next_1 _))))
  obtain ⟨o, ho, hc⟩ := he
  refine wpAny_bind (wpAny_isInstance (T := "StopIteration") (b := true) ⟨o, ho, hc⟩ isSubtype_stop ?_)
  exact wpAny_pure (hQ _ hk)
end

abbrev zipMH1 (h : Heap) (l1 : Addr) : Heap := h.push { cls := .type "list_iterator", data := .fields #[.ref l1, .int 0 0] }
abbrev zipMH2 (h : Heap) (l1 l2 : Addr) : Heap := (zipMH1 h l1).push { cls := .type "tuple_iterator", data := .fields #[.ref l2, .int 0 0] }
abbrev zipMH3 (h : Heap) (l1 l2 : Addr) : Heap := (zipMH2 h l1 l2).push { cls := .type "tuple", data := .seq #[.ref h.objs.size, .ref (zipMH1 h l1).objs.size] }
abbrev zipMH4 (h : Heap) (l1 l2 : Addr) : Heap := (zipMH3 h l1 l2).push { cls := .type "tuple", data := .seq #[.none, .none] }
abbrev zipMH5 (h : Heap) (l1 l2 : Addr) : Heap := (zipMH4 h l1 l2).push { cls := .type "zip", data := .fields #[.none, .bool false, .bool false, .ref (zipMH2 h l1 l2).objs.size, .ref (zipMH3 h l1 l2).objs.size] }

theorem meets_zipM_new (l1 l2 : Addr) (xs ys : Array Value) :
    Meets (Builtin.«zip.__new__» ⟨[.type "zip", .ref l1, .ref l2], []⟩) (fun _ R s => s.heap.IsList l1 xs ∧ s.heap.IsTuple l2 ys ∧
      R (.ok (.ret (.ref (zipMH4 s.heap l1 l2).objs.size))) { s with heap := zipMH5 s.heap l1 l2 }) :=
  .of_wp fun prog w A R s h => by
    obtain ⟨hp, g, d, tk, os⟩ := s; obtain ⟨hl1, hl2, h⟩ := h
    have hsub := sub_zip
    have hL1 : Heap.IsList (Shared.heap ⟨hp, g, d, tk, os⟩) l1 xs := hl1
    have hL2 : Heap.IsTuple (Shared.heap ⟨hp.push { cls := .type "list_iterator", data := .fields #[.ref l1, .int 0 0] }, g, d, tk, os⟩) l2 ys := Heap.IsTuple.push hl2 _
    wp_walk using wpAny_pyIter_list hL1, wpAny_pyIter_tuple hL2
    exact ⟨_, rfl, h⟩

section
variable {prog : Program} {w : World} {A : Around} {E : Value → Shared → Prop} {s : Shared}

theorem call_zipM {l1 l2 : Addr} {xs ys : Array Value} {Q : Value → Shared → Prop} (hl1 : s.heap.IsList l1 xs) (hl2 : s.heap.IsTuple l2 ys)
    (h : ∀ h', IsZip h' (s.heap.objs.size + 4) (s.heap.objs.size + 2) (s.heap.objs.size + 3) .none → IsPair h' (s.heap.objs.size + 2) (.ref s.heap.objs.size) (.ref (s.heap.objs.size + 1)) →
      IsPair h' (s.heap.objs.size + 3) .none .none → h'.IsListIter s.heap.objs.size l1 0 → h'.IsTupleIter (s.heap.objs.size + 1) l2 0 → h'.objs.size = s.heap.objs.size + 5 →
      (∀ c o, s.heap.get? c = some o → h'.get? c = some o) → Q (.ref (s.heap.objs.size + 4)) { s with heap := h' }) :
    wpAny (model prog w) A (call (.type "zip") [.ref l1, .ref l2]) Q E s := by
  refine callType_new F.called_zip (by decide) (F.typeCall_zip_2 _ _) (F.newCall_zip_2 _ _) (fun obj => F.args_object_init_3 obj _ _) F.entry_zip_new
    (meets_zipM_new l1 l2 xs ys) ⟨hl1, hl2, ?_⟩
  have z1 : (zipMH1 s.heap l1).objs.size = s.heap.objs.size + 1 := Heap.size_push ..
  have z2 : (zipMH2 s.heap l1 l2).objs.size = s.heap.objs.size + 2 := by rw [Heap.size_push, z1]
  have z3 : (zipMH3 s.heap l1 l2).objs.size = s.heap.objs.size + 3 := by rw [Heap.size_push, z2]
  have z4 : (zipMH4 s.heap l1 l2).objs.size = s.heap.objs.size + 4 := by rw [Heap.size_push, z3]
  have z5 : (zipMH5 s.heap l1 l2).objs.size = s.heap.objs.size + 5 := by rw [Heap.size_push, z4]
  have g5 : (zipMH5 s.heap l1 l2).get? (zipMH4 s.heap l1 l2).objs.size = some _ := Heap.get?_push_size _ rfl
  have g4 : (zipMH5 s.heap l1 l2).get? (zipMH3 s.heap l1 l2).objs.size = some _ := Heap.get?_push_of_some _ (Heap.get?_push_size _ rfl)
  have g3 : (zipMH5 s.heap l1 l2).get? (zipMH2 s.heap l1 l2).objs.size = some _ := Heap.get?_push_of_some _ (Heap.get?_push_of_some _ (Heap.get?_push_size _ rfl))
  have g2 : (zipMH5 s.heap l1 l2).get? (zipMH1 s.heap l1).objs.size = some _ := Heap.get?_push_of_some _ (Heap.get?_push_of_some _ (Heap.get?_push_of_some _ (Heap.get?_push_size _ rfl)))
  have g1 : (zipMH5 s.heap l1 l2).get? s.heap.objs.size = some _ := Heap.get?_push_of_some _ (Heap.get?_push_of_some _ (Heap.get?_push_of_some _ (Heap.get?_push_of_some _ (Heap.get?_push_size _ rfl))))
  show _ ∧ _
  rw [z2, z3, z4] at g5
  rw [z1, z2] at g3
  rw [z3] at g4
  rw [z1] at g2
  rw [z4]
  exact ⟨⟨_, g5, rfl⟩, h _ g5 g3 g4 ⟨_, g1, rfl, rfl⟩ ⟨_, g2, rfl, rfl⟩ z5 fun c o x =>
    Heap.get?_push_of_some _ (Heap.get?_push_of_some _ (Heap.get?_push_of_some _ (Heap.get?_push_of_some _ (Heap.get?_push_of_some _ x))))⟩
end

section
open PySem.Spec PyProof.Rows L2
/-- a list and a tuple, walked together -/
def ItzM (K : PySem.W.Frag) (a b : Addr) : It :=
  ⟨fun i H => ∃ (xs ys : List V) (x y : V), SqL K H a xs ∧ SqT K H b ys ∧ xs[i]? = some x ∧ ys[i]? = some y,
    fun i H v H' => ∃ T x y, v = .ref T ∧ H T = none ∧ H' = upd H T (.tup [x, y]) ∧ (∀ xs, SqL K H a xs → xs[i]? = some x) ∧ ∀ ys, SqT K H b ys → ys[i]? = some y,
    fun i H => ∃ xs ys : List V, SqL K H a xs ∧ SqT K H b ys ∧ (xs.length ≤ i ∨ ys.length ≤ i)⟩
theorem turn_zipM {P : Program} {w : World} {K : PySem.W.Frag} {elts : List Expr} {kk : Nat} {tpos : Pos} {a b z TI TO i1 i2 : Addr} (D : ZipApart z TI TO i1 i2 a b) :
    Turn P w K (.Tuple elts kk tpos) (ItzM K a b) [z, TI, TO, i1, i2] z (fun i h => IsZip h z TI TO .none ∧ IsPair h TI (.ref i1) (.ref i2) ∧ (∃ x y, IsPair h TO x y) ∧ h.IsListIter i1 a i ∧ h.IsTupleIter i2 b i) where
  mem := by simp
  obj := fun i h st c hc => by
    obtain ⟨hz, hTI, ⟨x, y, hTO⟩, ⟨o1, e1, _, d1⟩, ⟨o2, e2, _, d2⟩⟩ := st
    have e' : c = z ∨ c = TI ∨ c = TO ∨ c = i1 ∨ c = i2 := by simpa using hc
    rcases e' with q | q | q | q | q
    · rw [q]; exact ⟨_, hz, fun v q => nomatch q⟩
    · rw [q]; exact ⟨_, hTI, fun v q => nomatch q⟩
    · rw [q]; exact ⟨_, hTO, fun v q => nomatch q⟩
    · rw [q]; exact ⟨o1, e1, fun v q => by rw [d1] at q; cases q⟩
    · rw [q]; exact ⟨o2, e2, fun v q => by rw [d2] at q; cases q⟩
  keep := fun i h h' st k => by
    obtain ⟨hz, hTI, ⟨x, y, hTO⟩, h1, h2⟩ := st
    exact ⟨k z (by simp) _ hz, k TI (by simp) _ hTI, ⟨x, y, k TO (by simp) _ hTO⟩, h1.at fun o q => k i1 (by simp) o q, h2.at fun o q => k i2 (by simp) o q⟩
  item := by
    intro X hP hw hK hc i pins s σ H E I hf st hg
    subst hP hw hK
    obtain ⟨hz, hTI, ⟨x0, y0, hTO⟩, h1, h2⟩ := st
    obtain ⟨xs, ys, x, y, hqx, hqy, hx, hy⟩ := hg
    obtain ⟨its, rv, p, _⟩ := I.list hqx
    obtain ⟨its2, rv2, p2, _⟩ := I.tuple hqy
    obtain ⟨u, hu, ru⟩ := rv.get hx
    obtain ⟨u2, hu2, ru2⟩ := rv2.get hy
    have hzl : z < s.heap.objs.size := Heap.lt_size hz
    refine pyNext_zipM_item D hz hTI hTO h1 h2 p.isList p2 (x := u) (y := u2) (by simpa using hu) (by simpa using hu2) fun h' z' TO' h1' h2' hT hsz hk => ?_
    refine ⟨_, rfl, wpAny_letOwnedTupleGo_zip (s := { s with heap := h' }) z' fun h'' z'' sb => ?_⟩
    have hT2 : h''.get? s.heap.objs.size = some { cls := .type "tuple", data := .seq #[u, u2] } := (sb.2 _ (Nat.ne_of_gt hzl)).trans hT
    have new : ObjOk X.prog X.w (upd H s.heap.objs.size (.tup [x, y])) h'' s.heap.objs.size (.tup [x, y]) :=
      ⟨by show 2 ≤ sizeLine; decide, [u, u2], .cons ru (.cons ru2 .nil), ⟨_, hT2, rfl, _, rfl⟩⟩
    have I1 : Inv X pins σ (upd H s.heap.objs.size (.tup [x, y])) { s with heap := h'' } :=
      I.turnedNew (t' := s.toks) (ch := [z, TI, TO, i1, i2]) (fun c o hb q => (sb.2 c (fun q' => hb (by simp [q']))).trans (hk c o (fun q' => hb (by simp [q'])) (fun q' => hb (by simp [q'])) (fun q' => hb (by simp [q'])) (fun q' => hb (by simp [q'])) q)) hf (Nat.le_refl _) new
    refine ⟨.ref s.heap.objs.size, _, I1, rfl, ⟨_, x, y, rfl, I.hok.fresh (Nat.le_refl _), rfl, fun l hl => by rw [I.list_inj hl hqx]; exact hx, fun l hl => by rw [I.tuple_inj hl hqy]; exact hy⟩, ⟨z'', ?_, ⟨u, u2, ?_⟩, ?_, ?_⟩, fun c hcm => ?_⟩
    · exact (sb.2 _ D.TIz).trans (hk _ _ D.TIz D.TITO D.TIi1 D.TIi2 hTI)
    · exact (sb.2 _ D.TOz).trans TO'
    · exact h1'.at fun o q => (sb.2 _ D.i1z).trans q
    · exact h2'.at fun o q => (sb.2 _ D.i2z).trans q
    · have hlt : c < s.heap.objs.size := by
        have e' : c = z ∨ c = TI ∨ c = TO ∨ c = i1 ∨ c = i2 := by simpa using hcm
        rcases e' with q | q | q | q | q
        · rw [q]; exact hzl
        · rw [q]; exact Heap.lt_size hTI
        · rw [q]; exact Heap.lt_size hTO
        · rw [q]; obtain ⟨_, e1, _⟩ := h1; exact Heap.lt_size e1
        · rw [q]; obtain ⟨_, e2, _⟩ := h2; exact Heap.lt_size e2
      rw [upd_ne (Nat.ne_of_lt hlt)]
      exact (hf c hcm).1
  done := by
    intro X hP hw hK hc i pins s σ H E I hf st hg
    subst hP hw hK
    obtain ⟨hz, hTI, ⟨x0, y0, hTO⟩, h1, h2⟩ := st
    obtain ⟨xs, ys, hqx, hqy, hend⟩ := hg
    obtain ⟨its, rv, p, _⟩ := I.list hqx
    obtain ⟨its2, rv2, p2, _⟩ := I.tuple hqy
    have l1 := rv.length
    have l2 := rv2.length
    have he : its.toArray[i]? = none ∨ its2.toArray[i]? = none := by
      rcases hend with q | q
      · exact .inl (by simp; omega)
      · exact .inr (by simp; omega)
    exact pyNext_zipM_end (I.ok.hd hc) D hz hTI hTO h1 h2 p.isList p2 he fun h' hk => ⟨rfl, I.turnedL (t' := s.toks) (ch := [z, TI, TO, i1, i2]) (fun c o hb q =>
      hk c o (fun q' => hb (by simp [q'])) (fun q' => hb (by simp [q'])) (fun q' => hb (by simp [q'])) (fun q' => hb (by simp [q'])) q) hf⟩
  self := fun A i s Q E st h => wpAny_pyIter_zip st.1 h


def iZipM (K : PySem.W.Frag) (ta : TA) : TI := fun σ H R => ta σ H fun vs H1 => ∃ a b xs ys, vs = [.ref a, .ref b] ∧ SqL K H1 a xs ∧ SqT K H1 b ys ∧ R (ItzM K a b) H1
theorem pi_zipM {X : Cx} {e e2 : Expr} {ta : TA} {p pos tpos : Pos} {elts : List Expr} {kk : Nat} (hg : Gl X "zip") (hm : X.mg "zip" = none) (ha : PA X [e, e2] ta)
    (hs : starEach [e, e2] X.env = (false, eval e X.env) :: starEach [e2] X.env := by rfl) (hpl : (backTo pos (starEach [e2] X.env)).any (·.1) = false := by rfl) :
    PI X (.Tuple elts kk tpos) (.Call (.Name "zip" p) [e, e2] [] pos) (iZipM X.K ta) := by
  refine ⟨fun pins s σ H R I h => ?_⟩
  refine Call_ (ld_blt I hg hm PyProof.Rows.boot_zip (PyProof.Rows.callWith_type1 (thn (ha.run pos pins s σ H _ I h) fun us s1 ⟨vs, H1, I1, r1, q1⟩ => ?_) hs hpl))
  obtain ⟨a, b, xs, ys, ex, hqx, hqy, q⟩ := q1
  subst ex
  cases r1 with
  | cons r rr =>
    cases rr with
    | cons r' rr =>
      cases rr
      cases r
      cases r'
      have fresh5 : ∀ c, c ∈ [s1.heap.objs.size + 4, s1.heap.objs.size + 2, s1.heap.objs.size + 3, s1.heap.objs.size, s1.heap.objs.size + 1] → FpOk X pins H1 c := fun c hcm => by
        have hle : s1.heap.objs.size ≤ c := by
          have e' : c = s1.heap.objs.size + 4 ∨ c = s1.heap.objs.size + 2 ∨ c = s1.heap.objs.size + 3 ∨ c = s1.heap.objs.size ∨ c = s1.heap.objs.size + 1 := by simpa using hcm
          rcases e' with z | z | z | z | z
          · rw [z]; exact Nat.le_add_right _ _
          · rw [z]; exact Nat.le_add_right _ _
          · rw [z]; exact Nat.le_add_right _ _
          · rw [z]; exact Nat.le_refl _
          · rw [z]; exact Nat.le_add_right _ _
        exact I1.fpOk hle (I1.hok.fresh hle)
      obtain ⟨its, rv, p1, _⟩ := I1.list hqx
      obtain ⟨its2, rv2, p2, _⟩ := I1.tuple hqy
      obtain ⟨o2, ho2, _⟩ := id p2
      refine call_zipM p1.isList (show s1.heap.IsTuple b its2.toArray from p2) fun h' hz hTI hTO h1 h2 hsz hk => wpAny_pyIter_zip hz ?_
      have I2 : Inv X pins σ H1 { s1 with heap := h' } := I1.kept (t' := s1.toks) hk
      exact ⟨s1.heap.objs.size + 4, [s1.heap.objs.size + 4, s1.heap.objs.size + 2, s1.heap.objs.size + 3, s1.heap.objs.size, s1.heap.objs.size + 1], _, _, H1, rfl, I2, turn_zipM (PySem.W.ktu_apart s1.heap.objs.size a b p1.lt (Heap.lt_size ho2)), ⟨hz, hTI, ⟨_, _, hTO⟩, h1, h2⟩, fresh5, q⟩

end
end Sy

set_option Elab.async false
set_option linter.all false
set_option maxRecDepth 100000
set_option maxHeartbeats 2000000
namespace Sy
open PySem L2
section
variable {B : Bs} {g : Gs} {S : List SV} {C : Cs} {k : SV → Cs → Prop} {ka : List SV → Cs → Prop} {te ta tb tc tl : TE} {t' : TA} {tt tu : TT}
/-- pairs of two lists -/
def zipD (ds es : List D) : List D := (ds.zip es).map fun p => .tuple [p.1, p.2]
theorem zipD_len (ds es : List D) : (zipD ds es).length = min ds.length es.length := by simp [zipD]
theorem at_dat {F : Hp} {K : PySem.W.Frag} {ρ : Nat → Addr} {n : Nat} {ws : List V} {ds : List D} (h : Paired (SIs K F ρ n) ws (ds.map .dat)) {i : Nat} {x : V} (e : ws[i]? = some x) : ∃ d, ds[i]? = some d ∧ Is K F x d := by
  obtain ⟨y, e2, q⟩ := paired_at' h e
  rw [List.getElem?_map] at e2
  cases ed : ds[i]? with
  | none => rw [ed] at e2; cases e2
  | some d =>
    rw [ed] at e2
    cases e2
    exact ⟨d, rfl, q⟩
theorem wi_zip {k : List SV → List SV → (Cs → Prop) → Cs → Prop} (h : Wa B t' g S C fun ss C1 => ∃ ds es : List D, ss = [.dat (.list ds), .dat (.list es)] ∧ k [.dat (.list es), .dat (.list ds)] ((zipD ds es).map .dat) (fun _ => True) C1) : Wi B (iZip B.K t') g S C k := fun σ vs H R0 R kq =>
  h σ vs H _ R fun ss C1 us H1 ⟨ds, es, e, q⟩ l R1 => by
    subst e
    obtain ⟨u, w, rfl, R2⟩ := R1.two l
    obtain ⟨F, ρ, R3, hy⟩ := R2.top
    obtain ⟨R4, hx⟩ := R3.pop
    obtain ⟨a, ws, rfl, ha, hp⟩ := R4.lv hx .dat
    obtain ⟨b, us, rfl, hb, hp2⟩ := R4.lv hy .dat
    refine ⟨a, b, ws, us, rfl, SqL.of ha, SqL.of hb, kq (Itz B.K a b) [.dat (.list es), .dat (.list ds)] [.ref b, .ref a] _ (fun _ => True) C1 H1 q rfl (fun i g' S' C' σ' vs' H' _ R5 => ?_) R2⟩
    obtain ⟨F5, ρ5, R6, hy5⟩ := Rel.top (S := .dat (.list ds) :: S') (vs := .ref a :: vs') R5
    obtain ⟨R7, hx5⟩ := R6.pop
    obtain ⟨a5, ws5, ea, ha5, hp5⟩ := R7.lv hx5 .dat
    obtain ⟨b5, us5, eb, hb5, hq5⟩ := R7.lv hy5 .dat
    cases ea
    cases eb
    have l1 := Paired.length hp5
    have l2 := Paired.length hq5
    rw [List.length_map] at l1 l2
    have l3 : ((zipD ds es).map SV.dat).length = min ds.length es.length := by rw [List.length_map, zipD_len]
    rw [l3]
    refine ⟨fun hi => ⟨⟨ws5, us5, ws5[i]'(by omega), us5[i]'(by omega), SqL.of ha5, SqL.of hb5, List.getElem?_eq_getElem _, List.getElem?_eq_getElem _⟩, fun x H2 y => ?_⟩, fun hi => ⟨ws5, us5, SqL.of ha5, SqL.of hb5, by omega⟩⟩
    obtain ⟨T, x1, x2, e, hT, eH, y1, y2⟩ := y
    subst e eH
    obtain ⟨d1, ed1, h1⟩ := at_dat hp5 (y1 ws5 (SqL.of ha5))
    obtain ⟨d2, ed2, h2⟩ := at_dat hq5 (y2 us5 (SqL.of hb5))
    obtain ⟨R8, L⟩ := R7.lay (o := .tup [x1, x2]) hT
    have hx8 := hx5.mono L (Nat.le_refl _) fun _ _ => rfl
    have hy8 := hy5.mono L (Nat.le_refl _) fun _ _ => rfl
    refine ⟨.dat (.tuple [d1, d2]), ?_, _, ρ5, ((R8.push hx8).push hy8).push (.tup (SqT.of upd_same) (.cons (h1.mono L) (.cons (h2.mono L) .nil)))⟩
    rw [List.getElem?_map]
    unfold zipD
    rw [List.getElem?_map, List.getElem?_zip_eq_some (z := (d1, d2)) |>.mpr ⟨ed1, ed2⟩]
    rfl
theorem wi_zipM {k : List SV → List SV → (Cs → Prop) → Cs → Prop} (h : Wa B t' g S C fun ss C1 => ∃ ds es : List D, ss = [.dat (.list ds), .dat (.tuple es)] ∧ k [.dat (.tuple es), .dat (.list ds)] ((zipD ds es).map .dat) (fun _ => True) C1) : Wi B (iZipM B.K t') g S C k := fun σ vs H R0 R kq =>
  h σ vs H _ R fun ss C1 us H1 ⟨ds, es, e, q⟩ l R1 => by
    subst e
    obtain ⟨u, w, rfl, R2⟩ := R1.two l
    obtain ⟨F, ρ, R3, hy⟩ := R2.top
    obtain ⟨R4, hx⟩ := R3.pop
    obtain ⟨a, ws, rfl, ha, hp⟩ := R4.lv hx .dat
    obtain ⟨b, us, rfl, hb, hp2⟩ := R4.tv hy
    refine ⟨a, b, ws, us, rfl, SqL.of ha, hb, kq (ItzM B.K a b) [.dat (.tuple es), .dat (.list ds)] [.ref b, .ref a] _ (fun _ => True) C1 H1 q rfl (fun i g' S' C' σ' vs' H' _ R5 => ?_) R2⟩
    obtain ⟨F5, ρ5, R6, hy5⟩ := Rel.top (S := .dat (.list ds) :: S') (vs := .ref a :: vs') R5
    obtain ⟨R7, hx5⟩ := R6.pop
    obtain ⟨a5, ws5, ea, ha5, hp5⟩ := R7.lv hx5 .dat
    obtain ⟨b5, us5, eb, hb5, hq5⟩ := R7.tv hy5
    cases ea
    cases eb
    have l1 := Paired.length hp5
    have l2 := Paired.length hq5
    rw [List.length_map] at l1 l2
    have l3 : ((zipD ds es).map SV.dat).length = min ds.length es.length := by rw [List.length_map, zipD_len]
    rw [l3]
    refine ⟨fun hi => ⟨⟨ws5, us5, ws5[i]'(by omega), us5[i]'(by omega), SqL.of ha5, hb5, List.getElem?_eq_getElem _, List.getElem?_eq_getElem _⟩, fun x H2 y => ?_⟩, fun hi => ⟨ws5, us5, SqL.of ha5, hb5, by omega⟩⟩
    obtain ⟨T, x1, x2, e, hT, eH, y1, y2⟩ := y
    subst e eH
    obtain ⟨d1, ed1, h1⟩ := at_dat hp5 (y1 ws5 (SqL.of ha5))
    obtain ⟨d2, ed2, h2⟩ := at_dat hq5 (y2 us5 hb5)
    obtain ⟨R8, L⟩ := R7.lay (o := .tup [x1, x2]) hT
    have hx8 := hx5.mono L (Nat.le_refl _) fun _ _ => rfl
    have hy8 := hy5.mono L (Nat.le_refl _) fun _ _ => rfl
    refine ⟨.dat (.tuple [d1, d2]), ?_, _, ρ5, ((R8.push hx8).push hy8).push (.tup (SqT.of upd_same) (.cons (h1.mono L) (.cons (h2.mono L) .nil)))⟩
    rw [List.getElem?_map]
    unfold zipD
    rw [List.getElem?_map, List.getElem?_zip_eq_some (z := (d1, d2)) |>.mpr ⟨ed1, ed2⟩]
    rfl
/-! ## isinstance(x, tuple) of data -/
def isTupD : D → Bool
  | .tuple _ => true
  | _ => false
theorem tyx {K : PySem.W.Frag} {F H : Hp} (e : Le F H) {v : V} {d : D} (h : Is K F v d) (hd : ∀ ks, d ≠ .dict ks) : ∃ n, TyX K H v (.type n) ∧ (n = "tuple" ∧ isTupD d = true ∨ (n = "NoneType" ∨ n = "bool" ∨ n = "int" ∨ n = "str" ∨ n = "list") ∧ isTupD d = false) := by
  cases h with
  | non => exact ⟨_, .base .non, .inr ⟨.inl rfl, rfl⟩⟩
  | bl b => exact ⟨_, .base (.bl b), .inr ⟨.inr (.inl rfl), rfl⟩⟩
  | int b => exact ⟨_, .base (.int b), .inr ⟨.inr (.inr (.inl rfl)), rfl⟩⟩
  | str b => exact ⟨_, .base (.str b), .inr ⟨.inr (.inr (.inr (.inl rfl))), rfl⟩⟩
  | lst h _ => exact ⟨_, .base (.lst (e _ _ h)), .inr ⟨.inr (.inr (.inr (.inr rfl))), rfl⟩⟩
  | tup h _ =>
    refine ⟨"tuple", ?_, .inl ⟨rfl, rfl⟩⟩
    rcases e.sqt h with (h | ⟨o, h⟩) | ⟨o, its, n, h1, h2, _⟩
    · exact .base (.tup h)
    · exact .fTuple h
    · exact .kTuple h1 h2
  | dct _ _ => exact absurd rfl (hd _)
theorem we_ty {n : String} {k : V → Hp → Prop} {σ : St} {H : Hp} (q : k (.ty n) H) : (tC (.ty n)) σ H k := q
/-- isinstance(x, tuple) -/
theorem we_isTup (h : We B ta g S C fun s C1 => ∃ d, s = .dat d ∧ (∀ ks, d ≠ .dict ks) ∧ k (.dat (.bool (isTupD d))) C1) : We B (tCB (rIsi B.K) (tCons ta (tCons (tC (.ty "tuple")) tNil))) g S C k := fun σ vs H Q R kq =>
  h σ vs H _ R fun s C1 v H1 ⟨d, e, hd, q⟩ R1 => by
    subst e
    obtain ⟨F, ρ, R2, hx⟩ := R1.top
    obtain ⟨n, ty, hn⟩ := tyx R2.le hx hd
    refine ⟨v, .ty "tuple", .type n, .type "tuple", isTupD d, rfl, .ty _, ty, ?_, kq _ C1 _ H1 q (R1.drop1.sc rfl)⟩
    refine kit_ty ?_
    rcases hn with ⟨rfl, e⟩ | ⟨rfl | rfl | rfl | rfl | rfl, e⟩ <;> rw [e] <;> decide +kernel
/-! ## is True, is False -/
theorem wr_isB {a b : Bool} (q : k (.dat (.bool (decide (a = b)))) C) : Wr B rIsB (.dat (.bool a)) (.dat (.bool b)) g S C k := fun σ vs H Q v w R kq => by
  obtain rfl := R.top_bl
  obtain rfl := R.drop1.top_bl
  exact ⟨a, b, rfl, rfl, kq _ C _ H q (R.drop1.drop1.sc rfl)⟩
theorem wr_notB {a b : Bool} (q : k (.dat (.bool (!decide (a = b)))) C) : Wr B rNotB (.dat (.bool a)) (.dat (.bool b)) g S C k := fun σ vs H Q v w R kq => by
  obtain rfl := R.top_bl
  obtain rfl := R.drop1.top_bl
  exact ⟨a, b, rfl, rfl, kq _ C _ H q (R.drop1.drop1.sc rfl)⟩
/-- a part of a tuple -/
theorem wl_tupA {ds : List D} {lo hi : Option Int} (q : k (.dat (.tuple (cutL ds lo hi))) C) : Wl B (rSlA B.K) (.dat (.tuple ds)) lo hi g S C k := fun σ vs H Q v R kq => by
  obtain ⟨F, ρ, R1, hx⟩ := R.top
  have hx0 := hx
  obtain ⟨a, ws, rfl, ha, hp⟩ := R1.tv hx
  have l1 := Paired.length hp
  rw [List.length_map] at l1
  have hc := paired_cut hp lo hi
  rw [cutL_map] at hc
  refine ⟨a, ws, rfl, ha, fun ⟨z1, z2⟩ => ?_, fun _ p hp2 => ?_⟩
  · have e : cutL ds lo hi = ds := by
      unfold cutL
      rw [← l1, z1, z2, l1]
      simp
    rw [e] at q
    exact kq _ C _ _ q ⟨F, ρ, R1.push hx0⟩
  · obtain ⟨R4, L⟩ := R1.lay (o := .tup (cutV ws lo hi)) hp2
    exact kq _ C _ _ q ⟨_, ρ, R4.push (.tup (SqT.of upd_same) ((all_sis hc).mono L))⟩
end
end Sy

set_option Elab.async false
set_option linter.all false
set_option maxRecDepth 100000
set_option maxHeartbeats 2000000
namespace Sy
open PySem PySem.Spec PyProof.Rows L2 PySem.W PySem.Calls
/-- the __init__ of the own exceptions, as it may be called -/
def SupH (P : Program) (w : World) (K : PySem.W.Frag) (mg : Str → Option Value) (base : Heap) : Prop :=
  ∃ (fI : FuncData), FnOk P w K mg base (L2.CX P w) 1 (He.fAd K ("BoxError", some "__init__")) fI ["self", "at"] (spSup K (He.ga K "BoxError")) ∧ Binds K fI ["self", "at"] []
/-- a def that is never called -/
def cNever : Cp where
  ι := Unit
  pre _ := False
  args _ := []
  post _ _ := False
theorem never_sp {K : PySem.W.Frag} {vs : List V} {H : Hp} {Q : VK} {E : XK} (h : cNever.sp K vs H Q E) : False := by
  obtain ⟨_, _, hp, _⟩ := h
  exact hp
theorem cl_never {P : Program} {w : World} {K : PySem.W.Frag} {mg : Str → Option Value} {base : Heap} {k : Nat} {f : Addr} {ps : List Str} {fd : FuncData} (b : Binds K fd ps []) (kp : PySem.W.keepIn K (.ref f) = true) : Cl P w K mg base k f ps (cNever.sp K) :=
  ⟨fd, ⟨fun _ _ _ _ h => (never_sp h).elim, fun _ _ _ _ _ _ _ _ _ _ _ _ _ h => (never_sp h).elim⟩, b, kp⟩
end Sy

set_option Elab.async false
set_option linter.all false
set_option maxRecDepth 100000
set_option maxHeartbeats 1000000
namespace Sy
open PySem L2
/-! ## contracts with cells -/
/-- the names of cells, told anew -/
def SV.rn (f : Nat → Nat) : SV → SV
  | .ref i => .ref (f i)
  | s => s
def Cell.rn (f : Nat → Nat) : Cell → Cell
  | .lst xs => .lst (xs.map (SV.rn f))
  | .dct ks => .dct (ks.map fun p => (p.1, p.2.rn f))
  | .ins C fs => .ins C (fs.map fun p => (p.1, p.2.rn f))
/-- only cells below n are named -/
def SV.lt (n : Nat) : SV → Prop
  | .ref i => i < n
  | _ => True
def Cell.lt (n : Nat) : Cell → Prop
  | .lst xs => ∀ x ∈ xs, x.lt n
  | .dct ks => ∀ p ∈ ks, p.2.lt n
  | .ins _ fs => ∀ p ∈ fs, p.2.lt n
/-- j of the callee is is[j] of the caller, behind these N, N + 1, .. -/
def ren (is : List Nat) (N : Nat) (j : Nat) : Nat := match is[j]? with
  | some i => i
  | none => N + (j - is.length)
def wrC (f : Nat → Nat) : Cs → List Nat → Cs → Cs
  | C, i :: is, c :: cs => wrC f (C.set i (c.map (Cell.rn f))) is cs
  | C, _, _ => C
def mergeC (C : Cs) (is : List Nat) (C' : Cs) : Cs := wrC (ren is C.length) C is C' ++ (C'.drop is.length).map (Option.map (Cell.rn (ren is C.length)))
theorem wrC_len (f : Nat → Nat) : ∀ (is : List Nat) (C C' : Cs), (wrC f C is C').length = C.length
  | [], C, _ => by unfold wrC; rfl
  | i :: is, C, [] => by unfold wrC; rfl
  | i :: is, C, c :: cs => by
    rw [wrC, wrC_len f is]
    exact List.length_set
theorem wrC_out (f : Nat → Nat) {j : Nat} : ∀ (is : List Nat) (C C' : Cs), j ∉ is → (wrC f C is C')[j]? = C[j]?
  | [], C, _, _ => by unfold wrC; rfl
  | i :: is, C, [], _ => by unfold wrC; rfl
  | i :: is, C, c :: cs, h => by
    rw [wrC, wrC_out f is _ _ fun z => h (List.mem_cons_of_mem _ z)]
    exact List.getElem?_set_ne fun e => h (by rw [e]; exact List.mem_cons_self)
theorem wrC_in (f : Nat → Nat) : ∀ (is : List Nat) (C C' : Cs), is.Nodup → (∀ i ∈ is, i < C.length) → is.length ≤ C'.length → ∀ {k i : Nat}, is[k]? = some i → ∃ c, C'[k]? = some c ∧ (wrC f C is C')[i]? = some (c.map (Cell.rn f))
  | [], _, _, _, _, _, k, i, h => by simp at h
  | a :: is, C, [], _, _, hl, k, i, h => by simp at hl
  | a :: is, C, c :: cs, hd, hb, hl, 0, i, h => by
    simp at h
    subst h
    obtain ⟨h1, h2⟩ := List.nodup_cons.mp hd
    refine ⟨c, rfl, ?_⟩
    rw [wrC, wrC_out f is _ _ h1]
    exact List.getElem?_set_self (hb a List.mem_cons_self)
  | a :: is, C, c :: cs, hd, hb, hl, k + 1, i, h => by
    obtain ⟨h1, h2⟩ := List.nodup_cons.mp hd
    have h' : is[k]? = some i := by simpa using h
    obtain ⟨c', e1, e2⟩ := wrC_in f is (C.set a (c.map (Cell.rn f))) cs h2 (fun i hi => by rw [List.length_set]; exact hb i (List.mem_cons_of_mem _ hi)) (by simpa using hl) h'
    exact ⟨c', by simpa using e1, by rw [wrC]; exact e2⟩
structure Ct where
  ι : Type
  pre : ι → Prop
  args : ι → List SV
  cells : ι → Cs
  post : ι → SV → Cs → Prop
  exc : ι → Addr → Int → Prop := fun _ _ _ => False
def Ct.sp (K : PySem.W.Frag) (c : Ct) : Sp := fun vs H Q E => ∃ (i : c.ι) (F : Hp) (ρ : Nat → Addr), c.pre i ∧ Rl ⟨K, H, F, (c.cells i).length, ρ⟩ [] (c.args i) (c.cells i) [] vs H F ρ ∧
  (∀ s C' v H', c.post i s C' → Rel ⟨K, H, F, (c.cells i).length, ρ⟩ [] [s] C' [] [v] H' → Q v H') ∧ Xk ⟨K, H, F, (c.cells i).length, ρ⟩ E (c.exc i)
theorem Ct.len {K : PySem.W.Frag} {c : Ct} {n : Nat} (h : ∀ i, (c.args i).length = n) (vs : List V) (H : Hp) (Q : VK) (E : XK) (p : c.sp K vs H Q E) : vs.length = n := let ⟨i, _, _, _, R, _⟩ := p; (Paired.length R.stk).trans (h i)
/-- the body of such a def -/
theorem Ct.body {K : PySem.W.Frag} {c : Ct} {vs : List V} {H : Hp} {Q : VK} {E : XK} {N : List Str} {t : TS} (h : c.sp K vs H Q E)
    (hb : ∀ (B : Bs) (i : c.ι), B.K = K → c.pre i → Xk B E (c.exc i) → B.n0 = (c.cells i).length →
      Ws B t ((c.args i).map some ++ List.replicate (N.length - (c.args i).length) none) [] (c.cells i) ⟨fun _ C => c.post i (.dat .none) C, fun s C => c.post i s C, fun _ _ => False, fun _ _ => False⟩) :
    t { nx := fun _ H' => Q .non H', rt := Q } (L2.start N vs) H := by
  obtain ⟨i, F, ρ, hp, R, hq, hx⟩ := h
  have hl := Paired.length R.stk
  refine hb ⟨K, H, F, (c.cells i).length, ρ⟩ i rfl hp hx rfl (L2.start N vs) [] H _ ⟨F, ρ, { R with len := ?_, slot := fun j s e => start_slot R.stk e, stk := .nil }⟩ ⟨fun g C σ H' q R2 => ?_, fun s C v H' q R2 => hq s C v H' q R2, fun _ _ _ _ q _ => q.elim, fun _ _ _ _ q _ => q.elim⟩
  · unfold L2.start
    rw [List.length_append, List.length_append, List.length_map, List.length_map, hl, List.length_replicate, List.length_replicate]
  · exact hq (.dat .none) C .non H' q (R2.sc (v := .non) rfl).bare
/-- a call of such a def -/
def Wkc (c : Ct) (ex : Addr → Int → Prop) (ss : List SV) (k : SV → Cs → Prop) (C : Cs) : Prop := ∃ (i : c.ι) (is : List Nat), is.Nodup ∧ is.length = (c.cells i).length ∧ ss = (c.args i).map (SV.rn (ren is C.length)) ∧ (∀ s ∈ c.args i, s.lt is.length) ∧
  (∀ j, j < is.length → ∃ i' c', is[j]? = some i' ∧ (c.cells i)[j]? = some (some c') ∧ c'.lt is.length ∧ C[i']? = some (some (c'.rn (ren is C.length)))) ∧ c.pre i ∧
  (∀ s C', c.post i s C' → is.length ≤ C'.length → k (s.rn (ren is C.length)) (mergeC C is C')) ∧ (∀ cls n, c.exc i cls n → ex cls n)
section
variable {B : Bs} {g : Gs} {S : List SV} {C : Cs} {k : SV → Cs → Prop} {te ta : TE} {t' : TA}
variable {σ : St} {vs : List V} {H : Hp} {F : Hp} {ρ : Nat → Addr}
theorem sis_back {K : PySem.W.Frag} {F : Hp} {ρ ρc : Nat → Addr} {n N : Nat} {f : Nat → Nat} (hf : ∀ j, j < n → ρc j = ρ (f j)) {v : V} : ∀ {s : SV}, s.lt n → SIs K F ρ N v (s.rn f) → SIs K F ρc n v s
  | .dat _, _, h => h
  | .scr _, _, h => h
  | .ref j, hl, h => ⟨hl, by rw [hf j hl]; exact h.2⟩
theorem sis_forth {K : PySem.W.Frag} {F : Hp} {ρ ρc : Nat → Addr} {n N : Nat} {f : Nat → Nat} (hf : ∀ j, j < n → f j < N ∧ ρ (f j) = ρc j) {v : V} : ∀ {s : SV}, SIs K F ρc n v s → SIs K F ρ N v (s.rn f)
  | .dat _, h => h
  | .scr _, h => h
  | .ref j, ⟨hl, h⟩ => ⟨(hf j hl).1, by rw [(hf j hl).2]; exact h⟩
theorem paired_mapR {α β γ : Type} {P : α → β → Prop} {Q : α → γ → Prop} (f : γ → β) (h : ∀ a c, P a (f c) → Q a c) : ∀ {xs : List α} {ys : List γ}, Paired P xs (ys.map f) → Paired Q xs ys
  | [], [], _ => .nil
  | _ :: _, _ :: _, .cons a r => .cons (h _ _ a) (paired_mapR f h r)
  | [], _ :: _, h => nomatch h
  | _ :: _, [], h => nomatch h
theorem paired_mapL {α β γ : Type} {P : α → γ → Prop} {Q : α → β → Prop} (f : γ → β) (h : ∀ a c, P a c → Q a (f c)) : ∀ {xs : List α} {ys : List γ}, Paired P xs ys → Paired Q xs (ys.map f)
  | _, _, .nil => .nil
  | _, _, .cons a r => .cons (h _ _ a) (paired_mapL f h r)
theorem paired_mem {α β : Type} {P Q : α → β → Prop} : ∀ {xs : List α} {ys : List β}, Paired P xs ys → (∀ a b, b ∈ ys → P a b → Q a b) → Paired Q xs ys
  | _, _, .nil, _ => .nil
  | _, _, .cons a r, h => .cons (h _ _ List.mem_cons_self a) (paired_mem r fun a b hb => h a b (List.mem_cons_of_mem _ hb))
theorem cis_back {K : PySem.W.Frag} {F : Hp} {ρ ρc : Nat → Addr} {n N : Nat} {f : Nat → Nat} (hf : ∀ j, j < n → ρc j = ρ (f j)) {o : HO} : ∀ {c : Cell}, c.lt n → CIs K F ρ N o (c.rn f) → CIs K F ρc n o c
  | .lst xs, hl, h => by
    cases h with
    | lst h => exact .lst (paired_mem (paired_mapR (SV.rn f) (fun _ _ q => q) h) fun a b hb q => sis_back hf (hl b hb) q)
  | .dct ks, hl, h => by
    cases h with
    | dct h => exact .dct (paired_mem (paired_mapR (fun p : Key × SV => (p.1, p.2.rn f)) (fun _ _ q => q) h) fun a b hb q => ⟨q.1, sis_back hf (hl b hb) q.2⟩)
  | .ins C fs, hl, h => by
    cases h with
    | ins h => exact .ins (paired_mem (paired_mapR (fun p : Str × SV => (p.1, p.2.rn f)) (fun _ _ q => q) h) fun a b hb q => ⟨q.1, sis_back hf (hl b hb) q.2⟩)
theorem cis_forth {K : PySem.W.Frag} {F : Hp} {ρ ρc : Nat → Addr} {n N : Nat} {f : Nat → Nat} (hf : ∀ j, j < n → f j < N ∧ ρ (f j) = ρc j) {o : HO} {c : Cell} (h : CIs K F ρc n o c) : CIs K F ρ N o (c.rn f) := by
  cases h with
  | lst h => exact .lst (paired_mapL (SV.rn f) (fun _ _ q => sis_forth hf q) h)
  | dct h => exact .dct (paired_mapL (fun p : Key × SV => (p.1, p.2.rn f)) (fun _ _ q => ⟨q.1, sis_forth hf q.2⟩) h)
  | ins h => exact .ins (paired_mapL (fun p : Str × SV => (p.1, p.2.rn f)) (fun _ _ q => ⟨q.1, sis_forth hf q.2⟩) h)
theorem ren_in {is : List Nat} {N j i : Nat} (h : is[j]? = some i) : ren is N j = i := by unfold ren; rw [h]
theorem ren_out {is : List Nat} {N j : Nat} (h : is.length ≤ j) : ren is N j = N + (j - is.length) := by
  unfold ren
  rw [List.getElem?_eq_none h]
/-- the call, at the state's level -/
theorem callC {c : Ct} {E : XK} {ex : Addr → Int → Prop} (hX : Xk B E ex) {ss : List SV} {us : List V} {Q : VK} (W : Wkc c ex ss k C) (R : Rl B g S C σ vs H F ρ) (hu : Paired (SIs B.K F ρ C.length) us ss)
    (kq : ∀ (s : SV) (C' : Cs) (v : V) (H' : Hp), k s C' → Rel B g (s :: S) C' σ (v :: vs) H' → Q v H') : c.sp B.K us H Q E := by
  obtain ⟨i, is, nd, hn, ess, hargs, hcells, hp, hk, he⟩ := W
  subst ess
  have hN : ∀ j i', is[j]? = some i' → i' < C.length := fun j i' e => by
    obtain ⟨i2, c', e1, _, _, e4⟩ := hcells j (List.getElem?_eq_some_iff.mp e).1
    rw [e] at e1
    cases e1
    exact (List.getElem?_eq_some_iff.mp e4).1
  have old : ∀ j, j < is.length → ∃ i', is[j]? = some i' ∧ ren is C.length j = i' ∧ i' < C.length := fun j hj => ⟨is[j], List.getElem?_eq_getElem hj, ren_in (List.getElem?_eq_getElem hj), hN j _ (List.getElem?_eq_getElem hj)⟩
  let ρc : Nat → Addr := fun j => ρ (ren is C.length j)
  let Bc : Bs := ⟨B.K, H, F, (c.cells i).length, ρc⟩
  have hne : ∀ (b : Addr) (o : HO), B.H0 b = some o → (∀ i, i < B.n0 → B.r0 i ≠ b) → ∀ j, j < (c.cells i).length → ρc j ≠ b := fun b o e kk j hj z => by
    rw [← hn] at hj
    obtain ⟨i', c', e1, e2, e3, e4⟩ := hcells j hj
    obtain ⟨_, _, q4⟩ := R.cell _ _ e4
    have er : ρc j = ρ i' := by show ρ (ren is C.length j) = _; rw [ren_in e1]
    rw [er] at z
    rcases q4 with q4 | q4
    · exact kk i' q4 (by rw [← R.rho i' q4]; exact z)
    · rw [z, e] at q4; cases q4
  refine ⟨i, F, ρc, hp, ⟨R.le, fun _ _ e => e, fun _ _ e _ => e, fun _ e => e, fun _ _ e => .inl e, fun _ _ => rfl, Nat.le_refl _, fun a b c1 c2 e1 e2 z => ?_, fun a c1 e => ?_, rfl, fun _ _ e => by simp at e, ?_⟩, fun s C' v H' post Rc => ?_, fun cls n dd fs H' x kc a b => hX cls n dd fs H' (he cls n x) (fun b o e kk => kc b o (R.keep b o e kk) (hne b o e kk)) a b⟩
  · have l1 : a < is.length := by rw [hn]; exact (List.getElem?_eq_some_iff.mp e1).1
    have l2 : b < is.length := by rw [hn]; exact (List.getElem?_eq_some_iff.mp e2).1
    obtain ⟨a', ca, a1, _, _, a4⟩ := hcells a l1
    obtain ⟨b', cb, b1, _, _, b4⟩ := hcells b l2
    have z' : ρ a' = ρ b' := by
      have := z
      show ρ a' = ρ b'
      rw [← ren_in (N := C.length) a1, ← ren_in (N := C.length) b1]
      exact this
    have e := R.inj a' b' _ _ a4 b4 z'
    subst e
    have h1 := (List.getElem?_eq_some_iff.mp a1)
    have h2 := (List.getElem?_eq_some_iff.mp b1)
    obtain ⟨p1, p2⟩ := h1
    obtain ⟨q1, q2⟩ := h2
    exact (List.getElem_inj nd).mp (p2.trans q2.symm)
  · have l1 : a < is.length := by rw [hn]; exact (List.getElem?_eq_some_iff.mp e).1
    obtain ⟨a', ca, a1, a2, a3, a4⟩ := hcells a l1
    rw [e] at a2
    cases a2
    obtain ⟨q1, ⟨o, q2, q3⟩, q4⟩ := R.cell _ _ a4
    have er : ρc a = ρ a' := by show ρ (ren is C.length a) = _; rw [ren_in a1]
    rw [er]
    refine ⟨q1, ⟨o, q2, cis_back (f := ren is C.length) (fun _ _ => rfl) (by rw [← hn]; exact a3) q3⟩, .inl (by rw [← hn]; exact l1)⟩
  · exact paired_mem (paired_mapR (SV.rn (ren is C.length)) (fun _ _ q => q) hu) fun a b hb q => sis_back (f := ren is C.length) (fun _ _ => rfl) (by rw [← hn]; exact hargs b hb) q
  · obtain ⟨F', ρ', Rc⟩ := Rc
    have hnc : is.length ≤ C'.length := by rw [hn]; exact Rc.nc
    refine kq _ _ v H' (hk s C' post hnc) ?_
    let N := C.length
    let ρ2 : Nat → Addr := fun j => if j < N then ρ j else ρ' (j - N + is.length)
    have r_old : ∀ j, j < N → ρ2 j = ρ j := fun j h => if_pos h
    have lenM : (mergeC C is C').length = N + (C'.length - is.length) := by
      unfold mergeC
      rw [List.length_append, wrC_len, List.length_map, List.length_drop]
    have hNM : N ≤ (mergeC C is C').length := by rw [lenM]; omega
    have fj : ∀ j, j < C'.length → ren is C.length j < (mergeC C is C').length ∧ ρ2 (ren is C.length j) = ρ' j := fun j hj => by
      by_cases h : j < is.length
      · obtain ⟨i', e1, e2, e3⟩ := old j h
        rw [e2]
        refine ⟨Nat.lt_of_lt_of_le e3 hNM, ?_⟩
        rw [r_old i' e3]
        have := Rc.rho j (by show j < (c.cells i).length; rw [← hn]; exact h)
        rw [this]
        show ρ i' = ρ (ren is C.length j)
        rw [e2]
      · rw [ren_out (by omega), lenM]
        refine ⟨by show N + _ < _; omega, ?_⟩
        show (if N + (j - is.length) < N then _ else ρ' (N + (j - is.length) - N + is.length)) = _
        rw [if_neg (by omega)]
        congr 1
        omega
    have LF : Le F F' := Rc.sub
    have keepc : ∀ b o, H b = some o → (∀ j, j < (c.cells i).length → ρc j ≠ b) → H' b = some o := Rc.keep
    -- what stands at a place of the whole
    have look : ∀ m d, (mergeC C is C')[m]? = some (some d) → (m < N ∧ m ∉ is ∧ C[m]? = some (some d)) ∨ (∃ (j : Nat) (c' : Cell), is[j]? = some m ∧ C'[j]? = some (some c') ∧ d = c'.rn (ren is C.length)) ∨ (∃ (j : Nat) (c' : Cell), is.length ≤ j ∧ m = N + (j - is.length) ∧ C'[j]? = some (some c') ∧ d = c'.rn (ren is C.length)) := fun m d e => by
      unfold mergeC at e
      by_cases hm : m < N
      · rw [List.getElem?_append_left (by rw [wrC_len]; exact hm)] at e
        by_cases hin : m ∈ is
        · obtain ⟨j, hj⟩ := List.mem_iff_getElem?.mp hin
          obtain ⟨c0, e1, e2⟩ := wrC_in (ren is C.length) is C C' nd (fun i hi => by
            obtain ⟨j, hj⟩ := List.mem_iff_getElem?.mp hi
            exact hN j i hj) hnc hj
          rw [e2] at e
          cases c0 with
          | none => cases e
          | some c' =>
            cases e
            exact .inr (.inl ⟨j, c', hj, e1, rfl⟩)
        · rw [wrC_out _ _ _ _ hin] at e
          exact .inl ⟨hm, hin, e⟩
      · rw [List.getElem?_append_right (by rw [wrC_len]; omega), wrC_len, List.getElem?_map, List.getElem?_drop] at e
        cases ec : C'[is.length + (m - C.length)]? with
        | none => rw [ec] at e; cases e
        | some c0 =>
          rw [ec] at e
          cases c0 with
          | none => cases e
          | some c' =>
            cases e
            exact .inr (.inr ⟨is.length + (m - C.length), c', by omega, by show m = C.length + _; omega, ec, rfl⟩)
    -- a caller's cell that was not passed
    have apart : ∀ m d, C[m]? = some (some d) → m ∉ is → ∀ j, j < (c.cells i).length → ρc j ≠ ρ m := fun m d e hin j hj z => by
      rw [← hn] at hj
      obtain ⟨i', c', e1, _, _, e4⟩ := hcells j hj
      have er : ρc j = ρ i' := by show ρ (ren is C.length j) = _; rw [ren_in e1]
      rw [er] at z
      have := R.inj i' m _ _ e4 e z
      rw [← this] at hin
      exact hin (List.mem_iff_getElem?.mpr ⟨j, e1⟩)
    have alive : ∀ m d, C[m]? = some (some d) → H (ρ m) ≠ none := fun m d e z => by
      obtain ⟨_, ⟨o, q2, _⟩, _⟩ := R.cell m d e
      rw [z] at q2; cases q2
    have passed : ∀ j m, is[j]? = some m → ∃ d, C[m]? = some (some d) := fun j m e => by
      obtain ⟨i', c', e1, _, _, e4⟩ := hcells j (List.getElem?_eq_some_iff.mp e).1
      rw [e] at e1
      cases e1
      exact ⟨_, e4⟩
    have fresh : ∀ j c', is.length ≤ j → C'[j]? = some (some c') → H (ρ' j) = none := fun j c' hj e => by
      obtain ⟨_, _, q4⟩ := Rc.cell j c' e
      rcases q4 with q4 | q4
      · have : j < (c.cells i).length := q4
        omega
      · exact q4
    have place : ∀ m d, (mergeC C is C')[m]? = some (some d) → (∃ d', C[m]? = some (some d') ∧ ρ2 m = ρ m) ∨ (∃ (j : Nat) (c' : Cell), is.length ≤ j ∧ m = N + (j - is.length) ∧ C'[j]? = some (some c') ∧ ρ2 m = ρ' j) := fun m d e => by
      rcases look m d e with ⟨h1, _, h3⟩ | ⟨j, c', h1, _, _⟩ | ⟨j, c', h1, h2, h3, _⟩
      · exact .inl ⟨d, h3, r_old m h1⟩
      · obtain ⟨d', hd'⟩ := passed j m h1
        exact .inl ⟨d', hd', r_old m (hN j m h1)⟩
      · refine .inr ⟨j, c', h1, h2, h3, ?_⟩
        have := (fj j (List.getElem?_eq_some_iff.mp h3).1).2
        rw [ren_out h1] at this
        rw [h2]; exact this
    have stk' := Rc.stk
    refine ⟨F', ρ2, ⟨Rc.le, R.sub.tr LF, fun b o e kk => keepc b o (R.keep b o e kk) (hne b o e kk), fun b e => R.there b (Rc.there b e), fun b o e => ?_, fun j h => (r_old j (Nat.lt_of_lt_of_le h R.nc)).trans (R.rho j h), Nat.le_trans R.nc hNM, fun a b d1 d2 e1 e2 z => ?_, fun m d e => ?_, R.len, fun j t e => ?_, ?_⟩⟩
    · rcases Rc.frz b o e with q | q | ⟨j, hj, q⟩
      · exact R.frz b o q
      · exact .inr (.inl (R.there b q))
      · have hj' : j < is.length := by rw [hn]; exact hj
        obtain ⟨i', c', e1, _, _, e4⟩ := hcells j hj'
        obtain ⟨_, _, q4⟩ := R.cell _ _ e4
        have er : ρc j = ρ i' := by show ρ (ren is C.length j) = _; rw [ren_in e1]
        have q' : ρ i' = b := by rw [← er]; exact q
        rcases q4 with q4 | q4
        · exact .inr (.inr ⟨i', q4, by rw [← R.rho i' q4]; exact q'⟩)
        · rw [q'] at q4
          exact .inr (.inl q4)
    · rcases place a d1 e1 with ⟨da, a1, a2⟩ | ⟨ja, ca, a1, a2, a3, a4⟩ <;> rcases place b d2 e2 with ⟨db, b1, b2⟩ | ⟨jb, cb, b1, b2, b3, b4⟩
      · rw [a2, b2] at z
        exact R.inj a b _ _ a1 b1 z
      · rw [a2, b4] at z
        exact absurd (by rw [z]; exact fresh jb cb b1 b3) (alive a da a1)
      · rw [a4, b2] at z
        exact absurd (by rw [← z]; exact fresh ja ca a1 a3) (alive b db b1)
      · rw [a4, b4] at z
        have := Rc.inj ja jb _ _ a3 b3 z
        subst this
        rw [a2, b2]
    · rcases look m d e with ⟨h1, h2, h3⟩ | ⟨j, c', h1, h2, h3⟩ | ⟨j, c', h1, h2, h3, h4⟩
      · obtain ⟨q1, ⟨o, q2, q3⟩, q4⟩ := R.cell m d h3
        rw [r_old m h1]
        refine ⟨?_, ⟨o, keepc _ _ q2 (apart m d h3 h2), q3.mono LF hNM r_old⟩, q4⟩
        cases qf : F' (ρ m) with
        | none => rfl
        | some u =>
          rcases Rc.frz _ u qf with q | q | ⟨j, hj, q⟩
          · have q' : F (ρ m) = some u := q
            rw [q1] at q'; cases q'
          · exact absurd q (alive m d h3)
          · exact absurd q (apart m d h3 h2 j hj)
      · have hj := (List.getElem?_eq_some_iff.mp h1).1
        obtain ⟨q1, ⟨o, q2, q3⟩, q4⟩ := Rc.cell j c' h2
        have er := (fj j (List.getElem?_eq_some_iff.mp h2).1).2
        rw [ren_in h1] at er
        rw [er]
        refine ⟨q1, ⟨o, q2, by rw [h3]; exact cis_forth fj q3⟩, ?_⟩
        obtain ⟨d', hd'⟩ := passed j m h1
        obtain ⟨_, _, p4⟩ := R.cell m d' hd'
        rw [← er, r_old m (hN j m h1)]
        exact p4
      · obtain ⟨q1, ⟨o, q2, q3⟩, q4⟩ := Rc.cell j c' h3
        have er := (fj j (List.getElem?_eq_some_iff.mp h3).1).2
        rw [ren_out h1] at er
        rw [h2, er]
        exact ⟨q1, ⟨o, q2, by rw [h4]; exact cis_forth fj q3⟩, .inr (R.there _ (fresh j c' h1 h3))⟩
    · obtain ⟨u, q, r⟩ := R.slot j t e
      exact ⟨u, q, r.mono LF hNM r_old⟩
    · cases stk' with
      | cons a _ => exact .cons (sis_forth fj a) (Paired.mapP R.stk fun _ _ q => q.mono LF hNM r_old)
theorem we_callC {c : Ct} {E : XK} {ex : Addr → Int → Prop} (hX : Xk B E ex) (h : Wa B t' g S C fun ss C1 => Wkc c ex ss k C1) : We B (tCall (c.sp B.K) [] E t') g S C k := fun σ vs H Q R kq =>
  h σ vs H _ R fun ss C1 us H1 W l R1 => by
    obtain ⟨F, ρ, R1⟩ := R1
    obtain ⟨R2, hu⟩ := popN R1 l
    show c.sp B.K (us ++ []) H1 Q E
    rw [List.append_nil]
    exact callC hX W R2 hu kq
end
end Sy

set_option Elab.async false
set_option linter.all false
set_option maxRecDepth 100000
set_option maxHeartbeats 1000000
namespace Sy
open PySem L2
section
variable {B : Bs} {g : Gs} {S : List SV} {C : Cs} {k : SV → Cs → Prop} {te ta tb : TE} {t' : TA} {kk : Ks}
variable {σ : St} {vs : List V} {H : Hp} {F : Hp} {ρ : Nat → Addr}
/-- a call of a method -/
theorem we_methC {CC : Addr} {m : Str} {c : Ct} {E : XK} {ex : Addr → Int → Prop} (hX : Xk B E ex) (h : We B ta g S C fun x C1 => ∃ i fs, x = .ref i ∧ C1[i]? = some (some (.ins CC fs)) ∧ FN fs m ∧ Wa B t' g (x :: S) C1 fun ss C2 => Wkc c ex (x :: ss) k C2) :
    We B (tMeth CC m (c.sp B.K) [] E ta t') g S C k := fun σ vs H Q R kq =>
  h σ vs H _ R fun x C1 v H1 ⟨i, fs, e, ei, fn, h1⟩ R1 => by
    obtain ⟨F, ρ, R2, hx⟩ := R1.top
    have hx0 := hx
    subst e
    obtain ⟨_, ⟨o, e2, q3⟩, _⟩ := R2.cell _ _ ei
    cases q3 with
    | @ins _ dx ws _ q3 =>
      refine ⟨ρ i, dx, ws, hx0.2, e2, fn.look q3, ?_⟩
      refine h1 σ _ H1 _ R1 fun ss C2 us H2 W l R3 => ?_
      obtain ⟨F3, ρ3, R3⟩ := R3
      obtain ⟨R4, hu⟩ := popN R3 l
      obtain ⟨R5, hx5⟩ := R4.pop
      show c.sp B.K (v :: (us ++ [])) H2 Q E
      rw [List.append_nil]
      exact callC hX W R5 (.cons hx5 hu) kq
/-- something is laid that nobody names -/
theorem Rl.other {p : Addr} {o : HO} (R : Rl B g S C σ vs H F ρ) (hp : H p = none) : Rl B g S C σ vs (upd H p o) F ρ := by
  have hF : F p = none := by
    cases e : F p with
    | none => rfl
    | some u => rw [R.le p u e] at hp; cases hp
  refine ⟨fun b u e => ?_, R.sub, fun b u e k => ?_, fun b e => ?_, R.frz, R.rho, R.nc, R.inj, fun i c e => ?_, R.len, R.slot, R.stk⟩
  · rw [upd_ne (ne_of_none e hF)]; exact R.le b u e
  · rw [upd_ne (ne_of_none (R.keep b u e k) hp)]; exact R.keep b u e k
  · by_cases hb : b = p
    · subst hb; rw [upd_same] at e; cases e
    · rw [upd_ne hb] at e; exact R.there b e
  · obtain ⟨q1, ⟨u, q2, q3⟩, q4⟩ := R.cell i c e
    exact ⟨q1, ⟨u, by rw [upd_ne (ne_of_none q2 hp)]; exact q2, q3⟩, q4⟩
/-- a new instance -/
theorem we_makeC {CC : Addr} {c : Ct} {E : XK} {ex : Addr → Int → Prop} (hX : Xk B E ex) (h : Wa B t' g S C fun ss C1 => Wkc c ex (.ref C1.length :: ss) (fun s C2 => s = .dat .none ∧ k (.ref C1.length) C2) (C1 ++ [some (.ins CC [])])) :
    We B (tMake CC (c.sp B.K) [] E t') g S C k := fun σ vs H Q R kq =>
  h σ vs H _ R fun ss C1 us H1 W l R1 x dx hx hdx hne => by
    obtain ⟨F, ρ, R1⟩ := R1
    have R2 := R1.other (o := .own x) hdx
    have hx2 : upd H1 dx (HO.own x) x = none := by rw [upd_ne (Ne.symm hne)]; exact hx
    have R3 := R2.lay_c (o := .ins CC dx []) (c := .ins CC []) hx2 (.ins .nil)
    obtain ⟨R4, hn⟩ := R3.pop
    obtain ⟨R5, hu⟩ := popN R4 l
    show c.sp B.K (.ref x :: (us ++ [])) _ (fun v H2 => v = .non ∧ Q (.ref x) H2) E
    rw [List.append_nil]
    refine callC (Q := fun v H2 => v = .non ∧ Q (.ref x) H2) hX W (R5.push hn) (.cons hn hu) fun s C2 v H2 ⟨es, q⟩ R6 => ?_
    subst es
    obtain ⟨F6, ρ6, R6⟩ := R6
    obtain ⟨R7, hv⟩ := R6.pop
    exact ⟨Is.non_inv hv, kq _ C2 _ H2 q ⟨F6, ρ6, R7⟩⟩
end
/-! ## data that is told by cells -/
mutual
inductive Fz (C : Cs) : SV → D → Prop
  | dat {d : D} : Fz C (.dat d) d
  | lst {i : Nat} {xs : List SV} {ds : List D} : C[i]? = some (some (.lst xs)) → FzA C xs ds → Fz C (.ref i) (.list ds)
  | dct {i : Nat} {ks : List (Key × SV)} {ds : List (D × D)} : C[i]? = some (some (.dct ks)) → FzK C ks ds → Fz C (.ref i) (.dict ds)
inductive FzA (C : Cs) : List SV → List D → Prop
  | nil : FzA C [] []
  | cons {x : SV} {xs : List SV} {d : D} {ds : List D} : Fz C x d → FzA C xs ds → FzA C (x :: xs) (d :: ds)
inductive FzK (C : Cs) : List (Key × SV) → List (D × D) → Prop
  | nil : FzK C [] []
  | cons {key : Key} {x : SV} {xs : List (Key × SV)} {d : D} {ds : List (D × D)} : Fz C x d → FzK C xs ds → FzK C ((key, x) :: xs) ((keyD key, d) :: ds)
end
section
variable {C C2 : Cs}
mutual
theorem Fz.mono (h : ∀ (i : Nat) (c : Cell), C[i]? = some (some c) → C2[i]? = some (some c)) : ∀ {s : SV} {d : D}, Fz C s d → Fz C2 s d
  | _, _, .dat => .dat
  | _, _, .lst e r => .lst (h _ _ e) (FzA.mono h r)
  | _, _, .dct e r => .dct (h _ _ e) (FzK.mono h r)
theorem FzA.mono (h : ∀ (i : Nat) (c : Cell), C[i]? = some (some c) → C2[i]? = some (some c)) : ∀ {s : List SV} {d : List D}, FzA C s d → FzA C2 s d
  | _, _, .nil => .nil
  | _, _, .cons a r => .cons (Fz.mono h a) (FzA.mono h r)
theorem FzK.mono (h : ∀ (i : Nat) (c : Cell), C[i]? = some (some c) → C2[i]? = some (some c)) : ∀ {s : List (Key × SV)} {d : List (D × D)}, FzK C s d → FzK C2 s d
  | _, _, .nil => .nil
  | _, _, .cons a r => .cons (Fz.mono h a) (FzK.mono h r)
end
end
section
variable {B : Bs} {g : Gs} {S : List SV} {C : Cs} {k : SV → Cs → Prop} {te ta tb : TE} {t' : TA}
variable {σ : St} {vs : List V} {H : Hp} {F : Hp} {ρ : Nat → Addr}
mutual
theorem Rl.fz (R : Rl B g S C σ vs H F ρ) : ∀ {s : SV} {d : D} {v : V}, Fz C s d → SIs B.K F ρ C.length v s → Is B.K H v d
  | _, _, _, .dat, h => Is.mono R.le h
  | _, _, _, .lst e r, h => by
    obtain ⟨_, ⟨o, e2, q⟩, _⟩ := R.cell _ _ e
    cases q with
    | lst q =>
      have hv := h.2
      subst hv
      exact .lst e2 (Rl.fzA R r q)
  | _, _, _, .dct e r, h => by
    obtain ⟨_, ⟨o, e2, q⟩, _⟩ := R.cell _ _ e
    cases q with
    | dct q =>
      have hv := h.2
      subst hv
      exact .dct e2 (Rl.fzK R r q)
theorem Rl.fzA (R : Rl B g S C σ vs H F ρ) : ∀ {s : List SV} {d : List D} {v : List V}, FzA C s d → Paired (SIs B.K F ρ C.length) v s → IsAll B.K H v d
  | _, _, _, .nil, .nil => .nil
  | _, _, _, .cons a r, .cons x y => .cons (Rl.fz R a x) (Rl.fzA R r y)
theorem Rl.fzK (R : Rl B g S C σ vs H F ρ) : ∀ {s : List (Key × SV)} {d : List (D × D)} {v : List (Key × V)}, FzK C s d → Paired (fun p q => p.1 = q.1 ∧ SIs B.K F ρ C.length p.2 q.2) v s → IsKv B.K H v d
  | _, _, _, .nil, .nil => .nil
  | _, _, (k2, v2) :: _, .cons a r, .cons x y => by
    have e : k2 = _ := x.1
    subst e
    exact .cons (Rl.fz R a x.2) (Rl.fzK R r y)
end
/-- a call of a def without cells, its arguments told by cells, its answer a scalar -/
theorem we_callB {c : Cp} {E : XK} {ex : Addr → Int → Prop} (hX : Xk B E ex) (h : Wa B t' g S C fun ss C1 => ∃ (i : c.ι) (ds : List D), c.args i = ds.map .dat ∧ FzA C1 ss ds ∧ c.pre i ∧ (∀ d, c.post i d → (flatD d).isSome = true ∧ k (.dat d) C1) ∧ (∀ cls n, c.exc i cls n → ex cls n)) :
    We B (tCall (c.sp B.K) [] E t') g S C k := fun σ vs H Q R kq => h σ vs H _ R fun ss C1 us H1 ⟨i, ds, ea, fz, hp, hk, he⟩ l R1 => by
  obtain ⟨F, ρ, R1⟩ := R1
  obtain ⟨R2, hu⟩ := popN R1 l
  show c.sp B.K (us ++ []) H1 Q E
  rw [List.append_nil]
  have hall : (c.args i).all SV.cl = true := by
    rw [ea, List.all_map]
    exact List.all_eq_true.mpr fun _ _ => rfl
  refine ⟨i, H1, hp, Le.rfl', hall, ?_, fun d v F' H' q h1 h2 h3 h4 hd => ?_, fun cls n dd fs H' x h3 a b => ?_⟩
  · rw [ea]
    exact sis_all (R2.fzA fz hu)
  · obtain ⟨hf, hkd⟩ := hk d q
    refine kq (.dat d) C1 v H' hkd ⟨F, ρ, (R2.grown Le.rfl' (R2.le.tr h3) h3 fun b o e => .inl e).push ?_⟩
    cases hd with
    | non => exact .non
    | bl b => exact .bl b
    | int b => exact .int b
    | str b => exact .str b
    | _ => cases hf
  · exact hX cls n dd fs H' (he cls n x) (fun b o e k => h3 b o (R2.keep b o e k)) a b
end
end Sy

set_option Elab.async false
set_option linter.all false
set_option maxRecDepth 100000
set_option maxHeartbeats 1000000
namespace Sy
open PySem PySem.Spec PyProof.Rows L2
theorem hu65 {A : Around} {k : Nat} (r : Room k A) : A.units + 66 < cLine := by have := r.un; omega
/-! ## == and != of two dicts, the values without dicts -/
def KvD (K : PySem.W.Frag) (H : Hp) (ks : List (Key × V)) (ds : List (Key × Sy.D)) : Prop := Paired (fun p q => p.1 = q.1 ∧ Dp K H p.2 q.2 ∧ SeqAt.shaped q.2 = true) ks ds
def kvEq (ds es : List (Key × Sy.D)) : Bool := (ds.length == es.length) && ds.all fun p => match valA es p.1 with
  | some e => PyData.eqv p.2 e
  | none => false
def rEqK (K : PySem.W.Frag) : R2 := fun x y H Q => ∃ (a b : Addr) (ks ls : List (Key × V)) (ds es : List (Key × Sy.D)), x = .ref a ∧ y = .ref b ∧ H a = some (.dK ks) ∧ H b = some (.dK ls) ∧ KvD K H ks ds ∧ KvD K H ls es ∧ Q (.bl (kvEq ds es)) H
def rNeK (K : PySem.W.Frag) : R2 := fun x y H Q => ∃ (a b : Addr) (ks ls : List (Key × V)) (ds es : List (Key × Sy.D)), x = .ref a ∧ y = .ref b ∧ H a = some (.dK ks) ∧ H b = some (.dK ls) ∧ KvD K H ks ds ∧ KvD K H ls es ∧ Q (.bl (!kvEq ds es)) H
section
variable {X : Cx} {pins : List (Addr × Obj)} {σ : L2.St} {H : Hp} {s : Shared}
theorem kv_at {K : PySem.W.Frag} {ls : List (Key × V)} {es : List (Key × Sy.D)} (h : KvD K H ls es) (k : Key) : (valV ls k = none ∧ valA es k = none) ∨ ∃ v e, valV ls k = some v ∧ valA es k = some e ∧ Dp K H v e ∧ SeqAt.shaped e = true := by
  unfold KvD at h
  induction h with
  | nil => exact .inl ⟨rfl, rfl⟩
  | @cons p q ps qs a r ih =>
    obtain ⟨a1, a2, a3⟩ := a
    by_cases e : p.1 = k
    · exact .inr ⟨p.2, q.2, valV_pos e, valA_pos (a1 ▸ e), a2, a3⟩
    · rcases ih with ⟨h1, h2⟩ | ⟨v, d, h1, h2, h3⟩
      · exact .inl ⟨by rw [valV_neg e]; exact h1, by rw [valA_neg (a1 ▸ e)]; exact h2⟩
      · exact .inr ⟨v, d, by rw [valV_neg e]; exact h1, by rw [valA_neg (a1 ▸ e)]; exact h2, h3⟩
theorem hits_of (I : L2.Inv X pins σ H s) {A : Around} (hu : A.units + 64 < cLine) {ls : List (Key × V)} {vb : List (Key × Value)} {es : List (Key × Sy.D)} (rb : KV ls vb) (hb : KvD X.K H ls es) :
    ∀ {ks : List (Key × V)} {va : List (Key × Value)} {ds : List (Key × Sy.D)}, KV ks va → KvD X.K H ks ds → PySem.W.KeqHits A s vb va (ds.all fun p => match valA es p.1 with
      | some e => PyData.eqv p.2 e
      | none => false) := by
  intro ks va ds ra hd
  unfold KvD at hd
  induction hd generalizing va with
  | nil =>
    cases ra
    exact .nil
  | @cons p q ps qs a r ih =>
    cases ra with
    | @cons _ w _ va' h t =>
      obtain ⟨key, v⟩ := w
      obtain ⟨h1, h2⟩ := h
      obtain ⟨a1, a2, a3⟩ := a
      have h1' : p.1 = key := h1
      have rr : RelO (valV ls p.1) (valueAt vb p.1) := rb.val p.1
      rw [List.all_cons]
      rcases kv_at hb p.1 with ⟨e1, e2⟩ | ⟨v2, e, e1, e2, e3, e4⟩
      · rw [← a1, e2, Bool.false_and]
        refine .miss ?_
        rw [e1] at rr
        rw [← h1']
        cases hv : valueAt vb p.1 with
        | none => rfl
        | some y => rw [hv] at rr; exact absurd rr (by intro z; cases z)
      · obtain ⟨y, hy, ry⟩ := RelO.some_of (v := v2) (by rw [← e1]; exact rr)
        rw [← a1, e2]
        obtain ⟨as, r1⟩ := Dp.reads I _ _ _ a2 h2
        obtain ⟨bs, r2⟩ := Dp.reads I _ _ _ e3 ry
        exact .hit (by rw [← h1']; exact hy) (SeqAt.eqAt_reads _ _ A s _ _ _ _ r1 r2 (SeqAt.canLay_of_shaped a3) (SeqAt.canLay_of_shaped e4) (SeqAt.room_of_shaped a3 hu)) (ih t)
end
theorem op_neK {X : Cx} (hu : X.A.units + 66 < cLine) : OpR X (compareOp .NotEq) (rNeK X.K) := by
  intro pins s σ H x y v u Q I rx ry h
  obtain ⟨a, b, ks, ls, ds, es, rfl, rfl, ha, hb, hd, he, q⟩ := h
  cases rx
  cases ry
  obtain ⟨_, ya, va, ra, da⟩ := (show ObjOk X.prog X.w H s.heap a (.dK ks) from I.hok a _ ha)
  obtain ⟨_, yb, vb, rb, db⟩ := (show ObjOk X.prog X.w H s.heap b (.dK ls) from I.hok b _ hb)
  refine PySem.W.keq_ne (knd := mixKind X.prog X.w) ya yb da db (by omega) (fun _ => hits_of I (A := X.A.in1) (by show X.A.units + 1 + 64 < cLine; omega) rb he ra hd) ?_
  have l1 : va.length = ds.length := by rw [← ra.length]; exact Paired.length hd
  have l2 : vb.length = es.length := by rw [← rb.length]; exact Paired.length he
  rw [l1, l2]
  exact ⟨.bl _, H, I, rfl, q⟩
theorem op_eqK {X : Cx} (hu : X.A.units + 66 < cLine) : OpR X (compareOp .Eq) (rEqK X.K) := by
  intro pins s σ H x y v u Q I rx ry h
  obtain ⟨a, b, ks, ls, ds, es, rfl, rfl, ha, hb, hd, he, q⟩ := h
  cases rx
  cases ry
  obtain ⟨_, ya, va, ra, da⟩ := (show ObjOk X.prog X.w H s.heap a (.dK ks) from I.hok a _ ha)
  obtain ⟨_, yb, vb, rb, db⟩ := (show ObjOk X.prog X.w H s.heap b (.dK ls) from I.hok b _ hb)
  refine PySem.W.keq_eq (knd := mixKind X.prog X.w) ya yb da db (by omega) (fun _ => hits_of I (A := X.A.in1) (by show X.A.units + 1 + 64 < cLine; omega) rb he ra hd) ?_
  have l1 : va.length = ds.length := by rw [← ra.length]; exact Paired.length hd
  have l2 : vb.length = es.length := by rw [← rb.length]; exact Paired.length he
  rw [l1, l2]
  exact ⟨.bl _, H, I, rfl, q⟩
end Sy

set_option Elab.async false
set_option linter.all false
set_option maxRecDepth 100000
set_option maxHeartbeats 1000000
namespace Sy
open PySem L2
/-! ## list(d) of a dict -/
def rLoK : List V → Hp → VK → Prop := fun xs H Q => ∃ (a : Addr) (ks : List (Key × V)), xs = [.ref a] ∧ H a = some (.dK ks) ∧ ∀ p, H p = none → Q (.ref p) (upd H p (.lst (ks.map fun q => kV q.1)))
theorem paired_of {α β : Type} {P : α → β → Prop} : ∀ {xs : List α} {ys : List β}, xs.length = ys.length → (∀ (j : Nat) x y, xs[j]? = some x → ys[j]? = some y → P x y) → Paired P xs ys
  | [], [], _, _ => .nil
  | x :: xs, y :: ys, l, h => .cons (h 0 x y rfl rfl) (paired_of (Nat.succ.inj l) fun j a b e1 e2 => h (j + 1) a b e1 e2)
theorem keyIs_relS {k : Key} {v : Value} (h : keyIs k v = true) : RelV (kV k) v := by
  rcases keyIs_shape h with ⟨i, t, e1, e2⟩ | ⟨x, t, e1, e2⟩
  · subst e1; exact ⟨t, e2⟩
  · subst e1; exact ⟨t, e2⟩
theorem cr_loK {X : Cx} (hc : X.calm = true) : CallR X (.type "list") rLoK := by
  intro pins s σ H xs us Q I r h
  obtain ⟨a, ks, rfl, ha, q⟩ := h
  rw [Vals.ref1 r]
  obtain ⟨hz, ya, va, ra, da⟩ := (show ObjOk X.prog X.w H s.heap a (.dK ks) from I.hok a _ ha)
  obtain ⟨ep, hat⟩ := da.dictAt
  have hl : ks.length = va.length := ra.length
  refine PySem.W.kdl_call (PySem.W.kdl_dict (knd := mixKind X.prog X.w) (ep := ep) ya) (I.ok.hd hc) hat (by rw [← hl]; exact hz) fun h' tk acc' c' hk hD hacc => ?_
  refine ⟨.ref s.heap.objs.size, upd H s.heap.objs.size (.lst (ks.map fun q => kV q.1)), I.laid (t' := tk) hk (Nat.le_refl _) ⟨by rw [List.length_map]; exact hz, acc'.toList, c', paired_of ?_ fun j x y e1 e2 => ?_, hD⟩, rfl, q _ (I.hok.fresh (Nat.le_refl _))⟩
  · rw [List.length_map]
    show ks.length = acc'.size
    rw [hacc.1, hl]
  · rw [List.getElem?_map] at e1
    obtain ⟨key, w, e3, e4⟩ := hacc.2 j y (by rw [← Array.getElem?_toList]; exact e2)
    cases ek : ks[j]? with
    | none => rw [ek] at e1; cases e1
    | some p =>
      rw [ek] at e1
      cases e1
      obtain ⟨w2, e5, e6, e7⟩ := paired_at' ra ek
      rw [e3] at e5
      cases e5
      have e6' : p.1 = key := e6
      show RelV (kV p.1) y
      rw [e6']
      exact keyIs_relS e4
section
variable {B : Bs} {g : Gs} {S : List SV} {C : Cs} {k : SV → Cs → Prop} {kb : Bool → Cs → Prop} {ka : List SV → Cs → Prop} {te ta tb tc tl : TE} {ta' t' : TA} {tt tu : TT} {kk : Ks} {tbody : TS}
variable {σ : L2.St} {vs : List V} {H : Hp} {F : Hp} {ρ : Nat → Addr}
/-- [e for x in xs if t], a cell -/
theorem we_lcC {wi : TI} {tg : TG} {is : List Nat} {α : Type} (as : List α) (enc : α → SV) (p : α → Bool) (f : α → D) (hl : as.length ≤ sizeLine)
    (h : Wi B wi g S C fun T xs ok C1 => xs = as.map enc ∧ (∀ acc, ok (C1 ++ [some (.lst acc)])) ∧ (∀ (i : Nat) a acc, as[i]? = some a → Wgw B tg is (enc a) (wipeG g is) (.ref C1.length :: (T ++ (keptS g is ++ S))) (C1 ++ [some (.lst acc)]) fun g2 C2 => C2 = C1 ++ [some (.lst acc)] ∧
        Wt B tt g2 (.ref C1.length :: (T ++ (keptS g is ++ S))) (C1 ++ [some (.lst acc)]) fun b C3 => C3 = C1 ++ [some (.lst acc)] ∧ b = p a ∧ (b = true → We B te g2 (.ref C1.length :: (T ++ (keptS g is ++ S))) (C1 ++ [some (.lst acc)]) fun y C4 => C4 = C1 ++ [some (.lst acc)] ∧ y = .dat (f a))) ∧
      k (.ref C1.length) (C1 ++ [some (.lst (((as.filter p).map f).map .dat))])) : We B (tLc wi tg tt te is) g S C k := fun σ vs H Q R kq =>
  h σ vs H _ R fun J T tv xs ok C1 H1 ⟨exs, hok, hs, hk⟩ hT src R1 D hD => by
    subst exs
    have R1' : Rel B g (T ++ S) C1 σ (tv ++ vs) H1 := R1
    -- ahead: the names' values on the stack, the new list a cell
    have RS : Rel B (wipeG g is) (T ++ (keptS g is ++ S)) C1 (L2.wipe σ is) (tv ++ (keptV g σ is ++ vs)) H1 := by
      obtain ⟨F, ρ, R2⟩ := R1'.wiped is
      obtain ⟨F0, ρ0, R0⟩ := R1'
      have hk := Paired.length (R0.kept is)
      obtain ⟨a, b⟩ := paired_append hk R2.stk
      obtain ⟨c, d⟩ := paired_append hT b
      exact ⟨F, ρ, { R2 with stk := paired_app c (paired_app a d) }⟩
    have RD : Rel B (wipeG g is) (.ref C1.length :: (T ++ (keptS g is ++ S))) (C1 ++ [some (.lst [])]) (L2.wipe σ is) (.ref D :: (tv ++ (keptV g σ is ++ vs))) (upd H1 D (.lst [])) := by
      obtain ⟨F, ρ, R2⟩ := RS
      exact ⟨F, _, R2.lay_c hD (.lst .nil)⟩
    have outs : ∀ i, ((as.take i).filter p).length ≤ i := fun i => Nat.le_trans (List.length_filter_le _ _) (by rw [List.length_take]; omega)
    let Iv : Nat → Hp → Prop := fun i H' => Rel B (wipeG g is) (.ref C1.length :: (T ++ (keptS g is ++ S))) (C1 ++ [some (.lst ((((as.take i).filter p).map f).map .dat))]) (L2.wipe σ is) (.ref D :: (tv ++ (keptV g σ is ++ vs))) H'
    refine ⟨fun i m H' => m = as.length - i ∧ i ≤ as.length ∧ Iv i H', ⟨as.length, by simp, Nat.zero_le _, by show Rel _ _ _ _ _ _ _; simpa using RD⟩, ?_⟩
    rintro i m H' ⟨rfl, hi, RI⟩
    have RI' : Rel B (wipeG g is) (T ++ (.ref C1.length :: (keptS g is ++ S))) (C1 ++ [some (.lst ((((as.take i).filter p).map f).map .dat))]) (L2.wipe σ is) (tv ++ (.ref D :: (keptV g σ is ++ vs))) H' := by
      obtain ⟨F, ρ, R2⟩ := (RI : Rel _ _ _ _ _ _ _)
      cases e : R2.stk with
      | cons a b =>
        obtain ⟨c, d⟩ := paired_append hT b
        exact ⟨F, ρ, { R2 with stk := paired_app c (.cons a d) }⟩
    have z := src i _ _ _ _ _ H' (hok _) RI'
    rw [List.length_map] at z
    by_cases hlt : i < as.length
    · refine .inr ⟨(z.1 hlt).1, Iv (i + 1), fun H3 p3 => ⟨as.length - (i + 1), by omega, rfl, hlt, p3⟩, fun x H3 y => ?_⟩
      obtain ⟨s, es, R3⟩ := (z.1 hlt).2 x H3 y
      have ea : as[i]? = some as[i] := List.getElem?_eq_getElem hlt
      rw [List.getElem?_map, ea] at es
      obtain rfl : enc as[i] = s := by simpa using es
      have R4 : Rel B (wipeG g is) (enc as[i] :: .ref C1.length :: (T ++ (keptS g is ++ S))) (C1 ++ [some (.lst ((((as.take i).filter p).map f).map .dat))]) (L2.wipe σ is) (x :: .ref D :: (tv ++ (keptV g σ is ++ vs))) H3 := by
        obtain ⟨F, ρ, R2⟩ := R3
        cases e : R2.stk with
        | cons a b =>
          obtain ⟨c, d⟩ := paired_append hT b
          cases d with
          | cons d1 d2 => exact ⟨F, ρ, { R2 with stk := .cons a (.cons d1 (paired_app c d2)) }⟩
      have et : as.take (i + 1) = as.take i ++ [as[i]] := by rw [List.take_succ, ea]; rfl
      refine hs i as[i] _ ea (L2.wipe σ is) _ x H3 _ R4 fun g2 C2 σ2 H4 ⟨e2, q2⟩ ew wg R5 => ?_
      subst e2
      refine ⟨by rw [ew, wipe_wipe], q2 σ2 _ H4 _ R5 fun b C3 H5 ⟨e3, eb, q3⟩ R6 => ?_⟩
      subst e3
      cases b with
      | true =>
        show te σ2 H5 _
        refine q3 rfl σ2 _ H5 _ R6 fun y C4 v H6 ⟨e4, ey⟩ R7 => ?_
        subst e4 ey
        obtain ⟨F, ρ, R7⟩ := R7
        obtain ⟨R8, hv⟩ := R7.pop
        obtain ⟨R9, hr1, hr2⟩ := R8.pop
        have hD2 : D = ρ C1.length := by cases hr2; rfl
        obtain ⟨n1, ⟨u, e1, h3⟩, h4⟩ := R8.cell C1.length (.lst ((((as.take i).filter p).map f).map .dat)) (by simp)
        cases h3 with
        | @lst ws' _ h3 =>
          refine ⟨ws', by rw [hD2]; exact e1, ?_, ?_⟩
          · rw [Paired.length h3, List.length_map, List.length_map]
            exact Nat.lt_of_le_of_lt (outs i) (Nat.lt_of_lt_of_le hlt hl)
          · have R10 := R8.wr (i := C1.length) (c := .lst ((((as.take i).filter p).map f).map .dat)) (c' := .lst (((((as.take i).filter p).map f).map .dat) ++ [.dat (f as[i])])) (o := .lst (ws' ++ [v])) (by simp) (.lst (Paired.snoc h3 hv))
            rw [← hD2] at R10
            have ec : (C1 ++ [some (Cell.lst ((((as.take i).filter p).map f).map .dat))]).set C1.length (some (.lst (((((as.take i).filter p).map f).map .dat) ++ [.dat (f as[i])]))) = C1 ++ [some (Cell.lst ((((as.take (i + 1)).filter p).map f).map .dat))] := by
              rw [et, List.filter_append, List.filter_cons, ← eb]
              simp
            rw [ec] at R10
            exact Rel.rewipe ⟨F, ρ, R10⟩ (by rw [ew, wipe_wipe]) wg RI.wlen
      | false =>
        show Iv (i + 1) H5
        have ec : ((as.take (i + 1)).filter p) = ((as.take i).filter p) := by
          rw [et, List.filter_append, List.filter_cons, ← eb]
          simp
        show Rel _ _ _ _ _ _ _
        rw [ec]
        exact Rel.rewipe R6 (by rw [ew, wipe_wipe]) wg RI.wlen
    · have e : i = as.length := by omega
      subst e
      refine .inl ⟨z.2 (Nat.le_refl _), ?_⟩
      have RF : Rel B (wipeG g is) (.ref C1.length :: (T ++ (keptS g is ++ S))) (C1 ++ [some (.lst ((((as.take as.length).filter p).map f).map .dat))]) (L2.wipe σ is) (.ref D :: (tv ++ (keptV g σ is ++ vs))) H' := RI
      rw [List.take_length] at RF
      obtain ⟨F, ρ, RF⟩ := RF
      refine kq (.ref C1.length) _ (.ref D) H' hk (Rel.unwipe (is := is) (S := .ref C1.length :: S) (vs := .ref D :: vs) R1 ⟨F, ρ, { RF with stk := ?_ }⟩)
      cases e : RF.stk with
      | cons a b =>
        obtain ⟨c, d⟩ := paired_append hT b
        obtain ⟨c2, d2⟩ := paired_append (kept_len R1 is) d
        exact paired_app c2 (.cons a d2)
end
end Sy

set_option Elab.async false
set_option linter.all false
set_option maxRecDepth 100000
set_option maxHeartbeats 1000000
namespace Sy
open PySem L2
section
variable {B : Bs} {g : Gs} {S : List SV} {C : Cs} {k : SV → Cs → Prop} {kb : Bool → Cs → Prop} {ka : List SV → Cs → Prop} {te ta tb tc tl : TE} {ta' t' : TA} {tt tu : TT} {kk : Ks} {tbody : TS}
variable {σ : L2.St} {vs : List V} {H : Hp} {F : Hp} {ρ : Nat → Addr}
/-! ## a cell becomes data -/
theorem Rl.freeze {i : Nat} {c : Cell} {d : D} (R : Rl B g S C σ vs H F ρ) (hi : C[i]? = some (some c)) (hf : Fzn c d) :
    ∃ F', Rl B g S (C.set i none) σ vs H F' ρ ∧ Le F F' ∧ Is B.K F' (.ref (ρ i)) d := by
  obtain ⟨q1, ⟨o, q2, q3⟩, q4⟩ := R.cell i c hi
  have L : Le F (upd F (ρ i) o) := fun b u e => by rw [upd_ne (ne_of_none e q1)]; exact e
  have hl : (C.set i none).length = C.length := by simp
  have old : ∀ j d, (C.set i none)[j]? = some (some d) → j ≠ i ∧ C[j]? = some (some d) := fun j d e => by
    by_cases h : i = j
    · subst h
      rw [List.getElem?_set_self (List.getElem?_eq_some_iff.mp hi).1] at e
      cases e
    · rw [List.getElem?_set_ne h] at e; exact ⟨Ne.symm h, e⟩
  refine ⟨upd F (ρ i) o, ⟨fun b u e => ?_, R.sub.tr L, R.keep, R.there, fun b u e => ?_, R.rho, by rw [hl]; exact R.nc, fun a j c d e1 e2 z => ?_, fun j d e => ?_, R.len, fun j s e => ?_, ?_⟩, L, hf _ _ ρ C.length o _ upd_same (q3.mono L (Nat.le_refl _) fun _ _ => rfl)⟩
  · by_cases hb : b = ρ i
    · subst hb; rw [upd_same] at e; cases e; exact q2
    · rw [upd_ne hb] at e; exact R.le b u e
  · by_cases hb : b = ρ i
    · rcases q4 with q4 | q4
      · exact .inr (.inr ⟨i, q4, by rw [hb]; exact (R.rho i q4).symm⟩)
      · exact .inr (.inl (by rw [hb]; exact q4))
    · rw [upd_ne hb] at e; exact R.frz b u e
  · exact R.inj a j c d (old a c e1).2 (old j d e2).2 z
  · obtain ⟨h1, h2⟩ := old j d e
    obtain ⟨p1, ⟨u, p2, p3⟩, p4⟩ := R.cell j d h2
    have ne : ρ j ≠ ρ i := fun z => h1 (R.inj j i d c h2 hi z)
    rw [hl]
    exact ⟨by rw [upd_ne ne]; exact p1, ⟨u, p2, p3.mono L (Nat.le_refl _) fun _ _ => rfl⟩, p4⟩
  · rw [hl]
    obtain ⟨v, q, r⟩ := R.slot j s e
    exact ⟨v, q, r.mono L (Nat.le_refl _) fun _ _ => rfl⟩
  · rw [hl]
    exact Paired.mapP R.stk fun _ _ q => q.mono L (Nat.le_refl _) fun _ _ => rfl
/-- an expression's answer, a cell, is data at once -/
theorem we_frz (h : We B te g S C fun s C1 => (∃ d, s = .dat d ∧ k s C1) ∨ ∃ i c d, s = .ref i ∧ C1[i]? = some (some c) ∧ Fzn c d ∧ k (.dat d) (C1.set i none)) : We B te g S C k := fun σ vs H Q R kq =>
  h σ vs H Q R fun s C1 v H1 q R1 => by
    rcases q with ⟨d, e, q⟩ | ⟨i, c, d, e, hi, hf, q⟩
    · exact kq s C1 v H1 q R1
    · subst e
      obtain ⟨F, ρ, R1⟩ := R1
      obtain ⟨F', R2, L, hd⟩ := R1.freeze hi hf
      obtain ⟨R3, hv⟩ := R2.pop
      obtain ⟨_, r2⟩ := hv
      exact kq (.dat d) _ v H1 q ⟨F', ρ, R3.push (by rw [r2]; exact hd)⟩
/-! ## a display as a cell -/
theorem we_dispC {trs : List (TE × TE)} (h : Wps B g trs (.ref C.length :: S) (C ++ [some (.dct [])]) fun ps _ C1 => C1[C.length]? = some (some (.dct [])) ∧ ps.length ≤ 15 ∧ (ps.map (·.1)).Nodup ∧ k (.ref C.length) (C1.set C.length (some (.dct ps)))) :
    We B (tDisp trs) g S C k := fun σ vs H Q R kq p hp => by
  have R0 : Rel B g (.ref C.length :: S) (C ++ [some (.dct [])]) σ (.ref p :: vs) (upd H p (.dK [])) := by
    obtain ⟨F, ρ, R⟩ := R
    exact ⟨F, _, R.lay_c hp (.dct .nil)⟩
  refine wps_run h σ _ _ _ R0 fun ps S' C1 ws us H1 ⟨ec1, hl, hn, q⟩ l R1 => ?_
  obtain ⟨F, ρ, R1⟩ := R1
  obtain ⟨a, b⟩ := paired_append (by rw [List.length_map]; exact l) R1.stk
  have R2 : Rl B g (.ref C.length :: S) C1 σ (.ref p :: vs) H1 F ρ := { R1 with stk := b }
  obtain ⟨R3, hp1, hp2⟩ := R2.pop
  have ep : p = ρ C.length := by cases hp2; rfl
  obtain ⟨n1, ⟨u, e1, h3⟩, h4⟩ := R2.cell C.length (.dct []) ec1
  have eu : u = .dK [] := by
    cases h3 with
    | dct h3 => cases h3; rfl
  subst eu
  have key : ∀ {ds : List (Key × SV)} {us : List V}, Paired (SIs B.K F ρ C1.length) us (ds.map (·.2)) →
      Paired (fun (p : Key × V) (q : Key × SV) => p.1 = q.1 ∧ SIs B.K F ρ C1.length p.2 q.2) ((ds.map (·.1)).zipWith (fun k u => (k, u)) us) ds := by
    intro ds
    induction ds with
    | nil => intro us h; cases h; exact .nil
    | cons q r ih => intro us h; cases h with
      | cons x y => exact .cons ⟨rfl, x⟩ (ih y)
  have hz := key a
  have hlen : us.length = ps.length := l
  have mk : ∀ (ls : List (Key × V)), (ls.map (·.1)).Nodup → mergeK [] ls = ls := fun ls hn => by
    unfold mergeK
    have gen : ∀ (ls acc : List (Key × V)), ((acc ++ ls).map (·.1)).Nodup → ls.foldl (fun acc kv => putK acc kv.1 kv.2) acc = acc ++ ls := by
      intro ls
      induction ls with
      | nil => intro acc _; simp
      | cons x r ih =>
        intro acc hn
        have hx : valV acc x.1 = none := by
          have h1 : x.1 ∉ acc.map (·.1) := by
            rw [List.map_append, List.map_cons] at hn
            intro hm
            have := (List.nodup_append.mp hn).2.2 _ hm x.1 List.mem_cons_self
            exact this rfl
          have h2 := valV_any x.1 acc
          cases e : valV acc x.1 with
          | none => rfl
          | some v =>
            rw [e] at h2
            obtain ⟨y, hy, ey⟩ := List.any_eq_true.mp (h2.trans rfl)
            exact absurd (List.mem_map.mpr ⟨y, hy, of_decide_eq_true ey⟩) h1
        rw [List.foldl_cons, putK_new _ hx, ih _ (by simpa using hn)]
        simp
    simpa using gen ls [] (by simpa using hn)
  have hk1 : (((ps.map (·.1)).zipWith (fun k u => (k, u)) us).map (·.1)) = ps.map (·.1) := by
    have gen : ∀ (ds : List (Key × SV)) (us : List V), us.length = ds.length → (((ds.map (·.1)).zipWith (fun k u => (k, u)) us).map (·.1)) = ds.map (·.1) := by
      intro ds
      induction ds with
      | nil => intro us _; simp
      | cons q r ih => intro us h; match us, h with
        | u :: us, h => simpa using ih us (by simpa using h)
    exact gen ps us hlen
  refine ⟨by rw [ep]; exact e1, (ps.map (·.1)).zipWith (fun k u => (k, u)) us, ?_, by rw [List.length_zipWith, List.length_map]; omega, ?_⟩
  · rw [List.map_zipWith]
  · rw [mk _ (by rw [hk1]; exact hn), ep]
    have R4 := R2.wr (i := C.length) (c := .dct []) (c' := .dct ps) (o := .dK ((ps.map (·.1)).zipWith (fun k u => (k, u)) us)) ec1 (.dct hz)
    rw [← ep]
    rw [← ep] at R4
    exact kq _ _ _ _ q ⟨F, ρ, R4⟩
/-! ## a comprehension of new lists -/
def refsN (N n : Nat) : List SV := (List.range n).map fun j => .ref (N + j)
theorem refsN_len (N n : Nat) : (refsN N n).length = n := by simp [refsN]
theorem refsN_succ (N n : Nat) : refsN N (n + 1) = refsN N n ++ [.ref (N + n)] := by simp [refsN, List.range_succ]
def newC {α : Type} (C1 : Cs) (as : List α) (cf : α → Cell) : Cs := C1 ++ (some (.lst (refsN (C1.length + 1) as.length)) :: as.map fun a => some (cf a))
theorem newC_len {α : Type} (C1 : Cs) (as : List α) (cf : α → Cell) : (newC C1 as cf).length = C1.length + 1 + as.length := by simp [newC]; omega
theorem newC_here {α : Type} (C1 : Cs) (as : List α) (cf : α → Cell) : (newC C1 as cf)[C1.length]? = some (some (.lst (refsN (C1.length + 1) as.length))) := by simp [newC]
theorem newC_app {α : Type} (C1 : Cs) (as : List α) (cf : α → Cell) : newC C1 as cf = (C1 ++ [some (.lst (refsN (C1.length + 1) as.length))]) ++ as.map fun a => some (cf a) := by simp [newC]
theorem newC_at {α : Type} (C1 : Cs) (as : List α) (cf : α → Cell) {j : Nat} {a : α} (h : as[j]? = some a) : (newC C1 as cf)[C1.length + 1 + j]? = some (some (cf a)) := by
  rw [newC_app, List.getElem?_append_right (by simp), List.getElem?_map]
  simp [h]
theorem newC_snoc {α : Type} (C1 : Cs) (as : List α) (a : α) (cf : α → Cell) : (newC C1 as cf ++ [some (cf a)]).set C1.length (some (.lst (refsN (C1.length + 1) as.length ++ [.ref (C1.length + 1 + as.length)]))) = newC C1 (as ++ [a]) cf := by
  unfold newC
  rw [List.append_assoc, List.set_append, if_neg (Nat.lt_irrefl _), Nat.sub_self, List.length_append, List.length_singleton, refsN_succ]
  simp
theorem we_lcN {wi : TI} {tg : TG} {is : List Nat} {α : Type} (as : List α) (enc : α → SV) (cf : α → Cell) (hl : as.length ≤ sizeLine)
    (h : Wi B wi g S C fun T xs ok C1 => xs = as.map enc ∧ (∀ L, ok (C1 ++ L)) ∧ (∀ (i : Nat) a, as[i]? = some a → Wgw B tg is (enc a) (wipeG g is) (.ref C1.length :: (T ++ (keptS g is ++ S))) (newC C1 (as.take i) cf) fun g2 C2 => C2 = newC C1 (as.take i) cf ∧
        We B te g2 (.ref C1.length :: (T ++ (keptS g is ++ S))) (newC C1 (as.take i) cf) fun y C4 => C4 = newC C1 (as.take i) cf ++ [some (cf a)] ∧ y = .ref (newC C1 (as.take i) cf).length) ∧
      k (.ref C1.length) (newC C1 as cf)) : We B (tLc wi tg tYes te is) g S C k := fun σ vs H Q R kq =>
  h σ vs H _ R fun J T tv xs ok C1 H1 ⟨exs, hok, hs, hk⟩ hT src R1 D hD => by
    subst exs
    have R1' : Rel B g (T ++ S) C1 σ (tv ++ vs) H1 := R1
    have RS : Rel B (wipeG g is) (T ++ (keptS g is ++ S)) C1 (L2.wipe σ is) (tv ++ (keptV g σ is ++ vs)) H1 := by
      obtain ⟨F, ρ, R2⟩ := R1'.wiped is
      obtain ⟨F0, ρ0, R0⟩ := R1'
      have hk := Paired.length (R0.kept is)
      obtain ⟨a, b⟩ := paired_append hk R2.stk
      obtain ⟨c, d⟩ := paired_append hT b
      exact ⟨F, ρ, { R2 with stk := paired_app c (paired_app a d) }⟩
    have RD : Rel B (wipeG g is) (.ref C1.length :: (T ++ (keptS g is ++ S))) (newC C1 (as.take 0) cf) (L2.wipe σ is) (.ref D :: (tv ++ (keptV g σ is ++ vs))) (upd H1 D (.lst [])) := by
      obtain ⟨F, ρ, R2⟩ := RS
      exact ⟨F, _, R2.lay_c hD (.lst .nil)⟩
    let Iv : Nat → Hp → Prop := fun i H' => Rel B (wipeG g is) (.ref C1.length :: (T ++ (keptS g is ++ S))) (newC C1 (as.take i) cf) (L2.wipe σ is) (.ref D :: (tv ++ (keptV g σ is ++ vs))) H'
    refine ⟨fun i m H' => m = as.length - i ∧ i ≤ as.length ∧ Iv i H', ⟨as.length, by simp, Nat.zero_le _, RD⟩, ?_⟩
    rintro i m H' ⟨rfl, hi, RI⟩
    have RI' : Rel B (wipeG g is) (T ++ (.ref C1.length :: (keptS g is ++ S))) (newC C1 (as.take i) cf) (L2.wipe σ is) (tv ++ (.ref D :: (keptV g σ is ++ vs))) H' := by
      obtain ⟨F, ρ, R2⟩ := (RI : Rel _ _ _ _ _ _ _)
      cases e : R2.stk with
      | cons a b =>
        obtain ⟨c, d⟩ := paired_append hT b
        exact ⟨F, ρ, { R2 with stk := paired_app c (.cons a d) }⟩
    have z := src i _ _ _ _ _ H' (hok _) RI'
    rw [List.length_map] at z
    by_cases hlt : i < as.length
    · refine .inr ⟨(z.1 hlt).1, Iv (i + 1), fun H3 p3 => ⟨as.length - (i + 1), by omega, rfl, hlt, p3⟩, fun x H3 y => ?_⟩
      obtain ⟨s, es, R3⟩ := (z.1 hlt).2 x H3 y
      have ea : as[i]? = some as[i] := List.getElem?_eq_getElem hlt
      rw [List.getElem?_map, ea] at es
      obtain rfl : enc as[i] = s := by simpa using es
      have R4 : Rel B (wipeG g is) (enc as[i] :: .ref C1.length :: (T ++ (keptS g is ++ S))) (newC C1 (as.take i) cf) (L2.wipe σ is) (x :: .ref D :: (tv ++ (keptV g σ is ++ vs))) H3 := by
        obtain ⟨F, ρ, R2⟩ := R3
        cases e : R2.stk with
        | cons a b =>
          obtain ⟨c, d⟩ := paired_append hT b
          cases d with
          | cons d1 d2 => exact ⟨F, ρ, { R2 with stk := .cons a (.cons d1 (paired_app c d2)) }⟩
      have et : as.take (i + 1) = as.take i ++ [as[i]] := by rw [List.take_succ, ea]; rfl
      have tl : (as.take i).length = i := by rw [List.length_take]; omega
      refine hs i as[i] ea (L2.wipe σ is) _ x H3 _ R4 fun g2 C2 σ2 H4 ⟨e2, q2⟩ ew wg R5 => ?_
      subst e2
      refine ⟨by rw [ew, wipe_wipe], ?_⟩
      show te σ2 H4 _
      refine q2 σ2 _ H4 _ R5 fun y C4 v H6 ⟨e4, ey⟩ R7 => ?_
      subst e4 ey
      obtain ⟨F, ρ, R7⟩ := R7
      obtain ⟨R8, hv⟩ := R7.pop
      obtain ⟨R9, hr1, hr2⟩ := R8.pop
      have hD2 : D = ρ C1.length := by cases hr2; rfl
      have hc0 : (newC C1 (as.take i) cf ++ [some (cf as[i])])[C1.length]? = some (some (.lst (refsN (C1.length + 1) i))) := by
        rw [List.getElem?_append_left (by rw [newC_len]; omega), newC_here, tl]
      obtain ⟨n1, ⟨u, e1, h3⟩, h4⟩ := R8.cell C1.length _ hc0
      cases h3 with
      | @lst ws' _ h3 =>
        refine ⟨ws', by rw [hD2]; exact e1, ?_, ?_⟩
        · rw [Paired.length h3, refsN_len]
          exact Nat.lt_of_lt_of_le hlt hl
        · have R10 := R8.wr (i := C1.length) (c' := .lst (refsN (C1.length + 1) i ++ [.ref (newC C1 (as.take i) cf).length])) (o := .lst (ws' ++ [v])) hc0 (.lst (Paired.snoc h3 hv))
          rw [← hD2] at R10
          have ec := newC_snoc C1 (as.take i) as[i] cf
          rw [← et, tl] at ec
          rw [newC_len, tl, ec] at R10
          exact Rel.rewipe ⟨F, ρ, R10⟩ (by rw [ew, wipe_wipe]) wg RI.wlen
    · have e : i = as.length := by omega
      subst e
      refine .inl ⟨z.2 (Nat.le_refl _), ?_⟩
      have RF : Rel B (wipeG g is) (.ref C1.length :: (T ++ (keptS g is ++ S))) (newC C1 (as.take as.length) cf) (L2.wipe σ is) (.ref D :: (tv ++ (keptV g σ is ++ vs))) H' := RI
      rw [List.take_length] at RF
      obtain ⟨F, ρ, RF⟩ := RF
      refine kq (.ref C1.length) _ (.ref D) H' hk (Rel.unwipe (is := is) (S := .ref C1.length :: S) (vs := .ref D :: vs) R1 ⟨F, ρ, { RF with stk := ?_ }⟩)
      cases e : RF.stk with
      | cons a b =>
        obtain ⟨c, d⟩ := paired_append hT b
        obtain ⟨c2, d2⟩ := paired_append (kept_len R1 is) d
        exact paired_app c2 (.cons a d2)
end
end Sy

set_option Elab.async false
set_option linter.all false
set_option maxRecDepth 100000
set_option maxHeartbeats 1000000
namespace Sy
open PySem L2
/-! ## walk: methods and constructors -/
section
variable {X : Cx} {k : Nat} {f CC : Addr} {ps : List Str} {sp : Sp} {E : XK} {x m : Str} {p pos apos : Pos} {e o : Expr} {es : List Expr} {ta : TE} {t : TA}
theorem pe_methC {pl : Sem Bool} (he : PE X o ta) (c : Cls X.K CC) (hm : Meth X.K CC m f) (h : Cl X.prog X.w X.K X.mg X.base k f ps sp) (hr : Room k X.A) (hx : Passes (L2.CX X.prog X.w) X E) (ha : PA X (e :: es) t)
    (hst : starEach (e :: es) X.env = (false, eval e X.env) :: starEach es X.env := by rfl) (hpl : (backTo pos (starEach es X.env)).any (·.1) = false := by rfl)
    (ht : eval (.Call (.Attribute o m apos) (e :: es) [] pos) X.env = (do
      let ov ← eval o X.env
      standAt apos.atName
      let (f, first) ← holding [ov] (getMethod ov m pl)
      callWith pos f first (backTo pos (starEach (e :: es) X.env)) (backToKw pos (keywordEach [] X.env))) := by rfl) :
    PE X (.Call (.Attribute o m apos) (e :: es) [] pos) (tMeth CC m sp [] E ta t) := by
  obtain ⟨fd, F, b, kp⟩ := h
  exact pe_meth he c hm F hr b .nil hx ha hst hpl ht
theorem pe_meth0C {pl : Sem Bool} (he : PE X o ta) (c : Cls X.K CC) (hm : Meth X.K CC m f) (h : Cl X.prog X.w X.K X.mg X.base k f ps sp) (hr : Room k X.A) (hx : Passes (L2.CX X.prog X.w) X E)
    (ht : eval (.Call (.Attribute o m apos) [] [] pos) X.env = (do
      let ov ← eval o X.env
      standAt apos.atName
      let (f, first) ← holding [ov] (getMethod ov m pl)
      callWith pos f first (backTo pos (starEach [] X.env)) (backToKw pos (keywordEach [] X.env))) := by rfl) :
    PE X (.Call (.Attribute o m apos) [] [] pos) (tMeth CC m sp [] E ta tNil) := by
  obtain ⟨fd, F, b, kp⟩ := h
  exact pe_meth0 he c hm F hr b .nil hx ht
theorem pe_makeC (M : Mk X.K CC f) (h : Cl X.prog X.w X.K X.mg X.base k f ps sp) (hr : Room (k + 1) X.A) (hg : Gl X x) (hm : X.mg x = some (.ref CC)) (hx : Passes (L2.CX X.prog X.w) X E)
    (ha : PA X (e :: es) t) (hdb : (x == ("__debug__" : Str)) = false := by decide) (he : starEach (e :: es) X.env = (false, eval e X.env) :: starEach es X.env := by rfl) (hpl : (backTo pos (starEach es X.env)).any (·.1) = false := by rfl) :
    PE X (.Call (.Name x p) (e :: es) [] pos) (tMake CC sp [] E t) := by
  obtain ⟨fd, F, b, kp⟩ := h
  exact pe_make M F hr hg hm b .nil hx ha hdb he hpl
theorem pe_make0C (M : Mk X.K CC f) (h : Cl X.prog X.w X.K X.mg X.base k f ps sp) (hr : Room (k + 1) X.A) (hg : Gl X x) (hm : X.mg x = some (.ref CC)) (hx : Passes (L2.CX X.prog X.w) X E)
    (hdb : (x == ("__debug__" : Str)) = false := by decide) :
    PE X (.Call (.Name x p) [] [] pos) (tMake CC sp [] E tNil) := by
  obtain ⟨fd, F, b, kp⟩ := h
  exact pe_make0 M F hr hg hm b .nil hx hdb
end
section
variable {B : Bs} {g : Gs} {S : List SV} {C : Cs} {k : SV → Cs → Prop} {kb : Bool → Cs → Prop} {ka : List SV → Cs → Prop} {te ta tb tc tl : TE} {ta' t' : TA} {tt tu : TT} {kk : Ks} {tbody : TS}
variable {σ : L2.St} {vs : List V} {H : Hp} {F : Hp} {ρ : Nat → Addr}
/-! ## calls that are handed all cells -/
def Live (C : Cs) : Prop := ∀ i, i < C.length → ∃ c, C[i]? = some (some c)
theorem Live.nil : Live [] := fun i h => absurd h (by simp)
theorem Live.snoc {C : Cs} {c : Cell} (h : Live C) : Live (C ++ [some c]) := fun i hi => by
  by_cases h1 : i < C.length
  · obtain ⟨c, e⟩ := h i h1
    exact ⟨c, by rw [List.getElem?_append_left h1]; exact e⟩
  · have : i = C.length := by simp at hi; omega
    subst this
    exact ⟨c, by simp⟩
theorem Live.app {C C' : Cs} (h : Live C) (h' : Live C') : Live (C ++ C') := fun i hi => by
  by_cases h1 : i < C.length
  · obtain ⟨c, e⟩ := h i h1
    exact ⟨c, by rw [List.getElem?_append_left h1]; exact e⟩
  · rw [List.getElem?_append_right (by omega)]
    exact h' _ (by rw [List.length_append] at hi; omega)
theorem Live.cons {C : Cs} {c : Cell} (h : Live C) : Live (some c :: C) := fun i hi => by
  cases i with
  | zero => exact ⟨c, rfl⟩
  | succ i => exact h i (by simpa using hi)
theorem Live.map {α : Type} (f : α → Cell) (as : List α) : Live (as.map fun a => some (f a)) := fun i hi => by
  rw [List.length_map] at hi
  exact ⟨f as[i], by rw [List.getElem?_map, List.getElem?_eq_getElem hi]; rfl⟩
theorem Live.set {C : Cs} {c : Cell} {j : Nat} (h : Live C) : Live (C.set j (some c)) := fun i hi => by
  rw [List.length_set] at hi
  by_cases e : j = i
  · subst e
    exact ⟨c, List.getElem?_set_self hi⟩
  · rw [List.getElem?_set_ne e]
    exact h i hi
def Wka (c : Ct) (ex : Addr → Int → Prop) (ss : List SV) (k : SV → Cs → Prop) (C : Cs) : Prop := ∃ i : c.ι, c.args i = ss ∧ c.cells i = C ∧ Live C ∧ c.pre i ∧ (∀ s C', c.post i s C' → k s C') ∧ (∀ cls n, c.exc i cls n → ex cls n)
theorem callA {c : Ct} {E : XK} {ex : Addr → Int → Prop} (hX : Xk B E ex) {ss : List SV} {us : List V} {Q : VK} (W : Wka c ex ss k C) (R : Rl B g S C σ vs H F ρ) (hu : Paired (SIs B.K F ρ C.length) us ss)
    (kq : ∀ (s : SV) (C' : Cs) (v : V) (H' : Hp), k s C' → Rel B g (s :: S) C' σ (v :: vs) H' → Q v H') : c.sp B.K us H Q E := by
  obtain ⟨i, ha, hc, live, hp, hk, he⟩ := W
  subst ha hc
  have hne : ∀ (b : Addr) (o : HO), B.H0 b = some o → (∀ i, i < B.n0 → B.r0 i ≠ b) → ∀ j, j < (c.cells i).length → ρ j ≠ b := fun b o e kk j hj z => by
    obtain ⟨d, hd⟩ := live j hj
    obtain ⟨_, _, q4⟩ := R.cell j d hd
    rcases q4 with q4 | q4
    · exact kk j q4 (by rw [← R.rho j q4]; exact z)
    · rw [z, e] at q4; cases q4
  refine ⟨i, F, ρ, hp, ⟨R.le, fun _ _ e => e, fun _ _ e _ => e, fun _ e => e, fun _ _ e => .inl e, fun _ _ => rfl, Nat.le_refl _, R.inj, fun a c1 e => ?_, rfl, fun _ _ e => by simp at e, hu⟩, fun s C' v H' post Rc => ?_, fun cls n dd fs H' x kc a b => hX cls n dd fs H' (he cls n x) (fun b o e kk => kc b o (R.keep b o e kk) (hne b o e kk)) a b⟩
  · obtain ⟨q1, q2, _⟩ := R.cell a c1 e
    exact ⟨q1, q2, .inl (List.getElem?_eq_some_iff.mp e).1⟩
  · obtain ⟨F', ρ', Rc⟩ := Rc
    have hn : (c.cells i).length ≤ C'.length := Rc.nc
    have hr : ∀ j, j < (c.cells i).length → ρ' j = ρ j := Rc.rho
    have LF : Le F F' := Rc.sub
    refine kq s C' v H' (hk s C' post) ⟨F', ρ', ⟨Rc.le, R.sub.tr LF, fun b o e kk => Rc.keep b o (R.keep b o e kk) (hne b o e kk), fun b e => R.there b (Rc.there b e), fun b o e => ?_, fun j h => (hr j (Nat.lt_of_lt_of_le h R.nc)).trans (R.rho j h), Nat.le_trans R.nc hn, Rc.inj, fun m d e => ?_, R.len, fun j t e => ?_, ?_⟩⟩
    · rcases Rc.frz b o e with q | q | ⟨j, hj, q⟩
      · exact R.frz b o q
      · exact .inr (.inl (R.there b q))
      · obtain ⟨d, hd⟩ := live j hj
        obtain ⟨_, _, q4⟩ := R.cell j d hd
        have q' : ρ j = b := q
        rcases q4 with q4 | q4
        · exact .inr (.inr ⟨j, q4, by rw [← R.rho j q4]; exact q'⟩)
        · rw [q'] at q4
          exact .inr (.inl q4)
    · obtain ⟨q1, q2, q4⟩ := Rc.cell m d e
      refine ⟨q1, q2, ?_⟩
      rcases q4 with q4 | q4
      · have q4' : m < (c.cells i).length := q4
        obtain ⟨d0, hd⟩ := live m q4'
        obtain ⟨_, _, p4⟩ := R.cell m d0 hd
        rw [hr m q4']
        exact p4
      · exact .inr (R.there _ q4)
    · obtain ⟨u, q, r⟩ := R.slot j t e
      exact ⟨u, q, r.mono LF hn hr⟩
    · cases Rc.stk with
      | cons a _ => exact .cons a (Paired.mapP R.stk fun _ _ q => q.mono LF hn hr)
theorem we_callA {c : Ct} {E : XK} {ex : Addr → Int → Prop} (hX : Xk B E ex) (h : Wa B t' g S C fun ss C1 => Wka c ex ss k C1) : We B (tCall (c.sp B.K) [] E t') g S C k := fun σ vs H Q R kq =>
  h σ vs H _ R fun ss C1 us H1 W l R1 => by
    obtain ⟨F, ρ, R1⟩ := R1
    obtain ⟨R2, hu⟩ := popN R1 l
    show c.sp B.K (us ++ []) H1 Q E
    rw [List.append_nil]
    exact callA hX W R2 hu kq
theorem we_methA {CC : Addr} {m : Str} {c : Ct} {E : XK} {ex : Addr → Int → Prop} (hX : Xk B E ex) (h : We B ta g S C fun x C1 => ∃ i fs, x = .ref i ∧ C1[i]? = some (some (.ins CC fs)) ∧ FN fs m ∧ Wa B t' g (x :: S) C1 fun ss C2 => Wka c ex (x :: ss) k C2) :
    We B (tMeth CC m (c.sp B.K) [] E ta t') g S C k := fun σ vs H Q R kq =>
  h σ vs H _ R fun x C1 v H1 ⟨i, fs, e, ei, fn, h1⟩ R1 => by
    obtain ⟨F, ρ, R2, hx⟩ := R1.top
    have hx0 := hx
    subst e
    obtain ⟨_, ⟨o, e2, q3⟩, _⟩ := R2.cell _ _ ei
    cases q3 with
    | @ins _ dx ws _ q3 =>
      refine ⟨ρ i, dx, ws, hx0.2, e2, fn.look q3, ?_⟩
      refine h1 σ _ H1 _ R1 fun ss C2 us H2 W l R3 => ?_
      obtain ⟨F3, ρ3, R3⟩ := R3
      obtain ⟨R4, hu⟩ := popN R3 l
      obtain ⟨R5, hx5⟩ := R4.pop
      show c.sp B.K (v :: (us ++ [])) H2 Q E
      rw [List.append_nil]
      exact callA hX W R5 (.cons hx5 hu) kq
theorem we_makeA {CC : Addr} {c : Ct} {E : XK} {ex : Addr → Int → Prop} (hX : Xk B E ex) (h : Wa B t' g S C fun ss C1 => Wka c ex (.ref C1.length :: ss) (fun s C2 => s = .dat .none ∧ k (.ref C1.length) C2) (C1 ++ [some (.ins CC [])])) :
    We B (tMake CC (c.sp B.K) [] E t') g S C k := fun σ vs H Q R kq =>
  h σ vs H _ R fun ss C1 us H1 W l R1 x dx hx hdx hne => by
    obtain ⟨F, ρ, R1⟩ := R1
    have R2 := R1.other (o := .own x) hdx
    have hx2 : upd H1 dx (HO.own x) x = none := by rw [upd_ne (Ne.symm hne)]; exact hx
    have R3 := R2.lay_c (o := .ins CC dx []) (c := .ins CC []) hx2 (.ins .nil)
    obtain ⟨R4, hn⟩ := R3.pop
    obtain ⟨R5, hu⟩ := popN R4 l
    show c.sp B.K (.ref x :: (us ++ [])) _ (fun v H2 => v = .non ∧ Q (.ref x) H2) E
    rw [List.append_nil]
    refine callA (Q := fun v H2 => v = .non ∧ Q (.ref x) H2) hX W (R5.push hn) (.cons hn hu) fun s C2 v H2 ⟨es, q⟩ R6 => ?_
    subst es
    obtain ⟨F6, ρ6, R6⟩ := R6
    obtain ⟨R7, hv⟩ := R6.pop
    exact ⟨Is.non_inv hv, kq _ C2 _ H2 q ⟨F6, ρ6, R7⟩⟩
/-! ## dicts compared, and their keys -/
inductive DFz (C : Cs) : SV → List (Key × D) → Prop
  | dat (ds : List (Key × D)) : DFz C (.dat (.dict (ds.map fun q => (keyD q.1, q.2)))) ds
  | cell {i : Nat} {ks : List (Key × SV)} {ds : List (Key × D)} : C[i]? = some (some (.dct ks)) → Paired (fun p q => p.1 = q.1 ∧ Fz C p.2 q.2) ks ds → DFz C (.ref i) ds
theorem paired_comp {α β γ : Type} {P : α → β → Prop} {Q : β → γ → Prop} {T : α → γ → Prop} (h : ∀ a b c, P a b → Q b c → T a c) : ∀ {xs : List α} {ys : List β} {zs : List γ}, Paired P xs ys → Paired Q ys zs → Paired T xs zs
  | _, _, _, .nil, .nil => .nil
  | _, _, _, .cons a r, .cons b t => .cons (h _ _ _ a b) (paired_comp h r t)
theorem Rl.dfz (R : Rl B g S C σ vs H F ρ) {x : SV} {v : V} {ds : List (Key × D)} (h : DFz C x ds) (hx : SIs B.K F ρ C.length v x) : ∃ a ks, v = .ref a ∧ H a = some (.dK ks) ∧ Paired (fun p q => p.1 = q.1 ∧ Is B.K H p.2 q.2) ks ds := by
  cases h with
  | dat ds =>
    cases hx with
    | @dct a ks _ e r =>
      refine ⟨a, ks, rfl, R.le _ _ e, ?_⟩
      have z := kv_pair (ρ := ρ) (n := C.length) r
      exact paired_mapR (fun q : Key × D => (q.1, SV.dat q.2)) (fun p q hq => ⟨hq.1, Is.mono R.le hq.2⟩) z
  | cell e r =>
    obtain ⟨_, ⟨o, e2, q⟩, _⟩ := R.cell _ _ e
    cases q with
    | @dct ws _ q =>
      have hv := hx.2
      subst hv
      exact ⟨_, ws, rfl, e2, paired_comp (fun a b c h1 h2 => ⟨h1.1.trans h2.1, R.fz h2.2 h1.2⟩) q r⟩
theorem kvd_of {K : PySem.W.Frag} {H : Hp} {ks : List (Key × V)} {ds : List (Key × D)} (h : Paired (fun p q => p.1 = q.1 ∧ Is K H p.2 q.2) ks ds) (hs : ∀ q ∈ ds, Shp 64 q.2) : KvD K H ks ds :=
  paired_mem h fun a b hb q => ⟨q.1, q.2.dp Le.rfl' (hs b hb).1, shaped_of (hs b hb) (Nat.le_refl _)⟩
theorem wr_neK {x y : SV} {ds es : List (Key × D)} (hx : DFz C x ds) (hy : DFz C y es) (sd : ∀ q ∈ ds, Shp 64 q.2) (se : ∀ q ∈ es, Shp 64 q.2) (q : k (.dat (.bool (!kvEq ds es))) C) : Wr B (rNeK B.K) x y g S C k := fun σ vs H Q v w R kq => by
  obtain ⟨F, ρ, R⟩ := R
  obtain ⟨R1, hw⟩ := R.pop
  obtain ⟨R2, hv⟩ := R1.pop
  obtain ⟨a, ks, ev, e1, p1⟩ := R2.dfz hx hv
  obtain ⟨b, ls, ew, e2, p2⟩ := R2.dfz hy hw
  exact ⟨a, b, ks, ls, ds, es, ev, ew, e1, e2, kvd_of p1 sd, kvd_of p2 se, kq _ C _ H q ⟨F, ρ, R2.push (.bl _)⟩⟩
theorem wr_eqK {x y : SV} {ds es : List (Key × D)} (hx : DFz C x ds) (hy : DFz C y es) (sd : ∀ q ∈ ds, Shp 64 q.2) (se : ∀ q ∈ es, Shp 64 q.2) (q : k (.dat (.bool (kvEq ds es))) C) : Wr B (rEqK B.K) x y g S C k := fun σ vs H Q v w R kq => by
  obtain ⟨F, ρ, R⟩ := R
  obtain ⟨R1, hw⟩ := R.pop
  obtain ⟨R2, hv⟩ := R1.pop
  obtain ⟨a, ks, ev, e1, p1⟩ := R2.dfz hx hv
  obtain ⟨b, ls, ew, e2, p2⟩ := R2.dfz hy hw
  exact ⟨a, b, ks, ls, ds, es, ev, ew, e1, e2, kvd_of p1 sd, kvd_of p2 se, kq _ C _ H q ⟨F, ρ, R2.push (.bl _)⟩⟩
theorem valA_mem {ds : List (Key × D)} (hn : (ds.map (·.1)).Nodup) : ∀ p ∈ ds, valA ds p.1 = some p.2 := by
  induction ds with
  | nil => intro p hp; cases hp
  | cons x r ih =>
    rw [List.map_cons, List.nodup_cons] at hn
    intro p hp
    rcases List.mem_cons.mp hp with e | e
    · rw [e]; exact valA_pos rfl
    · rw [valA_neg (fun z => hn.1 (by rw [z]; exact List.mem_map.mpr ⟨p, e, rfl⟩))]
      exact ih hn.2 p e
theorem kvEq_self {ds : List (Key × D)} (hn : (ds.map (·.1)).Nodup) (hs : ∀ q ∈ ds, Shp 64 q.2) : kvEq ds ds = true := by
  unfold kvEq
  rw [beq_self_eq_true, Bool.true_and]
  refine List.all_eq_true.mpr fun p hp => ?_
  rw [valA_mem hn p hp]
  exact eqv_self (hs p hp).1
theorem keys_all {K K2 : PySem.W.Frag} {H F2 : Hp} {ks : List (Key × V)} {ds : List (Key × D)} (h : Paired (fun p q => p.1 = q.1 ∧ Is K H p.2 q.2) ks ds) : IsAll K2 F2 (ks.map fun q => kV q.1) (ds.map fun q => keyD q.1) := by
  induction h with
  | nil => exact .nil
  | @cons a b as bs h t ih =>
    refine .cons ?_ ih
    show Is K2 F2 (kV a.1) (keyD b.1)
    rw [h.1]
    cases b.1 with
    | inl i => exact .int i
    | inr z => exact .str z
theorem wc_loK {x : SV} {ds : List (Key × D)} (h : DFz C x ds) (q : k (.dat (.list (ds.map fun q => keyD q.1))) C) : Wc B rLoK [x] g S C k := fun σ vs H Q us hl R kq => by
  obtain ⟨u, rfl, R⟩ := Rel.one hl R
  obtain ⟨F, ρ, R⟩ := R
  obtain ⟨R1, hv⟩ := R.pop
  obtain ⟨a, ks, ev, e1, p1⟩ := R1.dfz h hv
  refine ⟨a, ks, by rw [ev], e1, fun p hp => ?_⟩
  obtain ⟨R2, L⟩ := R1.lay (o := .lst (ks.map fun q => kV q.1)) hp
  exact kq _ C _ _ q ⟨_, ρ, R2.push (.lst upd_same (keys_all p1))⟩
end
end Sy

set_option Elab.async false
set_option linter.all false
set_option maxRecDepth 100000
set_option maxHeartbeats 1000000
namespace Sy
open PySem L2
section
variable {B : Bs} {g : Gs} {S : List SV} {C : Cs} {k : SV → Cs → Prop}
variable {σ : L2.St} {vs : List V} {H : Hp} {F : Hp} {ρ : Nat → Addr}
/-- names forgotten, the cells renumbered -/
inductive GSub (f : Nat → Nat) (n : Nat) : Gs → Gs → Prop
  | nil : GSub f n [] []
  | no {a : Gs} {b : Gs} {x : Option SV} : GSub f n a b → GSub f n (none :: a) (x :: b)
  | yes {a : Gs} {b : Gs} {s s' : SV} : s.lt n → s' = s.rn f → GSub f n a b → GSub f n (some s :: a) (some s' :: b)
theorem GSub.len {f : Nat → Nat} {n : Nat} {a b : Gs} (h : GSub f n a b) : a.length = b.length := by
  induction h with
  | nil => rfl
  | no _ ih => simp [ih]
  | yes _ _ _ ih => simp [ih]
theorem GSub.at {f : Nat → Nat} {n : Nat} {a b : Gs} (h : GSub f n a b) : ∀ {i : Nat} {s : SV}, a[i]? = some (some s) → s.lt n ∧ b[i]? = some (some (s.rn f)) := by
  induction h with
  | nil => intro i s e; simp at e
  | no _ ih =>
    intro i s e
    cases i with
    | zero => simp at e
    | succ i => exact ih (by simpa using e)
  | yes l e0 _ ih =>
    intro i s e
    cases i with
    | zero =>
      simp at e
      subst e e0
      exact ⟨l, rfl⟩
    | succ i => exact ih (by simpa using e)
theorem nx_gcC {P : Gs → Cs → Prop} (is : List Nat) (C' : Cs) (g' : Gs) (hl : is.length = C'.length) (nd : is.Nodup)
    (hC : ∀ (j i : Nat), is[j]? = some i → ∃ c' : Cell, C'[j]? = some (some c') ∧ c'.lt is.length ∧ C[i]? = some (some (c'.rn (ren is 0)))) (hg : GSub (ren is 0) is.length g' g) (hS : S.all SV.cl = true)
    (hn : ∀ j, j < B.n0 → is[j]? = some j) (h : P g' C') : Nx B S P g C := fun σ vs H ⟨F, ρ, R⟩ => by
  have hN : ∀ j i', is[j]? = some i' → i' < C.length := fun j i' e => by
    obtain ⟨c', _, _, e4⟩ := hC j i' e
    exact (List.getElem?_eq_some_iff.mp e4).1
  have old : ∀ j, j < is.length → ∃ i', is[j]? = some i' ∧ ren is 0 j = i' ∧ i' < C.length := fun j hj => ⟨is[j], List.getElem?_eq_getElem hj, ren_in (List.getElem?_eq_getElem hj), hN j _ (List.getElem?_eq_getElem hj)⟩
  let ρ' : Nat → Addr := fun j => ρ (ren is 0 j)
  have cut : ∀ {v : V} {s : SV}, s.lt is.length → SIs B.K F ρ C.length v (s.rn (ren is 0)) → SIs B.K F ρ' C'.length v s := fun {v s} l q => by
    rw [← hl]
    exact sis_back (f := ren is 0) (fun _ _ => rfl) l q
  have at_ : ∀ (j : Nat) (c : Cell), C'[j]? = some (some c) → ∃ i, is[j]? = some i ∧ c.lt is.length ∧ C[i]? = some (some (c.rn (ren is 0))) := fun j c e => by
    have hj : j < is.length := by rw [hl]; exact (List.getElem?_eq_some_iff.mp e).1
    obtain ⟨c', e1, e2, e3⟩ := hC j is[j] (List.getElem?_eq_getElem hj)
    rw [e] at e1
    cases e1
    exact ⟨_, List.getElem?_eq_getElem hj, e2, e3⟩
  have n0l : B.n0 ≤ C'.length := by
    by_cases h0 : B.n0 = 0
    · omega
    · have := hn (B.n0 - 1) (by omega)
      have := (List.getElem?_eq_some_iff.mp this).1
      omega
  refine ⟨g', C', h, F, ρ', ⟨R.le, R.sub, R.keep, R.there, R.frz, fun j hj => ?_, n0l, fun a b c d e1 e2 z => ?_, fun j c e => ?_, R.len.trans hg.len.symm, fun j s e => ?_, ?_⟩⟩
  · show ρ (ren is 0 j) = _
    rw [ren_in (hn j hj)]
    exact R.rho j hj
  · obtain ⟨i1, h1, _, h3⟩ := at_ a c e1
    obtain ⟨i2, k1, _, k3⟩ := at_ b d e2
    have z' : ρ i1 = ρ i2 := by
      rw [← ren_in (N := 0) h1, ← ren_in (N := 0) k1]
      exact z
    have e := R.inj i1 i2 _ _ h3 k3 z'
    subst e
    obtain ⟨p1, p2⟩ := List.getElem?_eq_some_iff.mp h1
    obtain ⟨q1, q2⟩ := List.getElem?_eq_some_iff.mp k1
    exact (List.getElem_inj nd).mp (p2.trans q2.symm)
  · obtain ⟨i, h1, h2, h3⟩ := at_ j c e
    obtain ⟨q1, ⟨o, q2, q3⟩, q4⟩ := R.cell i _ h3
    have er : ρ' j = ρ i := by show ρ (ren is 0 j) = _; rw [ren_in h1]
    rw [er]
    refine ⟨q1, ⟨o, q2, by rw [← hl]; exact cis_back (f := ren is 0) (fun _ _ => rfl) h2 q3⟩, ?_⟩
    rcases q4 with q4 | q4
    · have h5 := hn i q4
      obtain ⟨p1, p2⟩ := List.getElem?_eq_some_iff.mp h1
      obtain ⟨q1, q2⟩ := List.getElem?_eq_some_iff.mp h5
      have : j = i := (List.getElem_inj nd).mp (p2.trans q2.symm)
      exact .inl (by omega)
    · exact .inr q4
  · obtain ⟨l, e'⟩ := hg.at e
    obtain ⟨v, q, r⟩ := R.slot j _ e'
    exact ⟨v, q, cut l r⟩
  · exact sis_cl hS R.stk
/-- names forgotten -/
inductive GFg : Gs → Gs → Prop
  | nil : GFg [] []
  | no {a : Gs} {b : Gs} {x : Option SV} : GFg a b → GFg (none :: a) (x :: b)
  | yes {a : Gs} {b : Gs} {s s' : SV} : s' = s → GFg a b → GFg (some s :: a) (some s' :: b)
theorem GFg.len {a b : Gs} (h : GFg a b) : a.length = b.length := by
  induction h with
  | nil => rfl
  | no _ ih => simp [ih]
  | yes _ _ ih => simp [ih]
theorem GFg.at {a b : Gs} (h : GFg a b) : ∀ {i : Nat} {s : SV}, a[i]? = some (some s) → b[i]? = some (some s) := by
  induction h with
  | nil => intro i s e; simp at e
  | no _ ih =>
    intro i s e
    cases i with
    | zero => simp at e
    | succ i => exact ih (by simpa using e)
  | yes e0 _ ih =>
    intro i s e
    cases i with
    | zero =>
      simp at e
      subst e e0
      rfl
    | succ i => exact ih (by simpa using e)
theorem nx_fg {P : Gs → Cs → Prop} (g' : Gs) (hg : GFg g' g) (h : Nx B S P g' C) : Nx B S P g C := fun σ vs H ⟨F, ρ, R⟩ =>
  h σ vs H ⟨F, ρ, { R with len := R.len.trans hg.len.symm, slot := fun i s e => R.slot i s (hg.at e) }⟩
end
end Sy

set_option Elab.async false
set_option linter.all false
set_option maxRecDepth 100000
set_option maxHeartbeats 1000000
namespace Sy
open PySem L2
section
variable {C C2 : Cs}
theorem FzA.of_map : ∀ (ds : List D), FzA C (ds.map .dat) ds
  | [] => .nil
  | _ :: ds => .cons .dat (FzA.of_map ds)
theorem fz_list {x : SV} {ds : List D} (h : Fz C x (.list ds)) : ∃ ys, LV C x ys ∧ FzA C ys ds := by
  generalize e : (PyData.list ds : D) = d at h
  cases h with
  | dat => subst e; exact ⟨_, .dat, FzA.of_map ds⟩
  | lst e1 r => cases e; exact ⟨_, .cell e1, r⟩
  | dct e1 r => cases e
theorem fz_str {x : SV} {z : Str} (h : Fz C x (.str z)) : x = .dat (.str z) := by
  generalize e : (PyData.str z : D) = d at h
  cases h with
  | dat => subst e; rfl
  | lst e1 r => cases e
  | dct e1 r => cases e
theorem fz_int {x : SV} {z : Int} (h : Fz C x (.int z)) : x = .dat (.int z) := by
  generalize e : (PyData.int z : D) = d at h
  cases h with
  | dat => subst e; rfl
  | lst e1 r => cases e
  | dct e1 r => cases e
theorem fza_ints : ∀ {ns : List Int} {ys : List SV}, FzA C ys (ns.map PyData.int) → ys = (ns.map PyData.int).map .dat
  | [], _, h => by cases h; rfl
  | n :: ns, _, h => by
    cases h with
    | cons a r => rw [fz_int a, fza_ints r]; rfl
theorem fz_nums {x : SV} {ns : List Int} (h : Fz C x (.list (ns.map PyData.int))) : LV C x ((ns.map PyData.int).map .dat) := by
  obtain ⟨ys, l, a⟩ := fz_list h
  rw [← fza_ints a]
  exact l
theorem fzk_get {ds : List (D × D)} {key : Key} {d : D} (l : DL ds key d) : ∀ {ks : List (Key × SV)}, FzK C ks ds → ∃ s, KL ks key s ∧ Fz C s d := by
  induction l with
  | @here k d r =>
    intro ks h
    generalize e : (keyD k, d) :: r = l at h
    cases h with
    | nil => cases e
    | cons a t =>
      simp only [List.cons.injEq, Prod.mk.injEq] at e
      obtain ⟨⟨e1, e2⟩, _⟩ := e
      rw [keyD_inj e1, e2]
      exact ⟨_, .here, a⟩
  | @next k k' d d' r n l ih =>
    intro ks h
    generalize e : (keyD k', d') :: r = l' at h
    cases h with
    | nil => cases e
    | cons a t =>
      simp only [List.cons.injEq, Prod.mk.injEq] at e
      obtain ⟨⟨e1, e2⟩, e3⟩ := e
      rw [← e3] at t
      obtain ⟨s, q, i⟩ := ih t
      exact ⟨s, .next (by rw [← keyD_inj e1]; exact n) q, i⟩
theorem fz_get {x : SV} {ds : List (D × D)} {key : Key} {d : D} (h : Fz C x (.dict ds)) (l : DL ds key d) : ∃ s, DV C x key s ∧ Fz C s d := by
  generalize e : (PyData.dict ds : D) = dd at h
  cases h with
  | dat => subst e; exact ⟨_, .dat l, .dat⟩
  | lst e1 r => cases e
  | dct e1 r =>
    cases e
    obtain ⟨s, q, i⟩ := fzk_get l r
    exact ⟨s, .cell e1 q, i⟩
theorem fza_zip {α : Type} {f : α → D} : ∀ {bs : List α} {ys : List SV}, FzA C ys (bs.map f) → ys.length = bs.length ∧ ∀ p ∈ ys.zip bs, Fz C p.1 (f p.2)
  | [], _, h => by cases h; exact ⟨rfl, fun p hp => by cases hp⟩
  | b :: bs, _, h => by
    cases h with
    | cons a r =>
      obtain ⟨e, q⟩ := fza_zip r
      refine ⟨by simp [e], fun p hp => ?_⟩
      rw [List.zip_cons_cons] at hp
      rcases List.mem_cons.mp hp with z | z
      · rw [z]; exact a
      · exact q p z
theorem zip_fst {α β : Type} {as : List α} {bs : List β} (h : as.length = bs.length) : (as.zip bs).map (·.1) = as := List.map_fst_zip (by omega)
theorem zip_snd {α β γ : Type} {as : List α} {bs : List β} (f : β → γ) (h : as.length = bs.length) : (as.zip bs).map (fun p => f p.2) = bs.map f := by
  have := congrArg (List.map f) (List.map_snd_zip (l₁ := as) (l₂ := bs) (by omega))
  rw [List.map_map] at this
  exact this
theorem atI_last {α : Type} {xs : List α} (d : α) (h : 0 < xs.length) : atI xs (-1) = some (xs.getD (xs.length - 1) d) := by
  have e : ixN xs.length (-1) = some (xs.length - 1) := by
    unfold ixN
    rw [if_neg (by omega), if_pos (by omega)]
    congr 1
    omega
  unfold atI
  rw [e, Option.bind_some, List.getD_eq_getElem?_getD, List.getElem?_eq_getElem (by omega)]
  rfl
end
section
variable {B : Bs} {g : Gs} {S : List SV} {C : Cs} {k : SV → Cs → Prop}
theorem wr_ixML {α : Type} {f : α → D} {ns : List α} (d : α) (h1 : 0 < ns.length) (q : k (.dat (f (ns.getD (ns.length - 1) d))) C) : Wr B (rIx B.K) (.dat (.list (ns.map f))) (.dat (.int (-1))) g S C k :=
  wr_ixl .dat (atI_map _ (atI_map _ (atI_last d h1))) q
theorem wps_nil {kp : List (Key × SV) → List SV → Cs → Prop} (q : kp [] S C) : Wps B g [] S C kp := q
theorem wps_str {x : Str} {tv : TE} {r : List (TE × TE)} {kp : List (Key × SV) → List SV → Cs → Prop} (h : We B tv g (.dat (.str x) :: S) C fun y C2 => Wps B g r (y :: .dat (.str x) :: S) C2 fun ps S3 C3 => kp ((.inr x, y) :: ps) S3 C3) : Wps B g ((tC (.str x), tv) :: r) S C kp :=
  we_str ⟨.inr x, rfl, h⟩
theorem wps_int {x : Int} {tv : TE} {r : List (TE × TE)} {kp : List (Key × SV) → List SV → Cs → Prop} (h : We B tv g (.dat (.int x) :: S) C fun y C2 => Wps B g r (y :: .dat (.int x) :: S) C2 fun ps S3 C3 => kp ((.inl x, y) :: ps) S3 C3) : Wps B g ((tC (.int x), tv) :: r) S C kp :=
  we_int ⟨.inl x, rfl, h⟩
/-- a, b = x, y: the tuple is nobody's -/
theorem ws_asgTupC {kk : Ks} {ta : TA} {ts : TGs} {n : Nat} (h : Wa B ta g S C fun ss C1 => ss.length = n ∧ ss.length ≤ sizeLine ∧ Wgs B ts ss g S C1 kk.nx) : Ws B (tAsg (tTup ta) (gTup B.K n ts)) g S C kk := fun σ vs H D R d =>
  h σ vs H _ R fun ss C1 us H1 ⟨hn, hl, q⟩ l R1 => by
    refine ⟨by rw [l]; exact hl, fun p hp => ?_⟩
    obtain ⟨F, ρ, R1⟩ := R1
    obtain ⟨R2, hu⟩ := popN R1 l
    have R3 := R2.other (o := .tup us) hp
    refine ⟨p, us, rfl, SqT.of upd_same, by rw [l]; exact hn, ?_⟩
    exact q σ vs us _ _ l ⟨F, ρ, { R3 with stk := paired_app hu R3.stk }⟩ (fun g2 C2 σ2 H2 q2 R2 => d.nx _ _ _ _ q2 R2)
/-- the state is told anew ahead of a statement -/
theorem ws_pre {kk : Ks} {t : TS} {P : Gs → Cs → Prop} (h : Nx B S P g C) (q : ∀ g' C', P g' C' → Ws B t g' S C' kk) : Ws B t g S C kk := fun σ vs H D R d => by
  obtain ⟨g', C', p, R'⟩ := h σ vs H R
  exact q g' C' p σ vs H D R' d
theorem mem_cutL {α : Type} {x : α} {xs : List α} {lo hi : Option Int} (h : x ∈ cutL xs lo hi) : x ∈ xs := List.mem_of_mem_drop (List.mem_of_mem_take h)
theorem ixN_nn {n : Nat} {i : Int} (h0 : 0 ≤ i) (h1 : i < n) : ixN n i = some i.toNat := by
  unfold ixN
  rw [if_pos h0, if_pos h1]
theorem we_lc1C {wi : TI} {te : TE} {j : Nat} {α : Type} (as : List α) (enc : α → SV) (f : α → D) (hl : as.length ≤ sizeLine)
    (h : Wsrc B wi as enc g S C fun C1 => (∀ a, a ∈ as → ∀ S' acc, We B te ((wipeG g [j]).set j (some (enc a))) S' (C1 ++ [some (.lst acc)]) fun y C4 => C4 = C1 ++ [some (.lst acc)] ∧ y = .dat (f a)) ∧
      k (.ref C1.length) (C1 ++ [some (.lst ((as.map f).map .dat))])) : We B (tLc wi (gName j) tYes te [j]) g S C k :=
  we_lcC as enc (fun _ => true) f hl fun σ vs H Q R kq => h σ vs H Q R fun J T tv xs ok C1 H1 ⟨a, b, c, d⟩ => kq J T tv xs ok C1 H1 ⟨a, b, fun i x acc e => wgw_name (by simp) ⟨rfl, wt_yes ⟨rfl, rfl, fun _ => c x (List.mem_of_getElem? e) _ acc⟩⟩, by rw [List.filter_eq_self.mpr fun _ _ => rfl]; exact d⟩
theorem we_lc1N {wi : TI} {te : TE} {j : Nat} {α : Type} (as : List α) (enc : α → SV) (cf : α → Cell) (hl : as.length ≤ sizeLine)
    (h : WsrcD B wi as enc g S C fun C1 => (∀ (i : Nat) a, as[i]? = some a → ∀ S', We B te ((wipeG g [j]).set j (some (enc a))) S' (newC C1 (as.take i) cf) fun y C4 => C4 = newC C1 (as.take i) cf ++ [some (cf a)] ∧ y = .ref (newC C1 (as.take i) cf).length) ∧
      k (.ref C1.length) (newC C1 as cf)) : We B (tLc wi (gName j) tYes te [j]) g S C k :=
  we_lcN as enc cf hl fun σ vs H Q R kq => h σ vs H Q R fun J T tv xs ok C1 H1 ⟨a, b, c, d⟩ => kq J T tv xs ok C1 H1 ⟨a, fun L => b _, fun i x e => wgw_name (by simp) ⟨rfl, c i x e _⟩, d⟩
end
end Sy

set_option Elab.async false
set_option linter.all false
set_option maxRecDepth 100000
set_option maxHeartbeats 1000000
namespace K01
open PySem PySem.Spec PyProof.Rows L2 Sy
def top (i : Nat) : Stmt := PySem.Challenge.pw_caughtup_k01_whole_slots_and_cartridges.main.body.getD i (.Pass ⟨0, 0, 0, 0⟩)
abbrev s_BoxErrorU_initU : Stmt := inClass (top 1) 0
abbrev s_is_bank : Stmt := top 13
abbrev s_check_cart : Stmt := top 14
abbrev s_cart_of : Stmt := top 15
abbrev s_SlotU_initU : Stmt := inClass (top 16) 0
abbrev s_Slot_read : Stmt := inClass (top 16) 1
abbrev s_Slot_write : Stmt := inClass (top 16) 2
abbrev s_Slot_chosen : Stmt := inClass (top 16) 3
abbrev s_Slot_choose : Stmt := inClass (top 16) 4
abbrev s_Slot_cart : Stmt := inClass (top 16) 5
abbrev s_l_law_draws : Stmt := top 18
abbrev s_l_law_mix : Stmt := top 19
abbrev s_l_law_refused : Stmt := top 20
abbrev s_l_law_bank : Stmt := top 21
abbrev s_l_law_wrong : Stmt := top 22
abbrev s_l_law_faults : Stmt := top 23
abbrev s_law : Stmt := top 24
structure Tx (K : PySem.W.Frag) (mg : Str → Option Value) : Prop where
  g_is_bank : mg "is_bank" = some (.ref (He.ga K "is_bank"))
  g_check_cart : mg "check_cart" = some (.ref (He.ga K "check_cart"))
  g_cart_of : mg "cart_of" = some (.ref (He.ga K "cart_of"))
  g__law_draws : mg "_law_draws" = some (.ref (He.ga K "_law_draws"))
  g__law_mix : mg "_law_mix" = some (.ref (He.ga K "_law_mix"))
  g__law_refused : mg "_law_refused" = some (.ref (He.ga K "_law_refused"))
  g__law_bank : mg "_law_bank" = some (.ref (He.ga K "_law_bank"))
  g__law_wrong : mg "_law_wrong" = some (.ref (He.ga K "_law_wrong"))
  g__law_faults : mg "_law_faults" = some (.ref (He.ga K "_law_faults"))
  g_law : mg "law" = some (.ref (He.ga K "law"))
  f_abs : mg "abs" = none
  f_all : mg "all" = none
  f_enumerate : mg "enumerate" = none
  f_int : mg "int" = none
  f_len : mg "len" = none
  f_list : mg "list" = none
  f_min : mg "min" = none
  f_range : mg "range" = none
  f_super : mg "super" = none
  f_ValueError : mg "ValueError" = none
  i_BANK : ∃ t, mg "BANK" = some (.int 256 t)
  g_KINDS : mg "KINDS" = some (.ref (He.ga K "KINDS"))
  i_MOST_BANKS : ∃ t, mg "MOST_BANKS" = some (.int 8 t)
  i_MOST_CODE : ∃ t, mg "MOST_CODE" = some (.int 250 t)
  i_BANK_PAGE : ∃ t, mg "BANK_PAGE" = some (.int 128 t)
  i_LAST_PAGE : ∃ t, mg "LAST_PAGE" = some (.int 129 t)
  i_CODE : ∃ t, mg "CODE" = some (.int 33024 t)
  i_LOW : ∃ t, mg "LOW" = some (.int 0 t)
  i_HIGH : ∃ t, mg "HIGH" = some (.int 129 t)
  g_BoxError : mg "BoxError" = some (.ref (He.ga K "BoxError"))
  g_BadCart : mg "BadCart" = some (.ref (He.ga K "BadCart"))
  g_Slot : mg "Slot" = some (.ref (He.ga K "Slot"))
  c_Slot : Cls K (He.ga K "Slot")
  n_Slot__banks : NoAttr K (He.ga K "Slot") "_banks"
  n_Slot__kind : NoAttr K (He.ga K "Slot") "_kind"
  n_Slot__chosen : NoAttr K (He.ga K "Slot") "_chosen"
  m_Slot_read : Meth K (He.ga K "Slot") "read" (He.ma K (He.ga K "Slot") "read")
  m_Slot_write : Meth K (He.ga K "Slot") "write" (He.ma K (He.ga K "Slot") "write")
  m_Slot_chosen : Meth K (He.ga K "Slot") "chosen" (He.ma K (He.ga K "Slot") "chosen")
  m_Slot_choose : Meth K (He.ga K "Slot") "choose" (He.ma K (He.ga K "Slot") "choose")
  m_Slot_cart : Meth K (He.ga K "Slot") "cart" (He.ma K (He.ga K "Slot") "cart")
  k_Slot : Mk K (He.ga K "Slot") (He.ma K (He.ga K "Slot") "__init__")
  t_KINDS : ∀ H, SqT K H (He.ga K "KINDS") [(.str "plain"), (.str "switched")]
  any : PySem.W.nsIn K PySem.cStatics "thirdparty.any" = some none
  x_BadCart : ExcC K (He.ga K "BadCart") (He.ga K "BoxError") (He.fAd K ("BoxError", some "__init__"))
  xf_BadCart : XfC K (He.ga K "BadCart")
  e_BadCart_BadCart : PySem.W.exmOne K (.ref (He.ga K "BadCart")) (.ref (He.ga K "BadCart")) = some true
end K01

set_option Elab.async false
set_option linter.all false
set_option maxRecDepth 100000
set_option maxHeartbeats 1000000
namespace K01
open PySem PySem.Spec PyProof.Rows L2 Sy
/-! ## banks, cartridges, slots -/
abbrev rows (css : List (List Int)) : D := .list (css.map nums)
def bankOf (ds : List Int) (k : Int) : List Int := (rng 0 256).map fun t => (mix ds k 256 * (t + 1) + t * t) % 256
def isBank (b : List Int) : Bool := decide (b.length = 256) && b.all fun x => decide (0 ≤ x) && decide (x < 256)
abbrev kdOk (kd : Str) : Bool := inV (.str kd) [.str "plain", .str "switched"]
def faultOf (bs : List (List Int)) (kd : Str) : Option Int :=
  if (decide (2 ≤ bs.length) && decide (bs.length ≤ 8)) && kdOk kd then (bs.findIdx? fun b => !isBank b).map fun k => (k : Int) + 1 else some 0
def optI : Option Int → D
  | none => .none
  | some k => .int k
def lastOf (code : List Int) : List Int := code ++ (List.replicate (250 - code.length) 0 ++ [0, 129, 0, 0, 0, 129])
def coFault (code : List Int) (kd : Str) (more : List (List Int)) : Option Int := if 250 < code.length then some 0 else faultOf (more ++ [lastOf code]) kd
abbrev cartKv (bs : List (List Int)) (kd : Str) : List (Key × D) := [(.inr "banks", rows bs), (.inr "kind", .str kd)]
abbrev cartD (bs : List (List Int)) (kd : Str) : D := .dict [(.str "banks", rows bs), (.str "kind", .str kd)]
/-- not too many numbers -/
def Sz (bs : List (List Int)) : Prop := bs.length ≤ 100 ∧ ∀ b ∈ bs, b.length ≤ 5000
def c_is_bank : Cp where
  ι := List Int
  pre b := b.length ≤ 5000
  args b := [.dat (nums b)]
  post b d := d = .bool (isBank b)
def c_check_cart (K : PySem.W.Frag) : Cp where
  ι := List (List Int) × Str
  pre i := Sz i.1
  args i := [.dat (cartD i.1 i.2)]
  post i d := d = .none ∧ faultOf i.1 i.2 = none
  exc i cls n := cls = He.ga K "BadCart" ∧ faultOf i.1 i.2 = some n
def c_cart_of (K : PySem.W.Frag) : Cp where
  ι := Str × List Int × List (List Int)
  pre i := Sz i.2.2 ∧ i.2.2.length ≤ 90 ∧ i.2.1.length ≤ 1000
  args i := [.dat (.str i.1), .dat (nums i.2.1), .dat (rows i.2.2)]
  post i d := coFault i.2.1 i.1 i.2.2 = none
  exc i cls n := cls = He.ga K "BadCart" ∧ coFault i.2.1 i.1 i.2.2 = some n
abbrev slotF (bs : List (List Int)) (kd : Str) (ch : Int) : List (Str × SV) := [("_banks", .dat (rows bs)), ("_kind", .dat (.str kd)), ("_chosen", .dat (.int ch))]
abbrev slotC (K : PySem.W.Frag) (bs : List (List Int)) (kd : Str) (ch : Int) : Cell := .ins (He.ga K "Slot") (slotF bs kd ch)
def c_SlotU_initU (K : PySem.W.Frag) : Ct where
  ι := Cs × SV × List (List Int) × Str
  pre i := Fz i.1 i.2.1 (cartD i.2.2.1 i.2.2.2) ∧ Sz i.2.2.1
  args i := [.ref i.1.length, i.2.1]
  cells i := i.1 ++ [some (.ins (He.ga K "Slot") [])]
  post i s C := s = .dat .none ∧ faultOf i.2.2.1 i.2.2.2 = none ∧ C = i.1 ++ [some (slotC K i.2.2.1 i.2.2.2 0)]
  exc i cls n := cls = He.ga K "BadCart" ∧ faultOf i.2.2.1 i.2.2.2 = some n
/-- a slot's state -/
structure St where
  bs : List (List Int)
  kd : Str
  ch : Int
abbrev St.cell (K : PySem.W.Frag) (t : St) : Cell := slotC K t.bs t.kd t.ch
structure St.Ok (t : St) : Prop where
  n1 : 1 ≤ t.bs.length
  n2 : t.bs.length ≤ 8
  len : ∀ b ∈ t.bs, b.length = 256
  c0 : 0 ≤ t.ch
  c1 : t.ch < t.bs.length
def lastB (bs : List (List Int)) : List Int := bs.getD (bs.length - 1) []
def readI (t : St) (ad : Int) : Int := (if ad / 256 = 128 then t.bs.getD t.ch.toNat [] else lastB t.bs).getD (ad % 256).toNat 0
def wroteB (kd : Str) (pg : Int) : Bool := decide (kd = ("switched" : Str)) && inV (.int pg) [.int 128, .int 129]
def wroteI (t : St) (ad byte : Int) : Int := if wroteB t.kd (ad / 256) then byte % t.bs.length else t.ch
def c_Slot_read (K : PySem.W.Frag) : Ct where
  ι := Cs × Nat × St × Int
  pre i := i.1[i.2.1]? = some (some (i.2.2.1.cell K)) ∧ i.2.2.1.Ok
  args i := [.ref i.2.1, .dat (.int i.2.2.2)]
  cells i := i.1
  post i s C := s = .dat (.int (readI i.2.2.1 i.2.2.2)) ∧ C = i.1
def c_Slot_write (K : PySem.W.Frag) : Ct where
  ι := Cs × Nat × St × Int × Int
  pre i := i.1[i.2.1]? = some (some (i.2.2.1.cell K)) ∧ i.2.2.1.Ok
  args i := [.ref i.2.1, .dat (.int i.2.2.2.1), .dat (.int i.2.2.2.2)]
  cells i := i.1
  post i s C := s = .dat .none ∧ C = i.1.set i.2.1 (some (slotC K i.2.2.1.bs i.2.2.1.kd (wroteI i.2.2.1 i.2.2.2.1 i.2.2.2.2)))
def c_Slot_chosen (K : PySem.W.Frag) : Ct where
  ι := Cs × Nat × St
  pre i := i.1[i.2.1]? = some (some (i.2.2.cell K))
  args i := [.ref i.2.1]
  cells i := i.1
  post i s C := s = .dat (.int i.2.2.ch) ∧ C = i.1
def c_Slot_choose (K : PySem.W.Frag) : Ct where
  ι := Cs × Nat × St × Int
  pre i := i.1[i.2.1]? = some (some (i.2.2.1.cell K))
  args i := [.ref i.2.1, .dat (.int i.2.2.2)]
  cells i := i.1
  post i s C := s = .dat .none ∧ C = i.1.set i.2.1 (some (slotC K i.2.2.1.bs i.2.2.1.kd i.2.2.2))
abbrev bankC (b : List Int) : Cell := .lst ((b.map PyData.int).map .dat)
/-- a cartridge of new lists -/
def cartC (cs : Cs) (bs : List (List Int)) (kd : Str) : Cs := (newC (cs ++ [some (.dct [])]) bs bankC).set cs.length (some (.dct [(.inr "banks", .ref (cs.length + 1)), (.inr "kind", .dat (.str kd))]))
def c_Slot_cart (K : PySem.W.Frag) : Ct where
  ι := Cs × Nat × St
  pre i := i.1[i.2.1]? = some (some (i.2.2.cell K)) ∧ Sz i.2.2.bs
  args i := [.ref i.2.1]
  cells i := i.1
  post i s C := s = .ref i.1.length ∧ C = cartC i.1 i.2.2.bs i.2.2.kd
inductive RefI where
  | cart (which : Int) (bs : List (List Int)) (kd : Str)
  | code (cd : List Int) (kd : Str) (more : List (List Int))
def c_l_law_refused : Cp where
  ι := RefI
  pre
    | .cart which bs _ => (which = 0 ∨ which = 1) ∧ Sz bs
    | .code cd _ more => Sz more ∧ more.length ≤ 90 ∧ cd.length ≤ 1000
  args
    | .cart which bs kd => [.dat (.int which), .dat (cartD bs kd), .dat (.str ""), .dat (.list [])]
    | .code cd kd more => [.dat (.int 2), .dat (nums cd), .dat (.str kd), .dat (rows more)]
  post
    | .cart _ bs kd, d => d = optI (faultOf bs kd)
    | .code cd kd more, d => d = optI (coFault cd kd more)
def c_l_law_bank : Cp where
  ι := List Int × Int
  pre i := Dr i.1 ∧ 0 ≤ i.2 ∧ i.2 < 1000000
  args i := [.dat (nums i.1), .dat (.int i.2)]
  post i d := d = nums (bankOf i.1 i.2)
def c_l_law_wrong : Cp where
  ι := List (List Int) × Str
  pre i := Sz i.1
  args i := [.dat (rows i.1), .dat (.str i.2)]
  post i d := d = optI (faultOf i.1 i.2)
def c_l_law_faults : Cp where
  ι := List Int × List (List Int) × Str
  pre i := Dr i.1 ∧ (2 ≤ i.2.1.length ∧ i.2.1.length ≤ 8) ∧ ∀ b ∈ i.2.1, b.length = 256
  args i := [.dat (nums i.1), .dat (rows i.2.1), .dat (.str i.2.2)]
  post i d := d = .bool true
def c_law : Cp where
  ι := List Int
  pre ns := ns.length ≤ 63
  args ns := [.scr ns]
  post _ d := d = .bool true
end K01

set_option Elab.async false
set_option linter.all false
set_option maxRecDepth 100000
set_option maxHeartbeats 1000000
namespace K01
open PySem PySem.Spec PyProof.Rows L2 Sy
abbrev N_is_bank : List Str := ["bank", "byte"]
def t_is_bank (K : PySem.W.Frag) (E : XK) : TS :=
  (tRet (tAndV (tOp (rEqQ K) (tCB (rLn K) (tCons (tVar 0) tNil)) (tC (.int 256))) (tCB (rAll K) (tCons (tLc (iList K (tVar 0)) (gName 1) tYes (tChain rLe rLt (tC (.int 0)) (tVar 1) (tC (.int 256))) [1]) tNil))))
theorem sc_is_bank : FnScope N_is_bank ["bank"] (defScope s_is_bank) := ⟨rfl, rfl, rfl, by decide +kernel, rfl, by decide +kernel, by decide +kernel⟩
theorem ok_is_bank {P : Program} {w : World} {K : PySem.W.Frag} {mg : Str → Option Value} {base : Heap} (T : Tx K mg) (F : ∃ fd, FunD K "is_bank" "is_bank" (defArgs s_is_bank) (defBody s_is_bank) (defScope s_is_bank) [] [] (He.fAd K ("is_bank", none)) fd) 
    (hp : ∀ vs H Q E, c_is_bank.sp K vs H Q E → t_is_bank K E { nx := fun _ H' => Q .non H', rt := Q } (L2.start N_is_bank vs) H) : Cl P w K mg base 1 (He.fAd K ("is_bank", none)) ["bank"] (c_is_bank.sp K) := by
  obtain ⟨fd, F⟩ := F
  refine ⟨fd, ?_, F.bindsN (ps := ["bank"]) (fun _ _ _ _ _ _ us hl => match us, hl with | [_], _ => rfl), F.kp⟩
  refine FunD.ok F sc_is_bank (fun vs H Q E h => Cp.len (c := c_is_bank) (n := 1) (fun i => by first | rfl | (cases i <;> rfl)) vs H Q E h) (fun cdv A outer s H vs Q E hr h => ⟨t_is_bank K E, ?_, hp vs H Q E h⟩)
  have hu := hr.units
  have hu1 := hu_of hr
  have hu2 := hu65 hr
  have sc := sc_is_bank
  exact (pss_one (ps_ret (pe_and (pe_cmpR (op_eqQ hu) (pe_callB cr_ln rfl T.f_len (by decide +kernel) (pa_cons (pv 0) pa_nil)) (pe_gi rfl T.i_BANK) (nomark _)) (pe_one (pe_callB (cr_all rfl) rfl T.f_all (by decide +kernel) (pa_cons (pe_lc (own := [("byte", 1)]) (by rfl) sc.nd (pi_list (pv 0)) (blkOk_by (N := N_is_bank) (sc := defScope s_is_bank) (by decide +kernel)) (fun _ _ _ _ _ => (pg_name (i := 1) sc.nd rfl (by first | exact Or.inl rfl | exact Or.inr rfl))) (fun _ _ _ _ _ => pts_nil) (fun _ _ _ _ _ => (pe_chain op_le op_lt pe_int (pv 1) (pe_gi rfl T.i_BANK)))) pa_nil))))))
abbrev N_check_cart : List Str := ["cart", "banks", "k", "bank"]
def t_check_cart (K : PySem.W.Frag) (E : XK) : TS :=
  (tSeq (tAsg (tDGet (tVar 0) (tC (.str "banks"))) (gName 1))
  (tSeq (tIfS (tOr (tNot (tTest (tChain rLe rLe (tC (.int 2)) (tCB (rLn K) (tCons (tVar 1) tNil)) (tC (.int 8))))) (tTest (tOp (rIn K true) (tDGet (tVar 0) (tC (.str "kind"))) (tC (.ref (He.ga K "KINDS"))))))
  (tRaise (He.ga K "BadCart") (spSup K (He.ga K "BoxError")) (tCons (tC (.int 0)) tNil) (fun cls d _ H => E cls d H))
  tNext)
  (tFor (iEnum K (tCons (tVar 1) tNil)) (gTup K 2 (gCons (gName 2) (gCons (gName 3) gNil)))
  (tIfS (tNot (tB (tCall (c_is_bank.sp K) [] E (tCons (tVar 3) tNil))))
  (tRaise (He.ga K "BadCart") (spSup K (He.ga K "BoxError")) (tCons (tOp (rPlus K) (tVar 2) (tC (.int 1))) tNil) (fun cls d _ H => E cls d H))
  tNext))))
theorem sc_check_cart : FnScope N_check_cart ["cart"] (defScope s_check_cart) := ⟨rfl, rfl, rfl, by decide +kernel, rfl, by decide +kernel, by decide +kernel⟩
theorem ok_check_cart {P : Program} {w : World} {K : PySem.W.Frag} {mg : Str → Option Value} {base : Heap} (T : Tx K mg) (F : ∃ fd, FunD K "check_cart" "check_cart" (defArgs s_check_cart) (defBody s_check_cart) (defScope s_check_cart) [] [] (He.fAd K ("check_cart", none)) fd) (h_is_bank : Cl P w K mg base 1 (He.fAd K ("is_bank", none)) ["bank"] (c_is_bank.sp K)) (hSup : SupH P w K mg base)
    (hp : ∀ vs H Q E, (c_check_cart K).sp K vs H Q E → t_check_cart K E { nx := fun _ H' => Q .non H', rt := Q } (L2.start N_check_cart vs) H) : Cl P w K mg base 5 (He.fAd K ("check_cart", none)) ["cart"] ((c_check_cart K).sp K) := by
  obtain ⟨fd, F⟩ := F
  refine ⟨fd, ?_, F.bindsN (ps := ["cart"]) (fun _ _ _ _ _ _ us hl => match us, hl with | [_], _ => rfl), F.kp⟩
  refine FunD.ok F sc_check_cart (fun vs H Q E h => Cp.len (c := (c_check_cart K)) (n := 1) (fun i => by first | rfl | (cases i <;> rfl)) vs H Q E h) (fun cdv A outer s H vs Q E hr h => ⟨t_check_cart K E, ?_, hp vs H Q E h⟩)
  have hu := hr.units
  have hu1 := hu_of hr
  have hu2 := hu65 hr
  have sc := sc_check_cart
  obtain ⟨fI, h_sup, h_supB⟩ := hSup
  exact (pss_cons (ps_set (i := 1) sc.nd rfl (by first | exact Or.inl rfl | exact Or.inr rfl) (pe_dget hu1 (pv 0) pe_str (fun _ _ => rfl)))
  (pss_cons (ps_if (PW.pt (pw_or (pt_not (pt_chain op_le op_le pe_int (pe_callB cr_ln rfl T.f_len (by decide +kernel) (pa_cons (pv 1) pa_nil)) (pe_gi rfl T.i_MOST_BANKS))) (pw_or1 (pt_cmpR op_notIn_seq (pe_dget hu1 (pv 0) pe_str (fun _ _ => rfl)) (pe_gr rfl T.g_KINDS) (by rfl)))))
  (pss_one (ps_raiseC rfl (takes_of rfl rfl rfl rfl) T.x_BadCart h_sup h_supB (hr.mono (by decide)) rfl T.g_BadCart passL (pa_cons pe_int pa_nil)))
  pss_nil)
  (pss_one (ps_for (by first | exact passes_of rfl | assumption) rfl (pi_enum rfl T.f_enumerate (pa_cons (pv 1) pa_nil)) (pg_tup rfl (pgs_cons (pg_name (i := 2) sc.nd rfl (by first | exact Or.inl rfl | exact Or.inr rfl)) (pgs_cons (pg_name (i := 3) sc.nd rfl (by first | exact Or.inl rfl | exact Or.inr rfl)) pgs_nil)))
  (pss_one (ps_if (pt_not (pt_val (pe_callC h_is_bank (hr.mono (by decide)) rfl T.g_is_bank (passE (takes_of rfl rfl rfl rfl) fun _ _ _ _ z => z) (pa_cons (pv 3) pa_nil)) (by intro _; rfl)))
  (pss_one (ps_raiseC rfl (takes_of rfl rfl rfl rfl) T.x_BadCart h_sup h_supB (hr.mono (by decide)) rfl T.g_BadCart passL (pa_cons (pe_op op_plus (pv 2) pe_int) pa_nil)))
  pss_nil))))))
abbrev N_cart_of : List Str := ["kind", "code", "more", "rest", "last", "cart", "bank"]
def t_cart_of (K : PySem.W.Frag) (E : XK) : TS :=
  (tSeq (tIfS (tTest (tOp rGt (tCB (rLn K) (tCons (tVar 1) tNil)) (tC (.int 250))))
  (tRaise (He.ga K "BadCart") (spSup K (He.ga K "BoxError")) (tCons (tC (.int 0)) tNil) (fun cls d _ H => E cls d H))
  tNext)
  (tSeq (tAsg (tOp rTimes (tLst (tCons (tC (.int 0)) tNil)) (tOp rSb (tC (.int 250)) (tCB (rLn K) (tCons (tVar 1) tNil)))) (gName 3))
  (tSeq (tAsg (tLst (StX.tStar K (tVar 1) (StX.tStar K (tVar 3) (tCons (tC (.int 0)) (tCons (tC (.int 129)) (tCons (tC (.int 0)) (tCons (tC (.int 0)) (tCons (tC (.int 0)) (tCons (tC (.int 129)) tNil))))))))) (gName 4))
  (tSeq (tAsg (tDisp [((tC (.str "banks")), (tLst (StX.tStar K (tLc (iList K (tVar 2)) (gName 6) tYes (tCB (rLo K) (tCons (tVar 6) tNil)) [6]) (tCons (tVar 4) tNil)))), ((tC (.str "kind")), (tVar 0))]) (gName 5))
  (tSeq (tDrop (tCall ((c_check_cart K).sp K) [] E (tCons (tVar 5) tNil)))
  (tRet (tVar 5)))))))
theorem sc_cart_of : FnScope N_cart_of ["kind", "code", "more"] (defScope s_cart_of) := ⟨rfl, rfl, rfl, by decide +kernel, rfl, by decide +kernel, by decide +kernel⟩
theorem ok_cart_of {P : Program} {w : World} {K : PySem.W.Frag} {mg : Str → Option Value} {base : Heap} (T : Tx K mg) (F : ∃ fd, FunD K "cart_of" "cart_of" (defArgs s_cart_of) (defBody s_cart_of) (defScope s_cart_of) [] [] (He.fAd K ("cart_of", none)) fd) (h_check_cart : Cl P w K mg base 5 (He.fAd K ("check_cart", none)) ["cart"] ((c_check_cart K).sp K)) (hSup : SupH P w K mg base)
    (hp : ∀ vs H Q E, (c_cart_of K).sp K vs H Q E → t_cart_of K E { nx := fun _ H' => Q .non H', rt := Q } (L2.start N_cart_of vs) H) : Cl P w K mg base 6 (He.fAd K ("cart_of", none)) ["kind", "code", "more"] ((c_cart_of K).sp K) := by
  obtain ⟨fd, F⟩ := F
  refine ⟨fd, ?_, F.bindsN (ps := ["kind", "code", "more"]) (fun _ _ _ _ _ _ us hl => match us, hl with | [_, _, _], _ => rfl), F.kp⟩
  refine FunD.ok F sc_cart_of (fun vs H Q E h => Cp.len (c := (c_cart_of K)) (n := 3) (fun i => by first | rfl | (cases i <;> rfl)) vs H Q E h) (fun cdv A outer s H vs Q E hr h => ⟨t_cart_of K E, ?_, hp vs H Q E h⟩)
  have hu := hr.units
  have hu1 := hu_of hr
  have hu2 := hu65 hr
  have sc := sc_cart_of
  obtain ⟨fI, h_sup, h_supB⟩ := hSup
  exact (pss_cons (ps_if (pt_cmpR op_gt (pe_callB cr_ln rfl T.f_len (by decide +kernel) (pa_cons (pv 1) pa_nil)) (pe_gi rfl T.i_MOST_CODE) (nomark _))
  (pss_one (ps_raiseC rfl (takes_of rfl rfl rfl rfl) T.x_BadCart h_sup h_supB (hr.mono (by decide)) rfl T.g_BadCart passL (pa_cons pe_int pa_nil)))
  pss_nil)
  (pss_cons (ps_set (i := 3) sc.nd rfl (by first | exact Or.inl rfl | exact Or.inr rfl) (pe_op op_times (pe_lst (pa_cons pe_int pa_nil)) (pe_op op_sub (pe_gi rfl T.i_MOST_CODE) (pe_callB cr_ln rfl T.f_len (by decide +kernel) (pa_cons (pv 1) pa_nil)))))
  (pss_cons (ps_set (i := 4) sc.nd rfl (by first | exact Or.inl rfl | exact Or.inr rfl) (pe_lst (StX.pa_star (pv 1) (StX.pa_star (pv 3) (pa_cons (pe_gi rfl T.i_LOW) (pa_cons (pe_gi rfl T.i_HIGH) (pa_cons pe_int (pa_cons pe_int (pa_cons (pe_gi rfl T.i_LOW) (pa_cons (pe_gi rfl T.i_HIGH) pa_nil))))))))))
  (pss_cons (ps_set (i := 5) sc.nd rfl (by first | exact Or.inl rfl | exact Or.inr rfl) (pe_disp (pps_cons pe_str (pe_lst (StX.pa_star (pe_lc (own := [("bank", 6)]) (by rfl) sc.nd (pi_list (pv 2)) (blkOk_by (N := N_cart_of) (sc := defScope s_cart_of) (by decide +kernel)) (fun _ _ _ _ _ => (pg_name (i := 6) sc.nd rfl (by first | exact Or.inl rfl | exact Or.inr rfl))) (fun _ _ _ _ _ => pts_nil) (fun _ _ _ _ _ => (pe_callTy cr_lo rfl T.f_list (by decide +kernel) (pa_cons (pv 6) pa_nil)))) (pa_cons (pv 4) pa_nil))) (pps_cons pe_str (pv 0) pps_nil)) (by rfl) (by rfl) (fun z => by cases z) (by decide)))
  (pss_cons (ps_expr (pe_callC h_check_cart (hr.mono (by decide)) rfl T.g_check_cart (passE (takes_of rfl rfl rfl rfl) fun _ _ _ _ z => z) (pa_cons (pv 5) pa_nil)))
  (pss_one (ps_ret (pv 5))))))))
abbrev N_SlotU_initU : List Str := ["self", "cart", "bank"]
def t_SlotU_initU (K : PySem.W.Frag) (E : XK) : TS :=
  (tSeq (tDrop (tCall ((c_check_cart K).sp K) [] E (tCons (tVar 1) tNil)))
  (tSeq (sFld K (tVar 0) (tLc (iList K (tDGet (tVar 1) (tC (.str "banks")))) (gName 2) tYes (tCB (rLo K) (tCons (tVar 2) tNil)) [2]) "_banks")
  (tSeq (sFld K (tVar 0) (tDGet (tVar 1) (tC (.str "kind"))) "_kind")
  (sFld K (tVar 0) (tC (.int 0)) "_chosen"))))
theorem sc_SlotU_initU : FnScope N_SlotU_initU ["self", "cart"] (defScope s_SlotU_initU) := ⟨rfl, rfl, rfl, by decide +kernel, rfl, by decide +kernel, by decide +kernel⟩
theorem ok_SlotU_initU {P : Program} {w : World} {K : PySem.W.Frag} {mg : Str → Option Value} {base : Heap} (T : Tx K mg) (F : ∃ fd, FunD K "__init__" "Slot.__init__" (defArgs s_SlotU_initU) (defBody s_SlotU_initU) (defScope s_SlotU_initU) [] [] (He.fAd K ("Slot", some "__init__")) fd) (h_check_cart : Cl P w K mg base 5 (He.fAd K ("check_cart", none)) ["cart"] ((c_check_cart K).sp K))
    (hp : ∀ vs H Q E, (c_SlotU_initU K).sp K vs H Q E → t_SlotU_initU K E { nx := fun _ H' => Q .non H', rt := Q } (L2.start N_SlotU_initU vs) H) : Cl P w K mg base 6 (He.fAd K ("Slot", some "__init__")) ["self", "cart"] ((c_SlotU_initU K).sp K) := by
  obtain ⟨fd, F⟩ := F
  refine ⟨fd, ?_, F.bindsN (ps := ["self", "cart"]) (fun _ _ _ _ _ _ us hl => match us, hl with | [_, _], _ => rfl), F.kp⟩
  refine FunD.ok F sc_SlotU_initU (fun vs H Q E h => Ct.len (c := (c_SlotU_initU K)) (n := 2) (fun i => by first | rfl | (cases i <;> rfl)) vs H Q E h) (fun cdv A outer s H vs Q E hr h => ⟨t_SlotU_initU K E, ?_, hp vs H Q E h⟩)
  have hu := hr.units
  have hu1 := hu_of hr
  have hu2 := hu65 hr
  have sc := sc_SlotU_initU
  exact (pss_cons (ps_expr (pe_callC h_check_cart (hr.mono (by decide)) rfl T.g_check_cart (passE (takes_of rfl rfl rfl rfl) fun _ _ _ _ z => z) (pa_cons (pv 1) pa_nil)))
  (pss_cons (ps_fld (pv 0) (pe_lc (own := [("bank", 2)]) (by rfl) sc.nd (pi_list (pe_dget hu1 (pv 1) pe_str (fun _ _ => rfl))) (blkOk_by (N := N_SlotU_initU) (sc := defScope s_SlotU_initU) (by decide +kernel)) (fun _ _ _ _ _ => (pg_name (i := 2) sc.nd rfl (by first | exact Or.inl rfl | exact Or.inr rfl))) (fun _ _ _ _ _ => pts_nil) (fun _ _ _ _ _ => (pe_callTy cr_lo rfl T.f_list (by decide +kernel) (pa_cons (pv 2) pa_nil)))) (by rfl))
  (pss_cons (ps_fld (pv 0) (pe_dget hu1 (pv 1) pe_str (fun _ _ => rfl)) (by rfl))
  (pss_one (ps_fld (pv 0) pe_int (by rfl))))))
abbrev N_Slot_read : List Str := ["self", "address", "bank"]
def t_Slot_read (K : PySem.W.Frag) (E : XK) : TS :=
  (tSeq (tAsg (tIf (tTest (tOp (rEqQ K) (tOp rDv (tVar 1) (tC (.int 256))) (tC (.int 128)))) (tOp (rIx K) (tFld K (tVar 0) "_banks") (tFld K (tVar 0) "_chosen")) (tOp (rIx K) (tFld K (tVar 0) "_banks") (tUn rNg (tC (.int 1))))) (gName 2))
  (tRet (tOp (rIx K) (tVar 2) (tOp rMd (tVar 1) (tC (.int 256))))))
theorem sc_Slot_read : FnScope N_Slot_read ["self", "address"] (defScope s_Slot_read) := ⟨rfl, rfl, rfl, by decide +kernel, rfl, by decide +kernel, by decide +kernel⟩
theorem ok_Slot_read {P : Program} {w : World} {K : PySem.W.Frag} {mg : Str → Option Value} {base : Heap} (T : Tx K mg) (F : ∃ fd, FunD K "read" "Slot.read" (defArgs s_Slot_read) (defBody s_Slot_read) (defScope s_Slot_read) [] [] (He.fAd K ("Slot", some "read")) fd) 
    (hp : ∀ vs H Q E, (c_Slot_read K).sp K vs H Q E → t_Slot_read K E { nx := fun _ H' => Q .non H', rt := Q } (L2.start N_Slot_read vs) H) : Cl P w K mg base 1 (He.fAd K ("Slot", some "read")) ["self", "address"] ((c_Slot_read K).sp K) := by
  obtain ⟨fd, F⟩ := F
  refine ⟨fd, ?_, F.bindsN (ps := ["self", "address"]) (fun _ _ _ _ _ _ us hl => match us, hl with | [_, _], _ => rfl), F.kp⟩
  refine FunD.ok F sc_Slot_read (fun vs H Q E h => Ct.len (c := (c_Slot_read K)) (n := 2) (fun i => by first | rfl | (cases i <;> rfl)) vs H Q E h) (fun cdv A outer s H vs Q E hr h => ⟨t_Slot_read K E, ?_, hp vs H Q E h⟩)
  have hu := hr.units
  have hu1 := hu_of hr
  have hu2 := hu65 hr
  have sc := sc_Slot_read
  exact (pss_cons (ps_set (i := 2) sc.nd rfl (by first | exact Or.inl rfl | exact Or.inr rfl) (pe_ifExp (pt_cmpR (op_eqQ hu) (pe_op op_fdiv (pv 1) (pe_gi rfl T.i_BANK)) (pe_gi rfl T.i_BANK_PAGE) (nomark _)) (pe_ix ix_seq (pe_fld (pv 0) rfl) (pe_fld (pv 0) rfl) (fun _ _ => rfl)) (pe_ix ix_seq (pe_fld (pv 0) rfl) (pe_un un_ng pe_int) (fun _ _ => rfl))))
  (pss_one (ps_ret (pe_ix ix_seq (pv 2) (pe_op op_mod (pv 1) (pe_gi rfl T.i_BANK)) (fun _ _ => rfl)))))
abbrev N_Slot_write : List Str := ["self", "address", "byte"]
def t_Slot_write (K : PySem.W.Frag) (E : XK) : TS :=
  (tIfS (tAnd (tTest (tOp (rEqQ K) (tFld K (tVar 0) "_kind") (tC (.str "switched")))) (tTest (tOp (rIn K false) (tOp rDv (tVar 1) (tC (.int 256))) (tTup (tCons (tC (.int 128)) (tCons (tC (.int 129)) tNil))))))
  (sFld K (tVar 0) (tOp rMd (tVar 2) (tCB (rLn K) (tCons (tFld K (tVar 0) "_banks") tNil))) "_chosen")
  tNext)
theorem sc_Slot_write : FnScope N_Slot_write ["self", "address", "byte"] (defScope s_Slot_write) := ⟨rfl, rfl, rfl, by decide +kernel, rfl, by decide +kernel, by decide +kernel⟩
theorem ok_Slot_write {P : Program} {w : World} {K : PySem.W.Frag} {mg : Str → Option Value} {base : Heap} (T : Tx K mg) (F : ∃ fd, FunD K "write" "Slot.write" (defArgs s_Slot_write) (defBody s_Slot_write) (defScope s_Slot_write) [] [] (He.fAd K ("Slot", some "write")) fd) 
    (hp : ∀ vs H Q E, (c_Slot_write K).sp K vs H Q E → t_Slot_write K E { nx := fun _ H' => Q .non H', rt := Q } (L2.start N_Slot_write vs) H) : Cl P w K mg base 1 (He.fAd K ("Slot", some "write")) ["self", "address", "byte"] ((c_Slot_write K).sp K) := by
  obtain ⟨fd, F⟩ := F
  refine ⟨fd, ?_, F.bindsN (ps := ["self", "address", "byte"]) (fun _ _ _ _ _ _ us hl => match us, hl with | [_, _, _], _ => rfl), F.kp⟩
  refine FunD.ok F sc_Slot_write (fun vs H Q E h => Ct.len (c := (c_Slot_write K)) (n := 3) (fun i => by first | rfl | (cases i <;> rfl)) vs H Q E h) (fun cdv A outer s H vs Q E hr h => ⟨t_Slot_write K E, ?_, hp vs H Q E h⟩)
  have hu := hr.units
  have hu1 := hu_of hr
  have hu2 := hu65 hr
  have sc := sc_Slot_write
  exact (pss_one (ps_if (PW.pt (pw_and (pt_cmpR (op_eqQ hu) (pe_fld (pv 0) rfl) pe_str (nomark _)) (pw_and1 (pt_cmpR op_in_seq (pe_op op_fdiv (pv 1) (pe_gi rfl T.i_BANK)) (pe_tup (pa_cons (pe_gi rfl T.i_BANK_PAGE) (pa_cons (pe_gi rfl T.i_LAST_PAGE) pa_nil))) (by rfl)))))
  (pss_one (ps_fld (pv 0) (pe_op op_mod (pv 2) (pe_callB cr_ln rfl T.f_len (by decide +kernel) (pa_cons (pe_fld (pv 0) rfl) pa_nil))) (by rfl)))
  pss_nil))
abbrev N_Slot_chosen : List Str := ["self"]
def t_Slot_chosen (K : PySem.W.Frag) (E : XK) : TS :=
  (tRet (tFld K (tVar 0) "_chosen"))
theorem sc_Slot_chosen : FnScope N_Slot_chosen ["self"] (defScope s_Slot_chosen) := ⟨rfl, rfl, rfl, by decide +kernel, rfl, by decide +kernel, by decide +kernel⟩
theorem ok_Slot_chosen {P : Program} {w : World} {K : PySem.W.Frag} {mg : Str → Option Value} {base : Heap} (T : Tx K mg) (F : ∃ fd, FunD K "chosen" "Slot.chosen" (defArgs s_Slot_chosen) (defBody s_Slot_chosen) (defScope s_Slot_chosen) [] [] (He.fAd K ("Slot", some "chosen")) fd) 
    (hp : ∀ vs H Q E, (c_Slot_chosen K).sp K vs H Q E → t_Slot_chosen K E { nx := fun _ H' => Q .non H', rt := Q } (L2.start N_Slot_chosen vs) H) : Cl P w K mg base 1 (He.fAd K ("Slot", some "chosen")) ["self"] ((c_Slot_chosen K).sp K) := by
  obtain ⟨fd, F⟩ := F
  refine ⟨fd, ?_, F.bindsN (ps := ["self"]) (fun _ _ _ _ _ _ us hl => match us, hl with | [_], _ => rfl), F.kp⟩
  refine FunD.ok F sc_Slot_chosen (fun vs H Q E h => Ct.len (c := (c_Slot_chosen K)) (n := 1) (fun i => by first | rfl | (cases i <;> rfl)) vs H Q E h) (fun cdv A outer s H vs Q E hr h => ⟨t_Slot_chosen K E, ?_, hp vs H Q E h⟩)
  have hu := hr.units
  have hu1 := hu_of hr
  have hu2 := hu65 hr
  have sc := sc_Slot_chosen
  exact (pss_one (ps_ret (pe_fld (pv 0) rfl)))
abbrev N_Slot_choose : List Str := ["self", "number"]
def t_Slot_choose (K : PySem.W.Frag) (E : XK) : TS :=
  (sFld K (tVar 0) (tVar 1) "_chosen")
theorem sc_Slot_choose : FnScope N_Slot_choose ["self", "number"] (defScope s_Slot_choose) := ⟨rfl, rfl, rfl, by decide +kernel, rfl, by decide +kernel, by decide +kernel⟩
theorem ok_Slot_choose {P : Program} {w : World} {K : PySem.W.Frag} {mg : Str → Option Value} {base : Heap} (T : Tx K mg) (F : ∃ fd, FunD K "choose" "Slot.choose" (defArgs s_Slot_choose) (defBody s_Slot_choose) (defScope s_Slot_choose) [] [] (He.fAd K ("Slot", some "choose")) fd) 
    (hp : ∀ vs H Q E, (c_Slot_choose K).sp K vs H Q E → t_Slot_choose K E { nx := fun _ H' => Q .non H', rt := Q } (L2.start N_Slot_choose vs) H) : Cl P w K mg base 1 (He.fAd K ("Slot", some "choose")) ["self", "number"] ((c_Slot_choose K).sp K) := by
  obtain ⟨fd, F⟩ := F
  refine ⟨fd, ?_, F.bindsN (ps := ["self", "number"]) (fun _ _ _ _ _ _ us hl => match us, hl with | [_, _], _ => rfl), F.kp⟩
  refine FunD.ok F sc_Slot_choose (fun vs H Q E h => Ct.len (c := (c_Slot_choose K)) (n := 2) (fun i => by first | rfl | (cases i <;> rfl)) vs H Q E h) (fun cdv A outer s H vs Q E hr h => ⟨t_Slot_choose K E, ?_, hp vs H Q E h⟩)
  have hu := hr.units
  have hu1 := hu_of hr
  have hu2 := hu65 hr
  have sc := sc_Slot_choose
  exact (pss_one (ps_fld (pv 0) (pv 1) (by rfl)))
abbrev N_Slot_cart : List Str := ["self", "bank"]
def t_Slot_cart (K : PySem.W.Frag) (E : XK) : TS :=
  (tRet (tDisp [((tC (.str "banks")), (tLc (iList K (tFld K (tVar 0) "_banks")) (gName 1) tYes (tCB (rLo K) (tCons (tVar 1) tNil)) [1])), ((tC (.str "kind")), (tFld K (tVar 0) "_kind"))]))
theorem sc_Slot_cart : FnScope N_Slot_cart ["self"] (defScope s_Slot_cart) := ⟨rfl, rfl, rfl, by decide +kernel, rfl, by decide +kernel, by decide +kernel⟩
theorem ok_Slot_cart {P : Program} {w : World} {K : PySem.W.Frag} {mg : Str → Option Value} {base : Heap} (T : Tx K mg) (F : ∃ fd, FunD K "cart" "Slot.cart" (defArgs s_Slot_cart) (defBody s_Slot_cart) (defScope s_Slot_cart) [] [] (He.fAd K ("Slot", some "cart")) fd) 
    (hp : ∀ vs H Q E, (c_Slot_cart K).sp K vs H Q E → t_Slot_cart K E { nx := fun _ H' => Q .non H', rt := Q } (L2.start N_Slot_cart vs) H) : Cl P w K mg base 1 (He.fAd K ("Slot", some "cart")) ["self"] ((c_Slot_cart K).sp K) := by
  obtain ⟨fd, F⟩ := F
  refine ⟨fd, ?_, F.bindsN (ps := ["self"]) (fun _ _ _ _ _ _ us hl => match us, hl with | [_], _ => rfl), F.kp⟩
  refine FunD.ok F sc_Slot_cart (fun vs H Q E h => Ct.len (c := (c_Slot_cart K)) (n := 1) (fun i => by first | rfl | (cases i <;> rfl)) vs H Q E h) (fun cdv A outer s H vs Q E hr h => ⟨t_Slot_cart K E, ?_, hp vs H Q E h⟩)
  have hu := hr.units
  have hu1 := hu_of hr
  have hu2 := hu65 hr
  have sc := sc_Slot_cart
  exact (pss_one (ps_ret (pe_disp (pps_cons pe_str (pe_lc (own := [("bank", 1)]) (by rfl) sc.nd (pi_list (pe_fld (pv 0) rfl)) (blkOk_by (N := N_Slot_cart) (sc := defScope s_Slot_cart) (by decide +kernel)) (fun _ _ _ _ _ => (pg_name (i := 1) sc.nd rfl (by first | exact Or.inl rfl | exact Or.inr rfl))) (fun _ _ _ _ _ => pts_nil) (fun _ _ _ _ _ => (pe_callTy cr_lo rfl T.f_list (by decide +kernel) (pa_cons (pv 1) pa_nil)))) (pps_cons pe_str (pe_fld (pv 0) rfl) pps_nil)) (by rfl) (by rfl) (fun z => by cases z) (by decide))))
abbrev N_l_law_draws : List Str := ["script", "draws", "k", "rest", "turn", "stirred"]
def t_l_law_draws (K : PySem.W.Frag) (E : XK) : TS :=
  (tSeq (tAsg (tLst tNil) (gName 1))
  (tSeq (tFor (iRng1 (tCons (tCB rMn2 (tCons (tC (.int 63)) (tCons (tCB (rLn K) (tCons (tVar 0) tNil)) tNil))) tNil)) (gName 2)
  (tSeq (tAsg (tCB rAb (tCons (tOp (rIx K) (tVar 0) (tVar 2)) tNil)) (gName 3))
  (tIfS (tTest (tOp rGe (tVar 3) (tOp rPw (tC (.int 10)) (tC (.int 18)))))
  (tFor (iRng1 (tCons (tC (.int 60)) tNil)) (gName 4)
  (tIfS (tTest (tOp rGt (tVar 3) (tC (.int 0))))
  (tSeq (tDrop (tBM K "list" rAppend (tVar 1) (tCons (tOp rMd (tCB rIn1 (tCons (tVar 3) tNil)) (tC (.int 65536))) tNil)))
  (tAsg (tOp rDv (tVar 3) (tC (.int 65536))) (gName 3)))
  tNext))
  (tSeq (tAsg (tOp rMd (tCB rIn1 (tCons (tOp (rPlus K) (tOp rTimes (tVar 3) (tC (.int 48271))) (tOp rTimes (tOp (rPlus K) (tVar 2) (tC (.int 1))) (tC (.int 69621)))) tNil)) (tC (.int 2147483647))) (gName 5))
  (tSeq (tAsg (tOp rMd (tCB rIn1 (tCons (tOp (rPlus K) (tOp (rPlus K) (tOp rTimes (tVar 5) (tC (.int 16807))) (tOp rTimes (tC (.int 11)) (tVar 2))) (tC (.int 5))) tNil)) (tC (.int 2147483629))) (gName 5))
  (tSeq (tDrop (tBM K "list" rAppend (tVar 1) (tCons (tOp rMd (tCB rIn1 (tCons (tVar 5) tNil)) (tC (.int 65536))) tNil)))
  (tDrop (tBM K "list" rAppend (tVar 1) (tCons (tOp rMd (tCB rIn1 (tCons (tOp rDv (tVar 5) (tC (.int 65536))) tNil)) (tC (.int 32768))) tNil)))))))))
  (tRet (tVar 1))))
theorem sc_l_law_draws : FnScope N_l_law_draws ["script"] (defScope s_l_law_draws) := ⟨rfl, rfl, rfl, by decide +kernel, rfl, by decide +kernel, by decide +kernel⟩
theorem ok_l_law_draws {P : Program} {w : World} {K : PySem.W.Frag} {mg : Str → Option Value} {base : Heap} (T : Tx K mg) (F : ∃ fd, FunD K "_law_draws" "_law_draws" (defArgs s_l_law_draws) (defBody s_l_law_draws) (defScope s_l_law_draws) [] [] (He.fAd K ("_law_draws", none)) fd) 
    (hp : ∀ vs H Q E, c_l_law_draws.sp K vs H Q E → t_l_law_draws K E { nx := fun _ H' => Q .non H', rt := Q } (L2.start N_l_law_draws vs) H) : Cl P w K mg base 1 (He.fAd K ("_law_draws", none)) ["script"] (c_l_law_draws.sp K) := by
  obtain ⟨fd, F⟩ := F
  refine ⟨fd, ?_, F.bindsN (ps := ["script"]) (fun _ _ _ _ _ _ us hl => match us, hl with | [_], _ => rfl), F.kp⟩
  refine FunD.ok F sc_l_law_draws (fun vs H Q E h => Cp.len (c := c_l_law_draws) (n := 1) (fun i => by first | rfl | (cases i <;> rfl)) vs H Q E h) (fun cdv A outer s H vs Q E hr h => ⟨t_l_law_draws K E, ?_, hp vs H Q E h⟩)
  have hu := hr.units
  have hu1 := hu_of hr
  have hu2 := hu65 hr
  have sc := sc_l_law_draws
  exact (pss_cons (ps_set (i := 1) sc.nd rfl (by first | exact Or.inl rfl | exact Or.inr rfl) (pe_lst pa_nil))
  (pss_cons (ps_for (by first | exact passes_of rfl | assumption) rfl (pi_range1 rfl T.f_range (pa_cons (pe_callB (cr_mn2 rfl) rfl T.f_min (by decide +kernel) (pa_cons pe_int (pa_cons (pe_callB cr_ln rfl T.f_len (by decide +kernel) (pa_cons (pv 0) pa_nil)) pa_nil))) pa_nil)) (pg_name (i := 2) sc.nd rfl (by first | exact Or.inl rfl | exact Or.inr rfl))
  (pss_cons (ps_set (i := 3) sc.nd rfl (by first | exact Or.inl rfl | exact Or.inr rfl) (pe_callB cr_ab rfl T.f_abs (by decide +kernel) (pa_cons (pe_ix ix_seq (pv 0) (pv 2) (fun _ _ => rfl)) pa_nil)))
  (pss_one (ps_if (pt_cmpR op_ge (pv 3) (pe_op op_pow pe_int pe_int) (nomark _))
  (pss_one (ps_for (by first | exact passes_of rfl | assumption) rfl (pi_range1 rfl T.f_range (pa_cons pe_int pa_nil)) (pg_name (i := 4) sc.nd rfl (by first | exact Or.inl rfl | exact Or.inr rfl))
  (pss_one (ps_if (pt_cmpR op_gt (pv 3) pe_int (nomark _))
  (pss_cons (ps_expr (pe_bm PySem.F.plainAttrs_list PySem.F.slot_list_append PySem.F.type_list_append mt_append (pv 1) (pa_cons (pe_op op_mod (pe_callTy cr_in1 rfl T.f_int (by decide +kernel) (pa_cons (pv 3) pa_nil)) pe_int) pa_nil)))
  (pss_one (ps_set (i := 3) sc.nd rfl (by first | exact Or.inl rfl | exact Or.inr rfl) (pe_op op_fdiv (pv 3) pe_int))))
  pss_nil))))
  (pss_cons (ps_set (i := 5) sc.nd rfl (by first | exact Or.inl rfl | exact Or.inr rfl) (pe_op op_mod (pe_callTy cr_in1 rfl T.f_int (by decide +kernel) (pa_cons (pe_op op_plus (pe_op op_times (pv 3) pe_int) (pe_op op_times (pe_op op_plus (pv 2) pe_int) pe_int)) pa_nil)) pe_int))
  (pss_cons (ps_set (i := 5) sc.nd rfl (by first | exact Or.inl rfl | exact Or.inr rfl) (pe_op op_mod (pe_callTy cr_in1 rfl T.f_int (by decide +kernel) (pa_cons (pe_op op_plus (pe_op op_plus (pe_op op_times (pv 5) pe_int) (pe_op op_times pe_int (pv 2))) pe_int) pa_nil)) pe_int))
  (pss_cons (ps_expr (pe_bm PySem.F.plainAttrs_list PySem.F.slot_list_append PySem.F.type_list_append mt_append (pv 1) (pa_cons (pe_op op_mod (pe_callTy cr_in1 rfl T.f_int (by decide +kernel) (pa_cons (pv 5) pa_nil)) pe_int) pa_nil)))
  (pss_one (ps_expr (pe_bm PySem.F.plainAttrs_list PySem.F.slot_list_append PySem.F.type_list_append mt_append (pv 1) (pa_cons (pe_op op_mod (pe_callTy cr_in1 rfl T.f_int (by decide +kernel) (pa_cons (pe_op op_fdiv (pv 5) pe_int) pa_nil)) pe_int) pa_nil)))))))))))
  (pss_one (ps_ret (pv 1)))))
abbrev N_l_law_mix : List Str := ["draws", "k", "many", "cell"]
def t_l_law_mix (K : PySem.W.Frag) (E : XK) : TS :=
  (tSeq (tAsg (tC (.int 0)) (gName 3))
  (tSeq (tIfS (tTest (tOp rGt (tCB (rLn K) (tCons (tVar 0) tNil)) (tC (.int 0))))
  (tAsg (tOp (rIx K) (tVar 0) (tOp rMd (tCB rIn1 (tCons (tVar 1) tNil)) (tCB (rLn K) (tCons (tVar 0) tNil)))) (gName 3))
  tNext)
  (tSeq (tIfS (tTest (tOp rLt (tVar 1) (tCB (rLn K) (tCons (tVar 0) tNil))))
  (tRet (tOp rMd (tCB rIn1 (tCons (tVar 3) tNil)) (tVar 2)))
  tNext)
  (tRet (tOp rMd (tCB rIn1 (tCons (tOp rDv (tCB rIn1 (tCons (tOp (rPlus K) (tOp rTimes (tVar 3) (tC (.int 7919))) (tOp rTimes (tVar 1) (tC (.int 104729)))) tNil)) (tC (.int 3))) tNil)) (tVar 2))))))
theorem sc_l_law_mix : FnScope N_l_law_mix ["draws", "k", "many"] (defScope s_l_law_mix) := ⟨rfl, rfl, rfl, by decide +kernel, rfl, by decide +kernel, by decide +kernel⟩
theorem ok_l_law_mix {P : Program} {w : World} {K : PySem.W.Frag} {mg : Str → Option Value} {base : Heap} (T : Tx K mg) (F : ∃ fd, FunD K "_law_mix" "_law_mix" (defArgs s_l_law_mix) (defBody s_l_law_mix) (defScope s_l_law_mix) [] [] (He.fAd K ("_law_mix", none)) fd) 
    (hp : ∀ vs H Q E, c_l_law_mix.sp K vs H Q E → t_l_law_mix K E { nx := fun _ H' => Q .non H', rt := Q } (L2.start N_l_law_mix vs) H) : Cl P w K mg base 1 (He.fAd K ("_law_mix", none)) ["draws", "k", "many"] (c_l_law_mix.sp K) := by
  obtain ⟨fd, F⟩ := F
  refine ⟨fd, ?_, F.bindsN (ps := ["draws", "k", "many"]) (fun _ _ _ _ _ _ us hl => match us, hl with | [_, _, _], _ => rfl), F.kp⟩
  refine FunD.ok F sc_l_law_mix (fun vs H Q E h => Cp.len (c := c_l_law_mix) (n := 3) (fun i => by first | rfl | (cases i <;> rfl)) vs H Q E h) (fun cdv A outer s H vs Q E hr h => ⟨t_l_law_mix K E, ?_, hp vs H Q E h⟩)
  have hu := hr.units
  have hu1 := hu_of hr
  have hu2 := hu65 hr
  have sc := sc_l_law_mix
  exact (pss_cons (ps_set (i := 3) sc.nd rfl (by first | exact Or.inl rfl | exact Or.inr rfl) pe_int)
  (pss_cons (ps_if (pt_cmpR op_gt (pe_callB cr_ln rfl T.f_len (by decide +kernel) (pa_cons (pv 0) pa_nil)) pe_int (nomark _))
  (pss_one (ps_set (i := 3) sc.nd rfl (by first | exact Or.inl rfl | exact Or.inr rfl) (pe_ix ix_seq (pv 0) (pe_op op_mod (pe_callTy cr_in1 rfl T.f_int (by decide +kernel) (pa_cons (pv 1) pa_nil)) (pe_callB cr_ln rfl T.f_len (by decide +kernel) (pa_cons (pv 0) pa_nil))) (fun _ _ => rfl))))
  pss_nil)
  (pss_cons (ps_if (pt_cmpR op_lt (pv 1) (pe_callB cr_ln rfl T.f_len (by decide +kernel) (pa_cons (pv 0) pa_nil)) (nomark _))
  (pss_one (ps_ret (pe_op op_mod (pe_callTy cr_in1 rfl T.f_int (by decide +kernel) (pa_cons (pv 3) pa_nil)) (pv 2))))
  pss_nil)
  (pss_one (ps_ret (pe_op op_mod (pe_callTy cr_in1 rfl T.f_int (by decide +kernel) (pa_cons (pe_op op_fdiv (pe_callTy cr_in1 rfl T.f_int (by decide +kernel) (pa_cons (pe_op op_plus (pe_op op_times (pv 3) pe_int) (pe_op op_times (pv 1) pe_int)) pa_nil)) pe_int) pa_nil)) (pv 2)))))))
abbrev N_l_law_refused : List Str := ["which", "told", "kind", "more", "e"]
def tb_l_law_refused (K : PySem.W.Frag) (W : WX) : TS :=
  (tIfS (tTest (tOp (rEqQ K) (tVar 0) (tC (.int 0))))
  (tDrop (tCall ((c_check_cart K).sp K) [] (XA 5 W) (tCons (tVar 1) tNil)))
  (tIfS (tTest (tOp (rEqQ K) (tVar 0) (tC (.int 1))))
  (tDrop (tMake (He.ga K "Slot") ((c_SlotU_initU K).sp K) [] (XA 5 W) (tCons (tVar 1) tNil)))
  (tDrop (tCall ((c_cart_of K).sp K) [] (XA 5 W) (tCons (tVar 2) (tCons (tVar 1) (tCons (tVar 3) tNil)))))))
def t_l_law_refused (K : PySem.W.Frag) (E : XK) : TS :=
  (tSeq (fun D σ H => tb_l_law_refused K (wAsMany K (fun cls d _ H => E cls d H) D [clA (He.ga K "BadCart") 4]) D σ H)
  (tRet (tC .non)))
theorem sc_l_law_refused : FnScope N_l_law_refused ["which", "told", "kind", "more"] (defScope s_l_law_refused) := ⟨rfl, rfl, rfl, by decide +kernel, rfl, by decide +kernel, by decide +kernel⟩
theorem ok_l_law_refused {P : Program} {w : World} {K : PySem.W.Frag} {mg : Str → Option Value} {base : Heap} (T : Tx K mg) (F : ∃ fd, FunD K "_law_refused" "_law_refused" (defArgs s_l_law_refused) (defBody s_l_law_refused) (defScope s_l_law_refused) [] [] (He.fAd K ("_law_refused", none)) fd) (h_check_cart : Cl P w K mg base 5 (He.fAd K ("check_cart", none)) ["cart"] ((c_check_cart K).sp K)) (h_SlotU_initU : Cl P w K mg base 6 (He.fAd K ("Slot", some "__init__")) ["self", "cart"] ((c_SlotU_initU K).sp K)) (h_cart_of : Cl P w K mg base 6 (He.fAd K ("cart_of", none)) ["kind", "code", "more"] ((c_cart_of K).sp K))
    (hp : ∀ vs H Q E, c_l_law_refused.sp K vs H Q E → t_l_law_refused K E { nx := fun _ H' => Q .non H', rt := Q } (L2.start N_l_law_refused vs) H) : Cl P w K mg base 8 (He.fAd K ("_law_refused", none)) ["which", "told", "kind", "more"] (c_l_law_refused.sp K) := by
  obtain ⟨fd, F⟩ := F
  refine ⟨fd, ?_, F.bindsN (ps := ["which", "told", "kind", "more"]) (fun _ _ _ _ _ _ us hl => match us, hl with | [_, _, _, _], _ => rfl), F.kp⟩
  refine FunD.ok F sc_l_law_refused (fun vs H Q E h => Cp.len (c := c_l_law_refused) (n := 4) (fun i => by first | rfl | (cases i <;> rfl)) vs H Q E h) (fun cdv A outer s H vs Q E hr h => ⟨t_l_law_refused K E, ?_, hp vs H Q E h⟩)
  have hu := hr.units
  have hu1 := hu_of hr
  have hu2 := hu65 hr
  have sc := sc_l_law_refused
  exact (pss_cons (ps_try_manyAs (tb := tb_l_law_refused K) rfl rfl sc.nd (takes_of rfl rfl rfl rfl) (fun W pn xe tk pe => (pss_one (ps_if (pt_cmpR (op_eqQ hu) (pv 0) pe_int (nomark _))
  (pss_one (ps_expr (pe_callC h_check_cart (hr.mono (by decide)) rfl T.g_check_cart (passT tk) (pa_cons (pv 1) pa_nil))))
  (pss_one (ps_if (pt_cmpR (op_eqQ hu) (pv 0) pe_int (nomark _))
  (pss_one (ps_expr (pe_makeC T.k_Slot h_SlotU_initU (hr.mono (by decide)) rfl T.g_Slot (passT tk) (pa_cons (pv 1) pa_nil))))
  (pss_one (ps_expr (pe_callC h_cart_of (hr.mono (by decide)) rfl T.g_cart_of (passT tk) (pa_cons (pv 2) (pa_cons (pv 1) (pa_cons (pv 3) pa_nil))))))))))) (HdsAs.cons (i := 4) rfl rfl ⟨rfl, by decide, .inl T.g_BadCart⟩ (fun a oe cls d pn hz hf => (pss_one (ps_ret (pe_xf T.xf_BadCart T.x_BadCart.s.at_ hz hf (pv 4))))) HdsAs.nil))
  (pss_one (ps_ret pe_non)))
abbrev N_l_law_bank : List Str := ["draws", "k", "t"]
def t_l_law_bank (K : PySem.W.Frag) (E : XK) : TS :=
  (tRet (tLc (iRng1 (tCons (tC (.int 256)) tNil)) (gName 2) tYes (tOp rMd (tCB rIn1 (tCons (tOp (rPlus K) (tOp rTimes (tCall (c_l_law_mix.sp K) [] E0 (tCons (tVar 0) (tCons (tVar 1) (tCons (tC (.int 256)) tNil)))) (tOp (rPlus K) (tVar 2) (tC (.int 1)))) (tOp rTimes (tVar 2) (tVar 2))) tNil)) (tC (.int 256))) [2]))
theorem sc_l_law_bank : FnScope N_l_law_bank ["draws", "k"] (defScope s_l_law_bank) := ⟨rfl, rfl, rfl, by decide +kernel, rfl, by decide +kernel, by decide +kernel⟩
theorem ok_l_law_bank {P : Program} {w : World} {K : PySem.W.Frag} {mg : Str → Option Value} {base : Heap} (T : Tx K mg) (F : ∃ fd, FunD K "_law_bank" "_law_bank" (defArgs s_l_law_bank) (defBody s_l_law_bank) (defScope s_l_law_bank) [] [] (He.fAd K ("_law_bank", none)) fd) (h_l_law_mix : Cl P w K mg base 1 (He.fAd K ("_law_mix", none)) ["draws", "k", "many"] (c_l_law_mix.sp K))
    (hp : ∀ vs H Q E, c_l_law_bank.sp K vs H Q E → t_l_law_bank K E { nx := fun _ H' => Q .non H', rt := Q } (L2.start N_l_law_bank vs) H) : Cl P w K mg base 2 (He.fAd K ("_law_bank", none)) ["draws", "k"] (c_l_law_bank.sp K) := by
  obtain ⟨fd, F⟩ := F
  refine ⟨fd, ?_, F.bindsN (ps := ["draws", "k"]) (fun _ _ _ _ _ _ us hl => match us, hl with | [_, _], _ => rfl), F.kp⟩
  refine FunD.ok F sc_l_law_bank (fun vs H Q E h => Cp.len (c := c_l_law_bank) (n := 2) (fun i => by first | rfl | (cases i <;> rfl)) vs H Q E h) (fun cdv A outer s H vs Q E hr h => ⟨t_l_law_bank K E, ?_, hp vs H Q E h⟩)
  have hu := hr.units
  have hu1 := hu_of hr
  have hu2 := hu65 hr
  have sc := sc_l_law_bank
  exact (pss_one (ps_ret (pe_lc (own := [("t", 2)]) (by rfl) sc.nd (pi_range1 rfl T.f_range (pa_cons pe_int pa_nil)) (blkOk_by (N := N_l_law_bank) (sc := defScope s_l_law_bank) (by decide +kernel)) (fun _ _ _ _ _ => (pg_name (i := 2) sc.nd rfl (by first | exact Or.inl rfl | exact Or.inr rfl))) (fun _ _ _ _ _ => pts_nil) (fun _ _ _ _ _ => (pe_op op_mod (pe_callTy cr_in1 rfl T.f_int (by decide +kernel) (pa_cons (pe_op op_plus (pe_op op_times (pe_callC h_l_law_mix (hr.mono (by decide)) rfl T.g__law_mix passL (pa_cons (pv 0) (pa_cons (pv 1) (pa_cons pe_int pa_nil)))) (pe_op op_plus (pv 2) pe_int)) (pe_op op_times (pv 2) (pv 2))) pa_nil)) pe_int)))))
abbrev N_l_law_wrong : List Str := ["banks", "kind", "k", "byte"]
def t_l_law_wrong (K : PySem.W.Frag) (E : XK) : TS :=
  (tSeq (tIfS (tOr (tNot (tTest (tChain rLe rLe (tC (.int 2)) (tCB (rLn K) (tCons (tVar 0) tNil)) (tC (.int 8))))) (tTest (tOp (rIn K true) (tVar 1) (tLst (tCons (tC (.str "plain")) (tCons (tC (.str "switched")) tNil))))))
  (tRet (tC (.int 0)))
  tNext)
  (tSeq (tFor (iRng1 (tCons (tCB (rLn K) (tCons (tVar 0) tNil)) tNil)) (gName 2)
  (tIfS (tOr (tTest (tOp (rNeQ K) (tCB (rLn K) (tCons (tOp (rIx K) (tVar 0) (tVar 2)) tNil)) (tC (.int 256)))) (tTest (tOp (rNeQ K) (tLc (iList K (tOp (rIx K) (tVar 0) (tVar 2))) (gName 3) (tNot (tTest (tChain rLe rLe (tC (.int 0)) (tVar 3) (tC (.int 255))))) (tVar 3) [3]) (tLst tNil))))
  (tRet (tOp (rPlus K) (tVar 2) (tC (.int 1))))
  tNext))
  (tRet (tC .non))))
theorem sc_l_law_wrong : FnScope N_l_law_wrong ["banks", "kind"] (defScope s_l_law_wrong) := ⟨rfl, rfl, rfl, by decide +kernel, rfl, by decide +kernel, by decide +kernel⟩
theorem ok_l_law_wrong {P : Program} {w : World} {K : PySem.W.Frag} {mg : Str → Option Value} {base : Heap} (T : Tx K mg) (F : ∃ fd, FunD K "_law_wrong" "_law_wrong" (defArgs s_l_law_wrong) (defBody s_l_law_wrong) (defScope s_l_law_wrong) [] [] (He.fAd K ("_law_wrong", none)) fd) 
    (hp : ∀ vs H Q E, c_l_law_wrong.sp K vs H Q E → t_l_law_wrong K E { nx := fun _ H' => Q .non H', rt := Q } (L2.start N_l_law_wrong vs) H) : Cl P w K mg base 1 (He.fAd K ("_law_wrong", none)) ["banks", "kind"] (c_l_law_wrong.sp K) := by
  obtain ⟨fd, F⟩ := F
  refine ⟨fd, ?_, F.bindsN (ps := ["banks", "kind"]) (fun _ _ _ _ _ _ us hl => match us, hl with | [_, _], _ => rfl), F.kp⟩
  refine FunD.ok F sc_l_law_wrong (fun vs H Q E h => Cp.len (c := c_l_law_wrong) (n := 2) (fun i => by first | rfl | (cases i <;> rfl)) vs H Q E h) (fun cdv A outer s H vs Q E hr h => ⟨t_l_law_wrong K E, ?_, hp vs H Q E h⟩)
  have hu := hr.units
  have hu1 := hu_of hr
  have hu2 := hu65 hr
  have sc := sc_l_law_wrong
  exact (pss_cons (ps_if (PW.pt (pw_or (pt_not (pt_chain op_le op_le pe_int (pe_callB cr_ln rfl T.f_len (by decide +kernel) (pa_cons (pv 0) pa_nil)) pe_int)) (pw_or1 (pt_cmpR op_notIn_seq (pv 1) (pe_lst (pa_cons pe_str (pa_cons pe_str pa_nil))) (by rfl)))))
  (pss_one (ps_ret pe_int))
  pss_nil)
  (pss_cons (ps_for (by first | exact passes_of rfl | assumption) rfl (pi_range1 rfl T.f_range (pa_cons (pe_callB cr_ln rfl T.f_len (by decide +kernel) (pa_cons (pv 0) pa_nil)) pa_nil)) (pg_name (i := 2) sc.nd rfl (by first | exact Or.inl rfl | exact Or.inr rfl))
  (pss_one (ps_if (PW.pt (pw_or (pt_cmpR (op_neQ hu) (pe_callB cr_ln rfl T.f_len (by decide +kernel) (pa_cons (pe_ix ix_seq (pv 0) (pv 2) (fun _ _ => rfl)) pa_nil)) pe_int (nomark _)) (pw_or1 (pt_cmpR (op_neQ hu) (pe_lc (own := [("byte", 3)]) (by rfl) sc.nd (pi_list (pe_ix ix_seq (pv 0) (pv 2) (fun _ _ => rfl))) (blkOk_by (N := N_l_law_wrong) (sc := defScope s_l_law_wrong) (by decide +kernel)) (fun _ _ _ _ _ => (pg_name (i := 3) sc.nd rfl (by first | exact Or.inl rfl | exact Or.inr rfl))) (fun _ _ _ _ _ => (pts_one (pt_not (pt_chain op_le op_le pe_int (pv 3) pe_int)))) (fun _ _ _ _ _ => (pv 3))) (pe_lst pa_nil) (nomark _)))))
  (pss_one (ps_ret (pe_op op_plus (pv 2) pe_int)))
  pss_nil)))
  (pss_one (ps_ret pe_non))))
abbrev N_l_law_faults : List Str := ["draws", "banks", "kind", "turn", "k", "some", "word", "bank", "t", "at", "place", "way", "due", "code"]
def t_l_law_faults (K : PySem.W.Frag) (E : XK) : TS :=
  (tSeq (tFor (iRng1 (tCons (tC (.int 8)) tNil)) (gName 3)
  (tSeq (tAsg (tTup (tCons (tOp (rPlus K) (tC (.int 300)) (tOp rTimes (tC (.int 12)) (tVar 3))) (tCons (tLc (iList K (tVar 1)) (gName 7) tYes (tCB (rLo K) (tCons (tVar 7) tNil)) [7]) (tCons (tVar 2) tNil)))) (gTup K 3 (gCons (gName 4) (gCons (gName 5) (gCons (gName 6) gNil)))))
  (tSeq (tFor (iRng1 (tCons (tOp (rPlus K) (tC (.int 1)) (tCall (c_l_law_mix.sp K) [] E (tCons (tVar 0) (tCons (tVar 4) (tCons (tC (.int 3)) tNil))))) tNil)) (gName 8)
  (tSeq (tPar 9 10 (tCons (tCall (c_l_law_mix.sp K) [] E (tCons (tVar 0) (tCons (tOp (rPlus K) (tOp (rPlus K) (tVar 4) (tC (.int 2))) (tOp rTimes (tC (.int 3)) (tVar 8))) (tCons (tCB (rLn K) (tCons (tVar 5) tNil)) tNil)))) (tCons (tCall (c_l_law_mix.sp K) [] E (tCons (tVar 0) (tCons (tOp (rPlus K) (tOp (rPlus K) (tVar 4) (tC (.int 3))) (tOp rTimes (tC (.int 3)) (tVar 8))) (tCons (tC (.int 256)) tNil)))) tNil)))
  (tSeq (tAsg (tCall (c_l_law_mix.sp K) [] E (tCons (tVar 0) (tCons (tOp (rPlus K) (tOp (rPlus K) (tVar 4) (tC (.int 4))) (tOp rTimes (tC (.int 3)) (tVar 8))) (tCons (tC (.int 5)) tNil)))) (gName 11))
  (tIfS (tTest (tOp rLt (tVar 11) (tC (.int 2))))
  (tAsg (tOp (rPlus K) (tOp (rPlus K) (tSl (rSlQ K) (tOp (rIx K) (tVar 5) (tVar 9)) tNoPart (tPart (tVar 10))) (tLst (tCons (tOp (rIx K) (tLst (tCons (tC (.int 256)) (tCons (tUn rNg (tC (.int 1))) tNil))) (tVar 11)) tNil))) (tSl (rSlQ K) (tOp (rIx K) (tVar 5) (tVar 9)) (tPart (tOp (rPlus K) (tVar 10) (tC (.int 1)))) tNoPart)) (gSub (tVar 5) (tVar 9) rSetL))
  (tIfS (tTest (tOp (rEqQ K) (tVar 11) (tC (.int 2))))
  (tAsg (tOp (rPlus K) (tOp (rIx K) (tVar 5) (tVar 9)) (tLst (tCons (tC (.int 0)) tNil))) (gSub (tVar 5) (tVar 9) rSetL))
  (tIfS (tTest (tOp (rEqQ K) (tVar 11) (tC (.int 3))))
  (tAsg (tSl (rSlQ K) (tOp (rIx K) (tVar 5) (tVar 9)) tNoPart (tPart (tUn rNg (tC (.int 1))))) (gSub (tVar 5) (tVar 9) rSetL))
  (tAsg (tOp (rIx K) (tLst (tCons (tC (.str "Plain")) (tCons (tC (.str "")) (tCons (tC (.str "switched ")) (tCons (tC (.str "both")) tNil))))) (tCall (c_l_law_mix.sp K) [] E (tCons (tVar 0) (tCons (tOp (rPlus K) (tVar 4) (tC (.int 11))) (tCons (tC (.int 4)) tNil))))) (gName 6))))))))
  (tSeq (tIfS (tTest (tOp (rEqQ K) (tCall (c_l_law_mix.sp K) [] E (tCons (tVar 0) (tCons (tOp (rPlus K) (tVar 4) (tC (.int 1))) (tCons (tC (.int 4)) tNil)))) (tC (.int 0))))
  (tAsg (tOp (rIx K) (tLst (tCons (tSl (rSlQ K) (tVar 5) tNoPart (tPart (tC (.int 1)))) (tCons (tOp (rPlus K) (tVar 5) (tLc (iRng1 (tCons (tOp rSb (tC (.int 9)) (tCB (rLn K) (tCons (tVar 5) tNil))) tNil)) (gName 8) tYes (tCB (rLo K) (tCons (tOp (rIx K) (tVar 5) (tC (.int 0))) tNil)) [8])) tNil))) (tOp rMd (tCB rIn1 (tCons (tVar 10) tNil)) (tC (.int 2)))) (gName 5))
  tNext)
  (tSeq (tAsg (tCall (c_l_law_wrong.sp K) [] E (tCons (tVar 5) (tCons (tVar 6) tNil))) (gName 12))
  (tSeq (tIfS (tOr (tTest (tOp (rNeQ K) (tCall (c_l_law_refused.sp K) [] E (tCons (tC (.int 0)) (tCons (tDisp [((tC (.str "banks")), (tVar 5)), ((tC (.str "kind")), (tVar 6))]) (tCons (tC (.str "")) (tCons (tLst tNil) tNil))))) (tVar 12))) (tTest (tOp (rNeQ K) (tCall (c_l_law_refused.sp K) [] E (tCons (tC (.int 1)) (tCons (tDisp [((tC (.str "banks")), (tVar 5)), ((tC (.str "kind")), (tVar 6))]) (tCons (tC (.str "")) (tCons (tLst tNil) tNil))))) (tVar 12))))
  (tRet (tC (.bl false)))
  tNext)
  (tSeq (tAsg (tOp rTimes (tLst (tCons (tC (.int 0)) tNil)) (tOp (rIx K) (tLst (tCons (tC (.int 250)) (tCons (tC (.int 251)) (tCons (tC (.int 0)) tNil)))) (tCall (c_l_law_mix.sp K) [] E (tCons (tVar 0) (tCons (tOp (rPlus K) (tVar 4) (tC (.int 10))) (tCons (tC (.int 3)) tNil)))))) (gName 13))
  (tIfS (tTest (tOp (rNeQ K) (tCall (c_l_law_refused.sp K) [] E (tCons (tC (.int 2)) (tCons (tVar 13) (tCons (tVar 6) (tCons (tSl (rSlQ K) (tVar 5) tNoPart (tPart (tUn rNg (tC (.int 1))))) tNil))))) (tOp (rIx K) (tLst (tCons (tCall (c_l_law_wrong.sp K) [] E (tCons (tOp (rPlus K) (tSl (rSlQ K) (tVar 5) tNoPart (tPart (tUn rNg (tC (.int 1))))) (tLst (tCons (tOp rTimes (tLst (tCons (tC (.int 0)) tNil)) (tC (.int 256))) tNil))) (tCons (tVar 6) tNil))) (tCons (tC (.int 0)) tNil))) (tCB rIn1 (tCons (tOp rGt (tCB (rLn K) (tCons (tVar 13) tNil)) (tC (.int 250))) tNil)))))
  (tRet (tC (.bl false)))
  tNext))))))))
  (tRet (tC (.bl true))))
theorem sc_l_law_faults : FnScope N_l_law_faults ["draws", "banks", "kind"] (defScope s_l_law_faults) := ⟨rfl, rfl, rfl, by decide +kernel, rfl, by decide +kernel, by decide +kernel⟩
theorem ok_l_law_faults {P : Program} {w : World} {K : PySem.W.Frag} {mg : Str → Option Value} {base : Heap} (T : Tx K mg) (F : ∃ fd, FunD K "_law_faults" "_law_faults" (defArgs s_l_law_faults) (defBody s_l_law_faults) (defScope s_l_law_faults) [] [] (He.fAd K ("_law_faults", none)) fd) (h_l_law_mix : Cl P w K mg base 1 (He.fAd K ("_law_mix", none)) ["draws", "k", "many"] (c_l_law_mix.sp K)) (h_l_law_wrong : Cl P w K mg base 1 (He.fAd K ("_law_wrong", none)) ["banks", "kind"] (c_l_law_wrong.sp K)) (h_l_law_refused : Cl P w K mg base 8 (He.fAd K ("_law_refused", none)) ["which", "told", "kind", "more"] (c_l_law_refused.sp K))
    (hp : ∀ vs H Q E, c_l_law_faults.sp K vs H Q E → t_l_law_faults K E { nx := fun _ H' => Q .non H', rt := Q } (L2.start N_l_law_faults vs) H) : Cl P w K mg base 9 (He.fAd K ("_law_faults", none)) ["draws", "banks", "kind"] (c_l_law_faults.sp K) := by
  obtain ⟨fd, F⟩ := F
  refine ⟨fd, ?_, F.bindsN (ps := ["draws", "banks", "kind"]) (fun _ _ _ _ _ _ us hl => match us, hl with | [_, _, _], _ => rfl), F.kp⟩
  refine FunD.ok F sc_l_law_faults (fun vs H Q E h => Cp.len (c := c_l_law_faults) (n := 3) (fun i => by first | rfl | (cases i <;> rfl)) vs H Q E h) (fun cdv A outer s H vs Q E hr h => ⟨t_l_law_faults K E, ?_, hp vs H Q E h⟩)
  have hu := hr.units
  have hu1 := hu_of hr
  have hu2 := hu65 hr
  have sc := sc_l_law_faults
  exact (pss_cons (ps_for (by first | exact passes_of rfl | assumption) rfl (pi_range1 rfl T.f_range (pa_cons pe_int pa_nil)) (pg_name (i := 3) sc.nd rfl (by first | exact Or.inl rfl | exact Or.inr rfl))
  (pss_cons (ps_asg (pe_tup (pa_cons (pe_op op_plus pe_int (pe_op op_times pe_int (pv 3))) (pa_cons (pe_lc (own := [("bank", 7)]) (by rfl) sc.nd (pi_list (pv 1)) (blkOk_by (N := N_l_law_faults) (sc := defScope s_l_law_faults) (by decide +kernel)) (fun _ _ _ _ _ => (pg_name (i := 7) sc.nd rfl (by first | exact Or.inl rfl | exact Or.inr rfl))) (fun _ _ _ _ _ => pts_nil) (fun _ _ _ _ _ => (pe_callTy cr_lo rfl T.f_list (by decide +kernel) (pa_cons (pv 7) pa_nil)))) (pa_cons (pv 2) pa_nil)))) (pg_tup rfl (pgs_cons (pg_name (i := 4) sc.nd rfl (by first | exact Or.inl rfl | exact Or.inr rfl)) (pgs_cons (pg_name (i := 5) sc.nd rfl (by first | exact Or.inl rfl | exact Or.inr rfl)) (pgs_cons (pg_name (i := 6) sc.nd rfl (by first | exact Or.inl rfl | exact Or.inr rfl)) pgs_nil)))))
  (pss_cons (ps_for (by first | exact passes_of rfl | assumption) rfl (pi_range1 rfl T.f_range (pa_cons (pe_op op_plus pe_int (pe_callC h_l_law_mix (hr.mono (by decide)) rfl T.g__law_mix (passE (takes_of rfl rfl rfl rfl) fun _ _ _ _ z => z) (pa_cons (pv 0) (pa_cons (pv 4) (pa_cons pe_int pa_nil))))) pa_nil)) (pg_name (i := 8) sc.nd rfl (by first | exact Or.inl rfl | exact Or.inr rfl))
  (pss_cons (ps_par (i := 9) (j := 10) (by rfl) sc.nd rfl rfl (by decide) rfl rfl (pa_cons (pe_callC h_l_law_mix (hr.mono (by decide)) rfl T.g__law_mix (passE (takes_of rfl rfl rfl rfl) fun _ _ _ _ z => z) (pa_cons (pv 0) (pa_cons (pe_op op_plus (pe_op op_plus (pv 4) pe_int) (pe_op op_times pe_int (pv 8))) (pa_cons (pe_callB cr_ln rfl T.f_len (by decide +kernel) (pa_cons (pv 5) pa_nil)) pa_nil)))) (pa_cons (pe_callC h_l_law_mix (hr.mono (by decide)) rfl T.g__law_mix (passE (takes_of rfl rfl rfl rfl) fun _ _ _ _ z => z) (pa_cons (pv 0) (pa_cons (pe_op op_plus (pe_op op_plus (pv 4) pe_int) (pe_op op_times pe_int (pv 8))) (pa_cons pe_int pa_nil)))) pa_nil)) (by rfl))
  (pss_cons (ps_set (i := 11) sc.nd rfl (by first | exact Or.inl rfl | exact Or.inr rfl) (pe_callC h_l_law_mix (hr.mono (by decide)) rfl T.g__law_mix (passE (takes_of rfl rfl rfl rfl) fun _ _ _ _ z => z) (pa_cons (pv 0) (pa_cons (pe_op op_plus (pe_op op_plus (pv 4) pe_int) (pe_op op_times pe_int (pv 8))) (pa_cons pe_int pa_nil)))))
  (pss_one (ps_if (pt_cmpR op_lt (pv 11) pe_int (nomark _))
  (pss_one (ps_asg (pe_op op_plus (pe_op op_plus (pe_slice sl_q (pe_ix ix_seq (pv 5) (pv 9) (fun _ _ => rfl)) po_none (po_some (pv 10))) (pe_lst (pa_cons (pe_ix ix_seq (pe_lst (pa_cons pe_int (pa_cons (pe_un un_ng pe_int) pa_nil))) (pv 11) (fun _ _ => rfl)) pa_nil))) (pe_slice sl_q (pe_ix ix_seq (pv 5) (pv 9) (fun _ _ => rfl)) (po_some (pe_op op_plus (pv 10) pe_int)) po_none)) (pg_sub (pv 5) (pv 9) set_list)))
  (pss_one (ps_if (pt_cmpR (op_eqQ hu) (pv 11) pe_int (nomark _))
  (pss_one (ps_asg (pe_op op_plus (pe_ix ix_seq (pv 5) (pv 9) (fun _ _ => rfl)) (pe_lst (pa_cons pe_int pa_nil))) (pg_sub (pv 5) (pv 9) set_list)))
  (pss_one (ps_if (pt_cmpR (op_eqQ hu) (pv 11) pe_int (nomark _))
  (pss_one (ps_asg (pe_slice sl_q (pe_ix ix_seq (pv 5) (pv 9) (fun _ _ => rfl)) po_none (po_some (pe_un un_ng pe_int))) (pg_sub (pv 5) (pv 9) set_list)))
  (pss_one (ps_set (i := 6) sc.nd rfl (by first | exact Or.inl rfl | exact Or.inr rfl) (pe_ix ix_seq (pe_lst (pa_cons pe_str (pa_cons pe_str (pa_cons pe_str (pa_cons pe_str pa_nil))))) (pe_callC h_l_law_mix (hr.mono (by decide)) rfl T.g__law_mix (passE (takes_of rfl rfl rfl rfl) fun _ _ _ _ z => z) (pa_cons (pv 0) (pa_cons (pe_op op_plus (pv 4) pe_int) (pa_cons pe_int pa_nil)))) (fun _ _ => rfl)))))))))))))
  (pss_cons (ps_if (pt_cmpR (op_eqQ hu) (pe_callC h_l_law_mix (hr.mono (by decide)) rfl T.g__law_mix (passE (takes_of rfl rfl rfl rfl) fun _ _ _ _ z => z) (pa_cons (pv 0) (pa_cons (pe_op op_plus (pv 4) pe_int) (pa_cons pe_int pa_nil)))) pe_int (nomark _))
  (pss_one (ps_set (i := 5) sc.nd rfl (by first | exact Or.inl rfl | exact Or.inr rfl) (pe_ix ix_seq (pe_lst (pa_cons (pe_slice sl_q (pv 5) po_none (po_some pe_int)) (pa_cons (pe_op op_plus (pv 5) (pe_lc (own := [("t", 8)]) (by rfl) sc.nd (pi_range1 rfl T.f_range (pa_cons (pe_op op_sub pe_int (pe_callB cr_ln rfl T.f_len (by decide +kernel) (pa_cons (pv 5) pa_nil))) pa_nil)) (blkOk_by (N := N_l_law_faults) (sc := defScope s_l_law_faults) (by decide +kernel)) (fun _ _ _ _ _ => (pg_name (i := 8) sc.nd rfl (by first | exact Or.inl rfl | exact Or.inr rfl))) (fun _ _ _ _ _ => pts_nil) (fun _ _ _ _ _ => (pe_callTy cr_lo rfl T.f_list (by decide +kernel) (pa_cons (pe_ix ix_seq (pv 5) pe_int (fun _ _ => rfl)) pa_nil))))) pa_nil))) (pe_op op_mod (pe_callTy cr_in1 rfl T.f_int (by decide +kernel) (pa_cons (pv 10) pa_nil)) pe_int) (fun _ _ => rfl))))
  pss_nil)
  (pss_cons (ps_set (i := 12) sc.nd rfl (by first | exact Or.inl rfl | exact Or.inr rfl) (pe_callC h_l_law_wrong (hr.mono (by decide)) rfl T.g__law_wrong (passE (takes_of rfl rfl rfl rfl) fun _ _ _ _ z => z) (pa_cons (pv 5) (pa_cons (pv 6) pa_nil))))
  (pss_cons (ps_if (PW.pt (pw_or (pt_cmpR (op_neQ hu) (pe_callC h_l_law_refused (hr.mono (by decide)) rfl T.g__law_refused (passE (takes_of rfl rfl rfl rfl) fun _ _ _ _ z => z) (pa_cons pe_int (pa_cons (pe_disp (pps_cons pe_str (pv 5) (pps_cons pe_str (pv 6) pps_nil)) (by rfl) (by rfl) (fun z => by cases z) (by decide)) (pa_cons pe_str (pa_cons (pe_lst pa_nil) pa_nil))))) (pv 12) (nomark _)) (pw_or1 (pt_cmpR (op_neQ hu) (pe_callC h_l_law_refused (hr.mono (by decide)) rfl T.g__law_refused (passE (takes_of rfl rfl rfl rfl) fun _ _ _ _ z => z) (pa_cons pe_int (pa_cons (pe_disp (pps_cons pe_str (pv 5) (pps_cons pe_str (pv 6) pps_nil)) (by rfl) (by rfl) (fun z => by cases z) (by decide)) (pa_cons pe_str (pa_cons (pe_lst pa_nil) pa_nil))))) (pv 12) (nomark _)))))
  (pss_one (ps_ret pe_bl))
  pss_nil)
  (pss_cons (ps_set (i := 13) sc.nd rfl (by first | exact Or.inl rfl | exact Or.inr rfl) (pe_op op_times (pe_lst (pa_cons pe_int pa_nil)) (pe_ix ix_seq (pe_lst (pa_cons pe_int (pa_cons pe_int (pa_cons pe_int pa_nil)))) (pe_callC h_l_law_mix (hr.mono (by decide)) rfl T.g__law_mix (passE (takes_of rfl rfl rfl rfl) fun _ _ _ _ z => z) (pa_cons (pv 0) (pa_cons (pe_op op_plus (pv 4) pe_int) (pa_cons pe_int pa_nil)))) (fun _ _ => rfl))))
  (pss_one (ps_if (pt_cmpR (op_neQ hu) (pe_callC h_l_law_refused (hr.mono (by decide)) rfl T.g__law_refused (passE (takes_of rfl rfl rfl rfl) fun _ _ _ _ z => z) (pa_cons pe_int (pa_cons (pv 13) (pa_cons (pv 6) (pa_cons (pe_slice sl_q (pv 5) po_none (po_some (pe_un un_ng pe_int))) pa_nil))))) (pe_ix ix_seq (pe_lst (pa_cons (pe_callC h_l_law_wrong (hr.mono (by decide)) rfl T.g__law_wrong (passE (takes_of rfl rfl rfl rfl) fun _ _ _ _ z => z) (pa_cons (pe_op op_plus (pe_slice sl_q (pv 5) po_none (po_some (pe_un un_ng pe_int))) (pe_lst (pa_cons (pe_op op_times (pe_lst (pa_cons pe_int pa_nil)) pe_int) pa_nil))) (pa_cons (pv 6) pa_nil))) (pa_cons pe_int pa_nil))) (pe_callTy cr_in1 rfl T.f_int (by decide +kernel) (pa_cons (pe_cmpR op_gt (pe_callB cr_ln rfl T.f_len (by decide +kernel) (pa_cons (pv 13) pa_nil)) pe_int (nomark _)) pa_nil)) (fun _ _ => rfl)) (nomark _))
  (pss_one (ps_ret pe_bl))
  pss_nil)))))))))
  (pss_one (ps_ret pe_bl)))
abbrev N_law : List Str := ["script", "draws", "many", "kind", "banks", "handed", "bank", "slots", "chosen", "turn", "k", "who", "byte", "page", "address", "place", "t", "told"]
def t_law (K : PySem.W.Frag) (E : XK) : TS :=
  (tSeq (tAsg (tCall (c_l_law_draws.sp K) [] E (tCons (tVar 0) tNil)) (gName 1))
  (tSeq (tPar 2 3 (tCons (tOp (rPlus K) (tC (.int 2)) (tCall (c_l_law_mix.sp K) [] E (tCons (tVar 1) (tCons (tC (.int 1)) (tCons (tC (.int 7)) tNil))))) (tCons (tOp (rIx K) (tLst (tCons (tC (.str "plain")) (tCons (tC (.str "switched")) (tCons (tC (.str "switched")) tNil)))) (tCall (c_l_law_mix.sp K) [] E (tCons (tVar 1) (tCons (tC (.int 2)) (tCons (tC (.int 3)) tNil))))) tNil)))
  (tSeq (tAsg (tLc (iRng1 (tCons (tVar 2) tNil)) (gName 10) tYes (tCall (c_l_law_bank.sp K) [] E0 (tCons (tVar 1) (tCons (tOp (rPlus K) (tC (.int 10)) (tVar 10)) tNil))) [10]) (gName 4))
  (tSeq (tAsg (tDisp [((tC (.str "banks")), (tLc (iList K (tVar 4)) (gName 6) tYes (tCB (rLo K) (tCons (tVar 6) tNil)) [6])), ((tC (.str "kind")), (tVar 3))]) (gName 5))
  (tSeq (tPar 7 8 (tCons (tLst (tCons (tMake (He.ga K "Slot") ((c_SlotU_initU K).sp K) [] E (tCons (tVar 5) tNil)) (tCons (tMake (He.ga K "Slot") ((c_SlotU_initU K).sp K) [] E (tCons (tVar 5) tNil)) tNil))) (tCons (tLst (tCons (tC (.int 0)) (tCons (tC (.int 0)) tNil))) tNil)))
  (tSeq (tAsg (tTup (tCons (tC (.int 999)) (tCons (tC (.int 998)) tNil))) (gTup K 2 (gCons (gSub (tOp (rIx K) (tDGet (tVar 5) (tC (.str "banks"))) (tC (.int 0))) (tC (.int 5)) rSetL) (gCons (gSub (tOp (rIx K) (tDGet (tVar 5) (tC (.str "banks"))) (tUn rNg (tC (.int 1)))) (tC (.int 7)) rSetL) gNil))))
  (tSeq (tDrop (tBM K "list" rAppend (tDGet (tVar 5) (tC (.str "banks"))) (tCons (tLst (tCons (tC (.int 1)) tNil)) tNil)))
  (tSeq (tFor (iRng1 (tCons (tC (.int 60)) tNil)) (gName 9)
  (tSeq (tAsg (tOp (rPlus K) (tC (.int 40)) (tOp rTimes (tC (.int 5)) (tVar 9))) (gName 10))
  (tSeq (tPar 11 12 (tCons (tCall (c_l_law_mix.sp K) [] E (tCons (tVar 1) (tCons (tVar 10) (tCons (tC (.int 2)) tNil)))) (tCons (tCall (c_l_law_mix.sp K) [] E (tCons (tVar 1) (tCons (tOp (rPlus K) (tVar 10) (tC (.int 1))) (tCons (tC (.int 256)) tNil)))) tNil)))
  (tSeq (tAsg (tOp (rIx K) (tLst (tCons (tC (.int 128)) (tCons (tC (.int 129)) (tCons (tC (.int 128)) (tCons (tC (.int 129)) (tCons (tC (.int 127)) (tCons (tC (.int 130)) (tCons (tC (.int 0)) (tCons (tC (.int 3)) (tCons (tC (.int 32)) (tCons (tC (.int 255)) (tCons (tCall (c_l_law_mix.sp K) [] E (tCons (tVar 1) (tCons (tOp (rPlus K) (tVar 10) (tC (.int 2))) (tCons (tC (.int 256)) tNil)))) tNil)))))))))))) (tCall (c_l_law_mix.sp K) [] E (tCons (tVar 1) (tCons (tOp (rPlus K) (tVar 10) (tC (.int 3))) (tCons (tC (.int 11)) tNil))))) (gName 13))
  (tSeq (tAsg (tOp (rPlus K) (tOp rTimes (tC (.int 256)) (tVar 13)) (tOp (rIx K) (tLst (tCons (tC (.int 0)) (tCons (tC (.int 255)) (tCons (tCall (c_l_law_mix.sp K) [] E (tCons (tVar 1) (tCons (tOp (rPlus K) (tVar 10) (tC (.int 4))) (tCons (tC (.int 256)) tNil)))) tNil)))) (tCall (c_l_law_mix.sp K) [] E (tCons (tVar 1) (tCons (tOp (rPlus K) (tVar 10) (tC (.int 2))) (tCons (tC (.int 3)) tNil)))))) (gName 14))
  (tSeq (tIfS (tTest (tOp (rEqQ K) (tCall (c_l_law_mix.sp K) [] E (tCons (tVar 1) (tCons (tOp (rPlus K) (tVar 10) (tC (.int 1))) (tCons (tC (.int 7)) tNil)))) (tC (.int 0))))
  (tSeq (tAsg (tOp rMd (tCB rIn1 (tCons (tVar 12) tNil)) (tVar 2)) (gSub (tVar 8) (tVar 11) rSetL))
  (tDrop (tMeth (He.ga K "Slot") "choose" ((c_Slot_choose K).sp K) [] E (tOp (rIx K) (tVar 7) (tVar 11)) (tCons (tOp (rIx K) (tVar 8) (tVar 11)) tNil))))
  (tSeq (tDrop (tMeth (He.ga K "Slot") "write" ((c_Slot_write K).sp K) [] E (tOp (rIx K) (tVar 7) (tVar 11)) (tCons (tVar 14) (tCons (tVar 12) tNil))))
  (tAsg (tOp (rIx K) (tLst (tCons (tOp (rIx K) (tVar 8) (tVar 11)) (tCons (tOp rMd (tCB rIn1 (tCons (tVar 12) tNil)) (tVar 2)) tNil))) (tCB rIn1 (tCons (tAndV (tOp (rEqQ K) (tVar 3) (tC (.str "switched"))) (tOp (rIn K false) (tVar 13) (tLst (tCons (tC (.int 128)) (tCons (tC (.int 129)) tNil))))) tNil))) (gSub (tVar 8) (tVar 11) rSetL))))
  (tSeq (tAsg (tCall (c_l_law_mix.sp K) [] E (tCons (tVar 1) (tCons (tOp (rPlus K) (tVar 10) (tC (.int 2))) (tCons (tC (.int 256)) tNil)))) (gName 15))
  (tSeq (tFor (iRng1 (tCons (tC (.int 2)) tNil)) (gName 16)
  (tIfS (tOr (tTest (tOp (rNeQ K) (tMeth (He.ga K "Slot") "chosen" ((c_Slot_chosen K).sp K) [] E (tOp (rIx K) (tVar 7) (tVar 16)) tNil) (tOp (rIx K) (tVar 8) (tVar 16)))) (tOr (tTest (tOp (rNeQ K) (tMeth (He.ga K "Slot") "read" ((c_Slot_read K).sp K) [] E (tOp (rIx K) (tVar 7) (tVar 16)) (tCons (tOp (rPlus K) (tC (.int 32768)) (tVar 15)) tNil)) (tOp (rIx K) (tOp (rIx K) (tVar 4) (tOp (rIx K) (tVar 8) (tVar 16))) (tVar 15)))) (tTest (tOp (rNeQ K) (tMeth (He.ga K "Slot") "read" ((c_Slot_read K).sp K) [] E (tOp (rIx K) (tVar 7) (tVar 16)) (tCons (tOp (rPlus K) (tC (.int 33024)) (tVar 15)) tNil)) (tOp (rIx K) (tOp (rIx K) (tVar 4) (tUn rNg (tC (.int 1)))) (tVar 15))))))
  (tRet (tC (.bl false)))
  tNext))
  (tSeq (tAsg (tMeth (He.ga K "Slot") "cart" ((c_Slot_cart K).sp K) [] E (tOp (rIx K) (tVar 7) (tVar 11)) tNil) (gName 17))
  (tSeq (tIfS (tOr (tTest (tOp (rNeK K) (tVar 17) (tDisp [((tC (.str "banks")), (tVar 4)), ((tC (.str "kind")), (tVar 3))]))) (tTest (tOp (rNeQ K) (tCB rLoK (tCons (tVar 17) tNil)) (tLst (tCons (tC (.str "banks")) (tCons (tC (.str "kind")) tNil))))))
  (tRet (tC (.bl false)))
  tNext)
  (tSeq (tAsg (tC (.int 77)) (gSub (tOp (rIx K) (tDGet (tVar 17) (tC (.str "banks"))) (tOp rMd (tCB rIn1 (tCons (tVar 15) tNil)) (tVar 2))) (tVar 15) rSetL))
  (tDrop (tBM K "list" rAppend (tOp (rIx K) (tDGet (tVar 17) (tC (.str "banks"))) (tUn rNg (tC (.int 1)))) (tCons (tC (.int 5)) tNil))))))))))))))
  (tRet (tCall (c_l_law_faults.sp K) [] E (tCons (tVar 1) (tCons (tVar 4) (tCons (tVar 3) tNil)))))))))))))
theorem sc_law : FnScope N_law ["script"] (defScope s_law) := ⟨rfl, rfl, rfl, by decide +kernel, rfl, by decide +kernel, by decide +kernel⟩
theorem okF_law {P : Program} {w : World} {K : PySem.W.Frag} {mg : Str → Option Value} {base : Heap} (T : Tx K mg) {fd : FuncData} (F : FunD K "law" "law" (defArgs s_law) (defBody s_law) (defScope s_law) [] [] (He.fAd K ("law", none)) fd) (h_l_law_draws : Cl P w K mg base 1 (He.fAd K ("_law_draws", none)) ["script"] (c_l_law_draws.sp K)) (h_l_law_mix : Cl P w K mg base 1 (He.fAd K ("_law_mix", none)) ["draws", "k", "many"] (c_l_law_mix.sp K)) (h_l_law_bank : Cl P w K mg base 2 (He.fAd K ("_law_bank", none)) ["draws", "k"] (c_l_law_bank.sp K)) (h_SlotU_initU : Cl P w K mg base 6 (He.fAd K ("Slot", some "__init__")) ["self", "cart"] ((c_SlotU_initU K).sp K)) (h_Slot_choose : Cl P w K mg base 1 (He.fAd K ("Slot", some "choose")) ["self", "number"] ((c_Slot_choose K).sp K)) (h_Slot_write : Cl P w K mg base 1 (He.fAd K ("Slot", some "write")) ["self", "address", "byte"] ((c_Slot_write K).sp K)) (h_Slot_chosen : Cl P w K mg base 1 (He.fAd K ("Slot", some "chosen")) ["self"] ((c_Slot_chosen K).sp K)) (h_Slot_read : Cl P w K mg base 1 (He.fAd K ("Slot", some "read")) ["self", "address"] ((c_Slot_read K).sp K)) (h_Slot_cart : Cl P w K mg base 1 (He.fAd K ("Slot", some "cart")) ["self"] ((c_Slot_cart K).sp K)) (h_l_law_faults : Cl P w K mg base 9 (He.fAd K ("_law_faults", none)) ["draws", "banks", "kind"] (c_l_law_faults.sp K))
    (hp : ∀ vs H Q E, c_law.sp K vs H Q E → t_law K E { nx := fun _ H' => Q .non H', rt := Q } (L2.start N_law vs) H) : FnOk P w K mg base (L2.CX P w) 10 (He.fAd K ("law", none)) fd ["script"] (c_law.sp K) := by
  refine FunD.ok F sc_law (fun vs H Q E h => c_law.len (n := 1) (fun i => rfl) vs H Q E h) (fun cdv A outer s H vs Q E hr h => ⟨t_law K E, ?_, hp vs H Q E h⟩)
  have hu := hr.units
  have hu1 := hu_of hr
  have hu2 := hu65 hr
  have sc := sc_law
  exact (pss_cons (ps_set (i := 1) sc.nd rfl (by first | exact Or.inl rfl | exact Or.inr rfl) (pe_callC h_l_law_draws (hr.mono (by decide)) rfl T.g__law_draws (passE (takes_of rfl rfl rfl rfl) fun _ _ _ _ z => z) (pa_cons (pv 0) pa_nil)))
  (pss_cons (ps_par (i := 2) (j := 3) (by rfl) sc.nd rfl rfl (by decide) rfl rfl (pa_cons (pe_op op_plus pe_int (pe_callC h_l_law_mix (hr.mono (by decide)) rfl T.g__law_mix (passE (takes_of rfl rfl rfl rfl) fun _ _ _ _ z => z) (pa_cons (pv 1) (pa_cons pe_int (pa_cons pe_int pa_nil))))) (pa_cons (pe_ix ix_seq (pe_lst (pa_cons pe_str (pa_cons pe_str (pa_cons pe_str pa_nil)))) (pe_callC h_l_law_mix (hr.mono (by decide)) rfl T.g__law_mix (passE (takes_of rfl rfl rfl rfl) fun _ _ _ _ z => z) (pa_cons (pv 1) (pa_cons pe_int (pa_cons pe_int pa_nil)))) (fun _ _ => rfl)) pa_nil)) (by rfl))
  (pss_cons (ps_setLc (i := 4) (own := [("k", 10)]) (by rfl) sc.nd rfl rfl (sw_true rfl rfl rfl (by decide +kernel)) (pi_range1 rfl T.f_range (pa_cons (pv 2) pa_nil)) (blkOk_by (N := N_law) (sc := defScope s_law) (by decide +kernel)) (fun _ _ _ _ _ => (pg_name (i := 10) sc.nd rfl (by first | exact Or.inl rfl | exact Or.inr rfl))) (fun _ _ _ _ _ => pts_nil) (fun _ _ _ _ _ => (pe_callC h_l_law_bank (hr.mono (by decide)) rfl T.g__law_bank passL (pa_cons (pv 1) (pa_cons (pe_op op_plus pe_int (pv 10)) pa_nil)))))
  (pss_cons (ps_set (i := 5) sc.nd rfl (by first | exact Or.inl rfl | exact Or.inr rfl) (pe_disp (pps_cons pe_str (pe_lc (own := [("bank", 6)]) (by rfl) sc.nd (pi_list (pv 4)) (blkOk_by (N := N_law) (sc := defScope s_law) (by decide +kernel)) (fun _ _ _ _ _ => (pg_name (i := 6) sc.nd rfl (by first | exact Or.inl rfl | exact Or.inr rfl))) (fun _ _ _ _ _ => pts_nil) (fun _ _ _ _ _ => (pe_callTy cr_lo rfl T.f_list (by decide +kernel) (pa_cons (pv 6) pa_nil)))) (pps_cons pe_str (pv 3) pps_nil)) (by rfl) (by rfl) (fun z => by cases z) (by decide)))
  (pss_cons (ps_par (i := 7) (j := 8) (by rfl) sc.nd rfl rfl (by decide) rfl rfl (pa_cons (pe_lst (pa_cons (pe_makeC T.k_Slot h_SlotU_initU (hr.mono (by decide)) rfl T.g_Slot (passE (takes_of rfl rfl rfl rfl) fun _ _ _ _ z => z) (pa_cons (pv 5) pa_nil)) (pa_cons (pe_makeC T.k_Slot h_SlotU_initU (hr.mono (by decide)) rfl T.g_Slot (passE (takes_of rfl rfl rfl rfl) fun _ _ _ _ z => z) (pa_cons (pv 5) pa_nil)) pa_nil))) (pa_cons (pe_lst (pa_cons pe_int (pa_cons pe_int pa_nil))) pa_nil)) (by rfl))
  (pss_cons (ps_asg (pe_tup (pa_cons pe_int (pa_cons pe_int pa_nil))) (pg_tup rfl (pgs_cons (pg_sub (pe_ix ix_seq (pe_dget hu1 (pv 5) pe_str (fun _ _ => rfl)) pe_int (fun _ _ => rfl)) pe_int set_list) (pgs_cons (pg_sub (pe_ix ix_seq (pe_dget hu1 (pv 5) pe_str (fun _ _ => rfl)) (pe_un un_ng pe_int) (fun _ _ => rfl)) pe_int set_list) pgs_nil))))
  (pss_cons (ps_expr (pe_bm PySem.F.plainAttrs_list PySem.F.slot_list_append PySem.F.type_list_append mt_append (pe_dget hu1 (pv 5) pe_str (fun _ _ => rfl)) (pa_cons (pe_lst (pa_cons pe_int pa_nil)) pa_nil)))
  (pss_cons (ps_for (by first | exact passes_of rfl | assumption) rfl (pi_range1 rfl T.f_range (pa_cons pe_int pa_nil)) (pg_name (i := 9) sc.nd rfl (by first | exact Or.inl rfl | exact Or.inr rfl))
  (pss_cons (ps_set (i := 10) sc.nd rfl (by first | exact Or.inl rfl | exact Or.inr rfl) (pe_op op_plus pe_int (pe_op op_times pe_int (pv 9))))
  (pss_cons (ps_par (i := 11) (j := 12) (by rfl) sc.nd rfl rfl (by decide) rfl rfl (pa_cons (pe_callC h_l_law_mix (hr.mono (by decide)) rfl T.g__law_mix (passE (takes_of rfl rfl rfl rfl) fun _ _ _ _ z => z) (pa_cons (pv 1) (pa_cons (pv 10) (pa_cons pe_int pa_nil)))) (pa_cons (pe_callC h_l_law_mix (hr.mono (by decide)) rfl T.g__law_mix (passE (takes_of rfl rfl rfl rfl) fun _ _ _ _ z => z) (pa_cons (pv 1) (pa_cons (pe_op op_plus (pv 10) pe_int) (pa_cons pe_int pa_nil)))) pa_nil)) (by rfl))
  (pss_cons (ps_set (i := 13) sc.nd rfl (by first | exact Or.inl rfl | exact Or.inr rfl) (pe_ix ix_seq (pe_lst (pa_cons pe_int (pa_cons pe_int (pa_cons pe_int (pa_cons pe_int (pa_cons pe_int (pa_cons pe_int (pa_cons pe_int (pa_cons pe_int (pa_cons pe_int (pa_cons pe_int (pa_cons (pe_callC h_l_law_mix (hr.mono (by decide)) rfl T.g__law_mix (passE (takes_of rfl rfl rfl rfl) fun _ _ _ _ z => z) (pa_cons (pv 1) (pa_cons (pe_op op_plus (pv 10) pe_int) (pa_cons pe_int pa_nil)))) pa_nil)))))))))))) (pe_callC h_l_law_mix (hr.mono (by decide)) rfl T.g__law_mix (passE (takes_of rfl rfl rfl rfl) fun _ _ _ _ z => z) (pa_cons (pv 1) (pa_cons (pe_op op_plus (pv 10) pe_int) (pa_cons pe_int pa_nil)))) (fun _ _ => rfl)))
  (pss_cons (ps_set (i := 14) sc.nd rfl (by first | exact Or.inl rfl | exact Or.inr rfl) (pe_op op_plus (pe_op op_times pe_int (pv 13)) (pe_ix ix_seq (pe_lst (pa_cons pe_int (pa_cons pe_int (pa_cons (pe_callC h_l_law_mix (hr.mono (by decide)) rfl T.g__law_mix (passE (takes_of rfl rfl rfl rfl) fun _ _ _ _ z => z) (pa_cons (pv 1) (pa_cons (pe_op op_plus (pv 10) pe_int) (pa_cons pe_int pa_nil)))) pa_nil)))) (pe_callC h_l_law_mix (hr.mono (by decide)) rfl T.g__law_mix (passE (takes_of rfl rfl rfl rfl) fun _ _ _ _ z => z) (pa_cons (pv 1) (pa_cons (pe_op op_plus (pv 10) pe_int) (pa_cons pe_int pa_nil)))) (fun _ _ => rfl))))
  (pss_cons (ps_if (pt_cmpR (op_eqQ hu) (pe_callC h_l_law_mix (hr.mono (by decide)) rfl T.g__law_mix (passE (takes_of rfl rfl rfl rfl) fun _ _ _ _ z => z) (pa_cons (pv 1) (pa_cons (pe_op op_plus (pv 10) pe_int) (pa_cons pe_int pa_nil)))) pe_int (nomark _))
  (pss_cons (ps_asg (pe_op op_mod (pe_callTy cr_in1 rfl T.f_int (by decide +kernel) (pa_cons (pv 12) pa_nil)) (pv 2)) (pg_sub (pv 8) (pv 11) set_list))
  (pss_one (ps_expr (pe_methC (pe_ix ix_seq (pv 7) (pv 11) (fun _ _ => rfl)) T.c_Slot T.m_Slot_choose h_Slot_choose (hr.mono (by decide)) (passE (takes_of rfl rfl rfl rfl) fun _ _ _ _ z => z) (pa_cons (pe_ix ix_seq (pv 8) (pv 11) (fun _ _ => rfl)) pa_nil)))))
  (pss_cons (ps_expr (pe_methC (pe_ix ix_seq (pv 7) (pv 11) (fun _ _ => rfl)) T.c_Slot T.m_Slot_write h_Slot_write (hr.mono (by decide)) (passE (takes_of rfl rfl rfl rfl) fun _ _ _ _ z => z) (pa_cons (pv 14) (pa_cons (pv 12) pa_nil))))
  (pss_one (ps_asg (pe_ix ix_seq (pe_lst (pa_cons (pe_ix ix_seq (pv 8) (pv 11) (fun _ _ => rfl)) (pa_cons (pe_op op_mod (pe_callTy cr_in1 rfl T.f_int (by decide +kernel) (pa_cons (pv 12) pa_nil)) (pv 2)) pa_nil))) (pe_callTy cr_in1 rfl T.f_int (by decide +kernel) (pa_cons (pe_and (pe_cmpR (op_eqQ hu) (pv 3) pe_str (nomark _)) (pe_one (pe_cmpR op_in_seq (pv 13) (pe_lst (pa_cons pe_int (pa_cons pe_int pa_nil))) (by rfl)))) pa_nil)) (fun _ _ => rfl)) (pg_sub (pv 8) (pv 11) set_list)))))
  (pss_cons (ps_set (i := 15) sc.nd rfl (by first | exact Or.inl rfl | exact Or.inr rfl) (pe_callC h_l_law_mix (hr.mono (by decide)) rfl T.g__law_mix (passE (takes_of rfl rfl rfl rfl) fun _ _ _ _ z => z) (pa_cons (pv 1) (pa_cons (pe_op op_plus (pv 10) pe_int) (pa_cons pe_int pa_nil)))))
  (pss_cons (ps_for (by first | exact passes_of rfl | assumption) rfl (pi_range1 rfl T.f_range (pa_cons pe_int pa_nil)) (pg_name (i := 16) sc.nd rfl (by first | exact Or.inl rfl | exact Or.inr rfl))
  (pss_one (ps_if (PW.pt (pw_or (pt_cmpR (op_neQ hu) (pe_meth0C (pe_ix ix_seq (pv 7) (pv 16) (fun _ _ => rfl)) T.c_Slot T.m_Slot_chosen h_Slot_chosen (hr.mono (by decide)) (passE (takes_of rfl rfl rfl rfl) fun _ _ _ _ z => z)) (pe_ix ix_seq (pv 8) (pv 16) (fun _ _ => rfl)) (nomark _)) (pw_or (pt_cmpR (op_neQ hu) (pe_methC (pe_ix ix_seq (pv 7) (pv 16) (fun _ _ => rfl)) T.c_Slot T.m_Slot_read h_Slot_read (hr.mono (by decide)) (passE (takes_of rfl rfl rfl rfl) fun _ _ _ _ z => z) (pa_cons (pe_op op_plus pe_int (pv 15)) pa_nil)) (pe_ix ix_seq (pe_ix ix_seq (pv 4) (pe_ix ix_seq (pv 8) (pv 16) (fun _ _ => rfl)) (fun _ _ => rfl)) (pv 15) (fun _ _ => rfl)) (nomark _)) (pw_or1 (pt_cmpR (op_neQ hu) (pe_methC (pe_ix ix_seq (pv 7) (pv 16) (fun _ _ => rfl)) T.c_Slot T.m_Slot_read h_Slot_read (hr.mono (by decide)) (passE (takes_of rfl rfl rfl rfl) fun _ _ _ _ z => z) (pa_cons (pe_op op_plus pe_int (pv 15)) pa_nil)) (pe_ix ix_seq (pe_ix ix_seq (pv 4) (pe_un un_ng pe_int) (fun _ _ => rfl)) (pv 15) (fun _ _ => rfl)) (nomark _))))))
  (pss_one (ps_ret pe_bl))
  pss_nil)))
  (pss_cons (ps_set (i := 17) sc.nd rfl (by first | exact Or.inl rfl | exact Or.inr rfl) (pe_meth0C (pe_ix ix_seq (pv 7) (pv 11) (fun _ _ => rfl)) T.c_Slot T.m_Slot_cart h_Slot_cart (hr.mono (by decide)) (passE (takes_of rfl rfl rfl rfl) fun _ _ _ _ z => z)))
  (pss_cons (ps_if (PW.pt (pw_or (pt_cmpR (op_neK hu2) (pv 17) (pe_disp (pps_cons pe_str (pv 4) (pps_cons pe_str (pv 3) pps_nil)) (by rfl) (by rfl) (fun z => by cases z) (by decide)) (nomark _)) (pw_or1 (pt_cmpR (op_neQ hu) (pe_callTy (cr_loK rfl) rfl T.f_list (by decide +kernel) (pa_cons (pv 17) pa_nil)) (pe_lst (pa_cons pe_str (pa_cons pe_str pa_nil))) (nomark _)))))
  (pss_one (ps_ret pe_bl))
  pss_nil)
  (pss_cons (ps_asg pe_int (pg_sub (pe_ix ix_seq (pe_dget hu1 (pv 17) pe_str (fun _ _ => rfl)) (pe_op op_mod (pe_callTy cr_in1 rfl T.f_int (by decide +kernel) (pa_cons (pv 15) pa_nil)) (pv 2)) (fun _ _ => rfl)) (pv 15) set_list))
  (pss_one (ps_expr (pe_bm PySem.F.plainAttrs_list PySem.F.slot_list_append PySem.F.type_list_append mt_append (pe_ix ix_seq (pe_dget hu1 (pv 17) pe_str (fun _ _ => rfl)) (pe_un un_ng pe_int) (fun _ _ => rfl)) (pa_cons pe_int pa_nil)))))))))))))))
  (pss_one (ps_ret (pe_callC h_l_law_faults (hr.mono (by decide)) rfl T.g__law_faults (passE (takes_of rfl rfl rfl rfl) fun _ _ _ _ z => z) (pa_cons (pv 1) (pa_cons (pv 4) (pa_cons (pv 3) pa_nil))))))))))))))
end K01

set_option Elab.async false
set_option linter.all false
set_option maxRecDepth 100000
set_option maxHeartbeats 1000000
namespace K01
open PySem PySem.Spec PyProof.Rows L2 Sy
local macro_rules | `(tactic| walk_at "s1") => `(tactic| first
  | ((with_reducible refine' we_var ?hv ?_); (case hv => rfl)) | with_reducible refine we_isTup ?_
  | ((with_reducible refine' we_fld ?hc ?hn ?_); (case hc => assumption); (case hn => assumption)) | with_reducible refine we_dget ?_ | ((with_reducible refine' ws_sfld ?hc ?hn ?_); (case hc => assumption); (case hn => assumption))
  | with_reducible refine wps_str ?_ | with_reducible refine wps_nil ?_
  | with_reducible refine we_int ?_ | with_reducible refine we_op ?_ | with_reducible refine we_cb ?_ | with_reducible refine wa_cons ?_ | with_reducible refine wa_nil ?_
  | with_reducible refine wr_plus ?_ | with_reducible refine wr_sb ?_ | ((with_reducible refine wr_md ?hc ?_); (case hc => decide)) | ((with_reducible refine wr_dv ?hc ?_); (case hc => exact ⟨by decide, by decide⟩))
  | ((with_reducible refine wr_times ?hc ?_); (case hc => first | exact cmul_r (by decide) (by decide) | exact cmul_l (by decide) (by decide)))
  | ((with_reducible refine wr_pw ?hc ?_); (case hc => exact ⟨by decide, by decide, by decide⟩))
  | with_reducible refine wr_lt ?_ | with_reducible refine wr_le ?_ | with_reducible refine wr_gt ?_ | with_reducible refine wr_ge ?_ | with_reducible refine wr_eqI ?_ | with_reducible refine wr_neI ?_ | with_reducible refine wr_eqS ?_ | with_reducible refine wr_neS ?_
  | with_reducible refine we_str ?_ | with_reducible refine we_bl ?_ | with_reducible refine we_non ?_
  | with_reducible refine wc_int ?_ | with_reducible refine wc_intB ?_ | with_reducible refine wc_abs ?_ | with_reducible refine wc_min2 ?_ | with_reducible refine wc_max2 ?_ | with_reducible refine wc_lenScr ?_
  | ((with_reducible refine' wc_len (.cell ?hl) ?_); (case hl => rfl)) | with_reducible refine wc_len .dat ?_ | with_reducible refine wc_lenT ?_
  | with_reducible refine ws_asgG ?_ | refine wg_tup rfl ?_ | refine wgs_cons ?_ | refine wgs_nil ?_ | with_reducible refine wg_name ?_ | ((with_reducible refine' wgw_name ?hj ?_); (case hj => decide)) | refine wgw_tup rfl ?_ | refine wgsw_cons ?_ | refine wgsw_nil ?_
  | with_reducible refine wt_test ?_ | with_reducible refine wt_B ?_ | with_reducible refine wt_not ?_
  | with_reducible refine ws_seq ?_ | with_reducible refine ws_asg ?_ | with_reducible refine ws_ret ?_ | with_reducible refine ws_if ?_ | with_reducible refine ws_par ?_ | with_reducible refine ws_par3 ?_
  | with_reducible refine we_chLL ?_ | with_reducible refine we_chLE ?_ | with_reducible refine we_ng ?_ | with_reducible refine we_notV ?_
  | with_reducible refine wt_and ?_ | with_reducible refine wt_or ?_ | with_reducible refine we_andV ?_ | with_reducible refine we_orV ?_ | with_reducible refine wr_isN ?_ | with_reducible refine wr_notN ?_
  | with_reducible refine we_tupX ?_ | with_reducible refine we_lstX ?_ | ((with_reducible refine' we_callW ?hX ?_); (case hX => assumption)) | with_reducible refine we_callN ?_
  | ((with_reducible refine' ws_raise ?hX ?hT ?_); (case hX => assumption); (case hT => assumption)) | with_reducible refine wc_tuple .dat ?_ | with_reducible refine wc_list .dat ?_ | with_reducible refine wc_listT ?_ | with_reducible refine wl_tupA ?_ | with_reducible refine wr_isB ?_ | with_reducible refine wr_notB ?_ | with_reducible refine we_sortedSet ?_ | with_reducible refine we_lenSet ?_
  | (with_reducible apply Exists.intro; with_reducible refine And.intro ?ds (And.intro ?ln ?_); (case ds => repeat (first | exact DS.nil | apply DS.cons)); (case ln => exact len_ok rfl))
  | (with_reducible apply Exists.intro; with_reducible refine And.intro (fun _ => ?_) ?_)
  | (with_reducible apply Exists.intro; with_reducible apply Exists.intro; with_reducible refine And.intro rfl (And.intro (fun _ => ?_) ?_))
  | (apply Exists.intro; apply Exists.intro; apply Exists.intro; with_reducible refine And.intro rfl (And.intro rfl (And.intro ?_ ?_)))
  | with_reducible refine wc_allM ?_ | with_reducible refine wc_anyM ?_ | with_reducible refine wc_sumM ?_ | with_reducible exact lv_map
  | with_reducible refine wa_star ?_ | with_reducible refine we_sl ?_ | with_reducible refine wo_some ?_ | with_reducible refine wo_no ?_ | with_reducible refine wl_q .dat ?_ | ((with_reducible refine' wl_q (.cell ?hl) ?_); (case hl => rfl)) | with_reducible refine ⟨_, .dat, ?_⟩
  | (with_reducible apply Exists.intro; with_reducible apply Exists.intro; with_reducible refine And.intro (fun _ => ?_) (And.intro (fun _ => ?_) ?_))
  | with_reducible exact ⟨rfl, rfl⟩
  | with_reducible refine ⟨_, rfl, ?_⟩ | with_reducible refine ⟨_, _, rfl, ?_⟩ | with_reducible refine ⟨_, _, _, rfl, ?_⟩)
local macro_rules | `(tactic| walk_at "sx") => `(tactic| repeat (walk_at "s1"))
local macro_rules | `(tactic| walk_at "rx") => `(tactic| (show Rx _ _ _ _; refine rx_here ⟨_, rfl, ?_⟩))
local macro_rules | `(tactic| walk_at "mx") => `(tactic| first
  | (with_reducible refine wk_mixG ?hd ?hm (fun _ _ => ?_); (case hd => assumption); (case hm => first | omega | (split <;> omega)))
  | (refine' wr_ixG ?il ?h0 ?h1 (fun _ hm => ?_); (case il => repeat (first | exact IL.nil | apply IL.cons)); (case h0 => first | omega | (split <;> omega)); (case h1 => simp only [List.length_cons, List.length_nil]; first | omega | (split <;> omega)); (simp only [List.mem_cons, List.not_mem_nil, or_false] at hm))
  | walk_at "s1")
local macro_rules | `(tactic| walk_at "sm") => `(tactic| repeat (walk_at "mx"))
local macro_rules | `(tactic| walk_at "sa") => `(tactic| repeat (first | with_reducible refine ws_ifA ?_ | (with_reducible apply Exists.intro; with_reducible apply Exists.intro; refine And.intro rfl (And.intro (fun _ => ?_) ?_)) | walk_at "s1"))
section
variable {K : PySem.W.Frag} {mg : Str → Option Value} {B : Bs} {k : SV → Cs → Prop} {C : Cs} {ex : Addr → Int → Prop}
theorem wk_is_bank {b : List Int} (h : b.length ≤ 5000) (q : k (.dat (.bool (isBank b))) C) : Wk c_is_bank ex [.dat (nums b)] k C :=
  wk_of (c := c_is_bank) b _ rfl h (fun _ h => h) (fun _ _ h => h) q
theorem wk_check_cart {bs : List (List Int)} {kd : Str} (hl : Sz bs) (q : faultOf bs kd = none → k (.dat .none) C) (he : ∀ n, faultOf bs kd = some n → ex (He.ga K "BadCart") n) : Wk (c_check_cart K) ex [.dat (cartD bs kd)] k C :=
  ⟨(bs, kd), rfl, rfl, hl, fun d h => by obtain ⟨a, b⟩ := h; subst a; exact q b, fun cls n h => by obtain ⟨a, b⟩ := h; subst a; exact he n b⟩
theorem wk_cart_of {code : List Int} {more : List (List Int)} {kd : Str} (hl : Sz more ∧ more.length ≤ 90 ∧ code.length ≤ 1000) (q : coFault code kd more = none → ∀ d, k (.dat d) C) (he : ∀ n, coFault code kd more = some n → ex (He.ga K "BadCart") n) : Wk (c_cart_of K) ex [.dat (.str kd), .dat (nums code), .dat (rows more)] k C :=
  ⟨(kd, code, more), rfl, rfl, hl, fun d h => q h d, fun cls n h => by obtain ⟨a, b⟩ := h; subst a; exact he n b⟩
theorem wk_l_law_bank {ds : List Int} {n : Int} (h : Dr ds ∧ 0 ≤ n ∧ n < 1000000) (q : k (.dat (nums (bankOf ds n))) C) : Wk c_l_law_bank ex [.dat (nums ds), .dat (.int n)] k C :=
  wk_of (c := c_l_law_bank) (ds, n) _ rfl h (fun _ h => h) (fun _ _ h => h) q
theorem wk_l_law_wrong {bs : List (List Int)} {kd : Str} (h : Sz bs) (q : k (.dat (optI (faultOf bs kd))) C) : Wk c_l_law_wrong ex [.dat (rows bs), .dat (.str kd)] k C :=
  wk_of (c := c_l_law_wrong) (bs, kd) _ rfl h (fun _ h => h) (fun _ _ h => h) q
theorem wk_refusedA {w : Int} {bs : List (List Int)} {kd : Str} (h : (w = 0 ∨ w = 1) ∧ Sz bs) (q : k (.dat (optI (faultOf bs kd))) C) : Wk c_l_law_refused ex [.dat (.int w), .dat (cartD bs kd), .dat (.str ""), .dat (.list [])] k C :=
  wk_of (c := c_l_law_refused) (.cart w bs kd) _ rfl h (fun _ h => h) (fun _ _ h => h) q
theorem wk_refusedB {cd : List Int} {bs : List (List Int)} {kd : Str} (h : Sz bs ∧ bs.length ≤ 90 ∧ cd.length ≤ 1000) (q : k (.dat (optI (coFault cd kd bs))) C) : Wk c_l_law_refused ex [.dat (.int 2), .dat (nums cd), .dat (.str kd), .dat (rows bs)] k C :=
  wk_of (c := c_l_law_refused) (.code cd kd bs) _ rfl h (fun _ h => h) (fun _ _ h => h) q
theorem wk_l_law_faults {ds : List Int} {bs : List (List Int)} {kd : Str} (h : Dr ds ∧ (2 ≤ bs.length ∧ bs.length ≤ 8) ∧ ∀ b ∈ bs, b.length = 256) (q : k (.dat (.bool true)) C) : Wk c_l_law_faults ex [.dat (nums ds), .dat (rows bs), .dat (.str kd)] k C :=
  wk_of (c := c_l_law_faults) (ds, bs, kd) _ rfl h (fun _ h => h) (fun _ _ h => h) q
theorem find_hit {α : Type} {p : α → Bool} : ∀ {bs : List α} {i : Nat} {a : α}, (∀ x ∈ bs.take i, p x = false) → bs[i]? = some a → p a = true → bs.findIdx? p = some i
  | [], i, a, _, e, _ => by simp at e
  | b :: bs, 0, a, _, e, h => by
    simp at e
    subst e
    rw [List.findIdx?_cons, h]
    rfl
  | b :: bs, i + 1, a, h0, e, h => by
    rw [List.take_succ_cons] at h0
    rw [List.findIdx?_cons, h0 b List.mem_cons_self, find_hit (i := i) (fun x hx => h0 x (List.mem_cons_of_mem _ hx)) (by simpa using e) h]
    rfl
theorem find_none {α : Type} {p : α → Bool} {bs : List α} (h : ∀ x ∈ bs, p x = false) : bs.findIdx? p = none := List.findIdx?_eq_none_iff.mpr h
theorem find_take {α : Type} {p : α → Bool} {bs : List α} {i : Nat} {a : α} (h : ∀ x ∈ bs.take i, p x = false) (e : bs[i]? = some a) (ha : p a = false) : ∀ x ∈ bs.take (i + 1), p x = false := fun x hx => by
  rw [take_snoc e] at hx
  rcases List.mem_append.mp hx with z | z
  · exact h x z
  · rw [List.mem_singleton.mp z]; exact ha
theorem fault_kd {bs : List (List Int)} {kd : Str} (h : ((decide (2 ≤ bs.length) && decide (bs.length ≤ 8)) && kdOk kd) = false) : faultOf bs kd = some 0 := by
  unfold faultOf
  rw [h]
  rfl
theorem fault_in {bs : List (List Int)} {kd : Str} (h : ((decide (2 ≤ bs.length) && decide (bs.length ≤ 8)) && kdOk kd) = true) : faultOf bs kd = (bs.findIdx? fun b => !isBank b).map fun k => (k : Int) + 1 := by
  unfold faultOf
  rw [if_pos h]
theorem cart_banks {bs : List (List Int)} {kd : Str} : DL [(.str "banks", rows bs), (.str "kind", .str kd)] (.inr "banks") (rows bs) := DL.here (k := .inr "banks")
theorem cart_kind {bs : List (List Int)} {kd : Str} : DL [(.str "banks", rows bs), (.str "kind", .str kd)] (.inr "kind") (.str kd) := DL.next (k' := .inr "banks") (by decide) (DL.here (k := .inr "kind"))
theorem len_i {bs : List (List Int)} : (decide ((2 : Int) ≤ (bs.length : Int)) && decide ((bs.length : Int) ≤ 8)) = (decide (2 ≤ bs.length) && decide (bs.length ≤ 8)) := by
  congr 1 <;> exact decide_eq_decide.mpr (by omega)
end
section
variable {K : PySem.W.Frag} {mg : Str → Option Value}
theorem pure_is_bank (vs : List V) (H : Hp) (Q : VK) (E : XK) (h : c_is_bank.sp K vs H Q E) : t_is_bank K E { nx := fun _ H' => Q .non H', rt := Q } (L2.start N_is_bank vs) H := by
  refine Cp.body (N := N_is_bank) h fun B (i : List Int) e hp hX hB => ?_
  subst e
  have hp : i.length ≤ 5000 := hp
  unfold t_is_bank
  show Ws B _ [some (.dat (nums i)), none] [] [] _
  walk_at "sx"
  · refine we_lc1 i (fun x => .dat (.int x)) (fun x => .bool (decide (0 ≤ x) && decide (x < 256))) (Nat.le_trans hp (len_ok rfl)) (wsrc_list ?_)
    walk_at "sx"
    refine ⟨lv_map, fun x hx S' acc => ?_, ?_⟩ <;> walk_at "sx"
  refine rx_here ⟨_, rfl, ?_⟩
  rw [List.length_map, List.length_map]
  show PyData.bool _ = PyData.bool (isBank i)
  unfold isBank
  rw [decide_eq_decide.mpr (show ((i.length : Int) = 256) ↔ i.length = 256 by omega)]
theorem pure_check_cart (T : Tx K mg) (vs : List V) (H : Hp) (Q : VK) (E : XK) (h : (c_check_cart K).sp K vs H Q E) : t_check_cart K E { nx := fun _ H' => Q .non H', rt := Q } (L2.start N_check_cart vs) H := by
  refine Cp.body (N := N_check_cart) h fun B (i : List (List Int) × Str) e hp hX hB => ?_
  subst e
  obtain ⟨bs, kd⟩ := i
  have hp : Sz bs := hp
  have TS := T.x_BadCart.s
  unfold t_check_cart
  show Ws B _ [some (.dat (cartD bs kd)), none, none, none] [] [] _
  walk_at "sx"
  refine ⟨.inr "banks", _, rfl, .dat cart_banks, ?_⟩
  walk_at "sx"
  · refine ⟨.inr "kind", _, rfl, .dat cart_kind, ?_⟩
    refine we_kt (ds := [.str "plain", .str "switched"]) T.t_KINDS rfl ?_
    refine wr_inT rfl rfl (us := [.str "plain", .str "switched"]) rfl ?_
    exact ⟨_, rfl, rfl, rfl⟩
  rw [List.length_map, List.length_map, len_i]
  refine ⟨fun z => ?_, fun z => ?_⟩
  · walk_at "sx"
    refine ⟨rfl, fault_kd ?_⟩
    show ((decide (2 ≤ bs.length) && decide (bs.length ≤ 8)) && kdOk kd) = false
    cases h1 : (decide (2 ≤ bs.length) && decide (bs.length ≤ 8)) with
    | false => rfl
    | true =>
      rw [h1] at z
      have z' : (!kdOk kd) = true := z
      cases h2 : kdOk kd with
      | false => rfl
      | true => rw [h2] at z'; cases z'
  · have hf := fault_in (bs := bs) (kd := kd) (by
      cases h1 : (decide (2 ≤ bs.length) && decide (bs.length ≤ 8)) with
      | false => rw [h1] at z; cases z
      | true =>
        rw [h1] at z
        have z' : (!kdOk kd) = false := z
        cases h2 : kdOk kd with
        | false => rw [h2] at z'; cases z'
        | true => rfl)
    refine ws_next ?_
    refine ws_forED bs nums ?_
    walk_at "sx"
    refine ⟨rfl, fun (i : Nat) (g : Gs) (C : Cs) => ∃ a b, g = [some (.dat (cartD bs kd)), some (.dat (rows bs)), a, b] ∧ C = [] ∧ ∀ x ∈ bs.take i, (!isBank x) = false, ⟨_, _, rfl, rfl, fun x hx => (by cases hx)⟩, ?_, ?_⟩
    · rintro i b g' C' hb ⟨a1, a2, rfl, rfl, h0⟩
      walk_at "sx"
      refine wk_is_bank (hp.2 b (List.mem_of_getElem? hb)) ?_
      walk_at "sx"
      refine ⟨fun z => ?_, fun z => ?_⟩
      · walk_at "sx"
        refine ⟨rfl, ?_⟩
        show faultOf bs kd = some ((i : Int) + 1)
        rw [hf, find_hit (p := fun b => !isBank b) h0 hb z]
        rfl
      · exact ws_next (nx_here ⟨_, _, rfl, rfl, find_take (p := fun b => !isBank b) h0 hb z⟩)
    · rintro g' C' ⟨a1, a2, rfl, rfl, h0⟩
      rw [List.take_length] at h0
      refine ⟨rfl, ?_⟩
      show faultOf bs kd = none
      rw [hf, find_none (p := fun b => !isBank b) h0]
      rfl
theorem pure_cart_of (T : Tx K mg) (vs : List V) (H : Hp) (Q : VK) (E : XK) (h : (c_cart_of K).sp K vs H Q E) : t_cart_of K E { nx := fun _ H' => Q .non H', rt := Q } (L2.start N_cart_of vs) H := by
  refine Cp.body (N := N_cart_of) h fun B (i : Str × List Int × List (List Int)) e hp hX hB => ?_
  subst e
  obtain ⟨kd, code, more⟩ := i
  have hp : Sz more ∧ more.length ≤ 90 ∧ code.length ≤ 1000 := hp
  have TS := T.x_BadCart.s
  unfold t_cart_of
  show Ws B _ [some (.dat (.str kd)), some (.dat (nums code)), some (.dat (rows more)), none, none, none, none] [] [] _
  walk_at "sx"
  rw [List.length_map, List.length_map]
  refine ⟨fun z => ?_, fun z => ?_⟩
  · have z := of_decide_eq_true z
    walk_at "sx"
    refine ⟨rfl, ?_⟩
    show coFault code kd more = some 0
    unfold coFault
    rw [if_pos (by omega)]
  · have z := of_decide_eq_false z
    have hco : coFault code kd more = faultOf (more ++ [lastOf code]) kd := by
      unfold coFault
      rw [if_neg (by omega)]
    refine ws_next ?_
    walk_at "sx"
    rw [List.length_map, List.length_map]
    refine wr_timesL .dat (by omega) (by omega) (Nat.le_trans (by simp; omega) (len_ok (n := 1000) rfl)) ?_
    have er : (List.replicate (250 - (code.length : Int)).toNat [PyData.int 0]).flatten = (List.replicate (250 - code.length) (0 : Int)).map PyData.int := by
      have e1 : (250 - (code.length : Int)).toNat = 250 - code.length := by omega
      rw [e1]
      induction (250 - code.length) with
      | zero => rfl
      | succ n ih => rw [List.replicate_succ, List.flatten_cons, ih, List.replicate_succ]; rfl
    rw [er]
    walk_at "sx"
    refine we_lst ?_
    walk_at "sx"
    refine ⟨(lastOf code).map PyData.int, by simp [lastOf], Nat.le_trans (by simp [lastOf]; omega) (len_ok (n := 3000) rfl), ?_⟩
    walk_at "sx"
    refine we_disp (C := []) ?_
    walk_at "sx"
    refine we_lst ?_
    walk_at "sx"
    refine we_lc1 more (fun b => .dat (nums b)) nums (Nat.le_trans hp.2.1 (len_ok rfl)) (wsrc_list ?_)
    walk_at "sx"
    refine ⟨lv_map, fun x hx S' acc => ?_, ?_⟩
    · walk_at "sx"
    walk_at "sx"
    refine ⟨(more ++ [lastOf code]).map nums, by simp, Nat.le_trans (by simp; omega) (len_ok (n := 100) rfl), ?_⟩
    walk_at "sx"
    refine ⟨rfl, cartKv (more ++ [lastOf code]) kd, rfl, (show 2 ≤ 15 by decide), (show ([.inr "banks", .inr "kind"] : List Key).Nodup by decide), ?_⟩
    walk_at "sx"
    refine ws_drop ?_
    walk_at "sx"
    have hs : Sz (more ++ [lastOf code]) := ⟨by simp; omega, fun b hb => by
      rcases List.mem_append.mp hb with h | h
      · exact hp.1.2 b h
      · rw [List.mem_singleton.mp h]; simp [lastOf]; omega⟩
    refine wk_check_cart hs (fun h => ?_) (fun n h => ⟨rfl, hco.trans h⟩)
    walk_at "sx"
    exact rx_here ⟨_, rfl, hco.trans h⟩
theorem pure_SlotU_initU (T : Tx K mg) (vs : List V) (H : Hp) (Q : VK) (E : XK) (h : (c_SlotU_initU K).sp K vs H Q E) : t_SlotU_initU K E { nx := fun _ H' => Q .non H', rt := Q } (L2.start N_SlotU_initU vs) H := by
  refine Ct.body (N := N_SlotU_initU) h fun B (i : Cs × SV × List (List Int) × Str) e hp hX hn => ?_
  subst e
  obtain ⟨cs, x, bs, kd⟩ := i
  have hp : Fz cs x (cartD bs kd) ∧ Sz bs := hp
  have hcl := T.c_Slot
  have n1 := T.n_Slot__banks
  have n2 := T.n_Slot__kind
  have n3 := T.n_Slot__chosen
  unfold t_SlotU_initU
  show Ws B _ [some (.ref cs.length), some (x), none] [] (cs ++ [some (.ins (He.ga B.K "Slot") [])]) _
  obtain ⟨hz, hs⟩ := hp
  have up : ∀ {c : Cell} {y : SV} {d : D}, Fz cs y d → Fz (cs ++ [some c]) y d := fun h => h.mono fun i c e => by rw [List.getElem?_append_left (List.getElem?_eq_some_iff.mp e).1]; exact e
  have here : ∀ {c : Cell}, (cs ++ [some c])[cs.length]? = some (some c) := by simp
  have wr : ∀ {c d : Cell}, (cs ++ [some c]).set cs.length (some d) = cs ++ [some d] := by simp
  obtain ⟨s1, d1, f1⟩ := fz_get (up (c := .ins (He.ga B.K "Slot") []) hz) cart_banks
  obtain ⟨ys, l1, f2⟩ := fz_list f1
  obtain ⟨ye, yz⟩ := fza_zip f2
  obtain ⟨s2, d2, f3⟩ := fz_get (up (c := .ins (He.ga B.K "Slot") [("_banks", .dat (rows bs))]) hz) cart_kind
  have f4 := fz_str f3
  subst f4
  walk_at "sx"
  refine ws_drop (we_callB hX (wa_cons (we_var rfl (wa_nil ⟨(bs, kd), [cartD bs kd], rfl, .cons (up hz) .nil, hs, fun d hd => ?_, fun cls n h => h⟩))))
  obtain ⟨ed, hf⟩ : d = .none ∧ faultOf bs kd = none := hd
  subst ed
  refine ⟨rfl, ?_⟩
  walk_at "sx"
  refine we_lc1 (ys.zip bs) (fun p => p.1) (fun p => nums p.2) (Nat.le_trans (by rw [List.length_zip, ye, Nat.min_self]; exact hs.1) (len_ok (n := 100) rfl)) (wsrc_list ?_)
  walk_at "sx"
  refine ⟨.inr "banks", _, rfl, d1, ?_⟩
  rw [zip_fst ye]
  refine ⟨l1, fun p hp S' acc => ?_, ?_⟩
  · walk_at "sx"
    refine wc_list (fz_nums (yz p hp)).more ?_
    exact ⟨rfl, rfl⟩
  rw [zip_snd nums ye]
  walk_at "sx"
  refine ⟨_, _, _, rfl, here, .new, (show 0 < 1000 by decide), ?_⟩
  rw [wr]
  walk_at "sx"
  refine ⟨.inr "kind", _, rfl, d2, ?_⟩
  walk_at "sx"
  refine ⟨_, _, _, rfl, here, .next (by decide) .new, (show 1 < 1000 by decide), ?_⟩
  rw [wr]
  walk_at "sx"
  refine ⟨_, _, _, rfl, here, .next (by decide) (.next (by decide) .new), (show 2 < 1000 by decide), ?_⟩
  rw [wr]
  exact ⟨rfl, hf, rfl⟩
theorem pure_Slot_chosen (T : Tx K mg) (vs : List V) (H : Hp) (Q : VK) (E : XK) (h : (c_Slot_chosen K).sp K vs H Q E) : t_Slot_chosen K E { nx := fun _ H' => Q .non H', rt := Q } (L2.start N_Slot_chosen vs) H := by
  refine Ct.body (N := N_Slot_chosen) h fun B (i : Cs × Nat × St) e hp hX hn => ?_
  subst e
  obtain ⟨cs, n, t⟩ := i
  have hp : cs[n]? = some (some (t.cell B.K)) := hp
  have hcl := T.c_Slot
  have n1 := T.n_Slot__banks
  have n2 := T.n_Slot__kind
  have n3 := T.n_Slot__chosen
  unfold t_Slot_chosen
  show Ws B _ [some (.ref n)] [] (cs) _
  walk_at "sx"
  refine ⟨_, _, _, rfl, hp, .next (by decide) (.next (by decide) .here), ?_⟩
  exact rx_here ⟨rfl, rfl⟩
theorem pure_Slot_choose (T : Tx K mg) (vs : List V) (H : Hp) (Q : VK) (E : XK) (h : (c_Slot_choose K).sp K vs H Q E) : t_Slot_choose K E { nx := fun _ H' => Q .non H', rt := Q } (L2.start N_Slot_choose vs) H := by
  refine Ct.body (N := N_Slot_choose) h fun B (i : Cs × Nat × St × Int) e hp hX hn => ?_
  subst e
  obtain ⟨cs, n, t, ch⟩ := i
  have hp : cs[n]? = some (some (t.cell B.K)) := hp
  have hcl := T.c_Slot
  have n1 := T.n_Slot__banks
  have n2 := T.n_Slot__kind
  have n3 := T.n_Slot__chosen
  unfold t_Slot_choose
  show Ws B _ [some (.ref n), some (.dat (.int ch))] [] (cs) _
  walk_at "sx"
  exact ⟨_, _, _, rfl, hp, .next (by decide) (.next (by decide) .here), (show 3 < 1000 by decide), rfl, rfl⟩
theorem pure_Slot_write (T : Tx K mg) (vs : List V) (H : Hp) (Q : VK) (E : XK) (h : (c_Slot_write K).sp K vs H Q E) : t_Slot_write K E { nx := fun _ H' => Q .non H', rt := Q } (L2.start N_Slot_write vs) H := by
  refine Ct.body (N := N_Slot_write) h fun B (i : Cs × Nat × St × Int × Int) e hp hX hn => ?_
  subst e
  obtain ⟨cs, n, t, ad, byte⟩ := i
  have hp : cs[n]? = some (some (t.cell B.K)) ∧ t.Ok := hp
  have hcl := T.c_Slot
  have n1 := T.n_Slot__banks
  have n2 := T.n_Slot__kind
  have n3 := T.n_Slot__chosen
  unfold t_Slot_write
  show Ws B _ [some (.ref n), some (.dat (.int ad)), some (.dat (.int byte))] [] (cs) _
  obtain ⟨hc, ok⟩ := hp
  have hset : cs.set n (some (t.cell B.K)) = cs := by
    refine List.ext_getElem? fun m => ?_
    by_cases hm : n = m
    · subst hm
      rw [List.getElem?_set_self (List.getElem?_eq_some_iff.mp hc).1, hc]
    · rw [List.getElem?_set_ne hm]
  walk_at "sx"
  refine ⟨_, _, _, rfl, hc, .next (by decide) .here, ?_⟩
  walk_at "sx"
  · refine wr_inT rfl rfl (us := [.int 128, .int 129]) rfl ?_
    exact ⟨_, rfl, rfl, rfl⟩
  refine ⟨fun z => ?_, fun z => ?_⟩
  · walk_at "sx"
    refine ⟨_, _, _, rfl, hc, .here, ?_⟩
    walk_at "sx"
    rw [List.length_map, List.length_map]
    have := ok.n1
    refine wr_md (by omega) ?_
    walk_at "sx"
    refine ⟨_, _, _, rfl, hc, .next (by decide) (.next (by decide) .here), (show 3 < 1000 by decide), rfl, ?_⟩
    have e : wroteI t ad byte = byte % (t.bs.length : Int) := by
      unfold wroteI
      exact if_pos z
    rw [e]
  · refine ws_next ⟨rfl, ?_⟩
    have e : wroteI t ad byte = t.ch := by
      unfold wroteI
      exact if_neg (by rw [show wroteB t.kd (ad / 256) = false from z]; decide)
    show cs = cs.set n (some (slotC B.K t.bs t.kd (wroteI t ad byte)))
    rw [e]
    exact hset.symm
theorem pure_Slot_read (T : Tx K mg) (vs : List V) (H : Hp) (Q : VK) (E : XK) (h : (c_Slot_read K).sp K vs H Q E) : t_Slot_read K E { nx := fun _ H' => Q .non H', rt := Q } (L2.start N_Slot_read vs) H := by
  refine Ct.body (N := N_Slot_read) h fun B (i : Cs × Nat × St × Int) e hp hX hn => ?_
  subst e
  obtain ⟨cs, n, t, ad⟩ := i
  have hp : cs[n]? = some (some (t.cell B.K)) ∧ t.Ok := hp
  have hcl := T.c_Slot
  have n1 := T.n_Slot__banks
  have n2 := T.n_Slot__kind
  have n3 := T.n_Slot__chosen
  unfold t_Slot_read
  show Ws B _ [some (.ref n), some (.dat (.int ad)), none] [] (cs) _
  obtain ⟨hc, ok⟩ := hp
  have o1 := ok.n1
  have o2 := ok.c0
  have o3 := ok.c1
  have m0 := Int.emod_nonneg ad (b := 256) (by decide)
  have m1 := Int.emod_lt_of_pos ad (b := 256) (by decide)
  walk_at "sx"
  refine we_ifJ ?_
  walk_at "sx"
  · refine ⟨_, _, _, rfl, hc, .here, ?_⟩
    walk_at "sx"
    refine ⟨_, _, _, rfl, hc, .next (by decide) (.next (by decide) .here), ?_⟩
    exact wr_ixM (f := nums) [] o2 o3 ⟨rfl, rfl⟩
  · walk_at "sx"
    refine ⟨_, _, _, rfl, hc, .here, ?_⟩
    walk_at "sx"
    exact wr_ixML (f := nums) [] (by omega) ⟨rfl, rfl⟩
  have ej : (if decide (ad / 256 = 128) then nums (t.bs.getD t.ch.toNat []) else nums (t.bs.getD (t.bs.length - 1) [])) = nums (if ad / 256 = 128 then t.bs.getD t.ch.toNat [] else lastB t.bs) := by
    by_cases h : ad / 256 = 128
    · rw [if_pos h, decide_eq_true h]; rfl
    · rw [if_neg h, decide_eq_false h]; rfl
  rw [ej]
  have hl : (if ad / 256 = 128 then t.bs.getD t.ch.toNat [] else lastB t.bs).length = 256 := by
    split
    · rw [List.getD_eq_getElem?_getD, List.getElem?_eq_getElem (by omega)]
      exact ok.len _ (List.getElem_mem _)
    · unfold lastB
      rw [List.getD_eq_getElem?_getD, List.getElem?_eq_getElem (by omega)]
      exact ok.len _ (List.getElem_mem _)
  walk_at "sx"
  refine wr_ixM (f := PyData.int) (0 : Int) m0 (by rw [hl]; exact m1) ?_
  exact rx_here ⟨rfl, rfl⟩
theorem pure_Slot_cart (T : Tx K mg) (vs : List V) (H : Hp) (Q : VK) (E : XK) (h : (c_Slot_cart K).sp K vs H Q E) : t_Slot_cart K E { nx := fun _ H' => Q .non H', rt := Q } (L2.start N_Slot_cart vs) H := by
  refine Ct.body (N := N_Slot_cart) h fun B (i : Cs × Nat × St) e hp hX hn => ?_
  subst e
  obtain ⟨cs, n, t⟩ := i
  have hp : cs[n]? = some (some (t.cell B.K)) ∧ Sz t.bs := hp
  have hcl := T.c_Slot
  have n1 := T.n_Slot__banks
  have n2 := T.n_Slot__kind
  have n3 := T.n_Slot__chosen
  unfold t_Slot_cart
  show Ws B _ [some (.ref n), none] [] (cs) _
  obtain ⟨hc, hs⟩ := hp
  have up : (cs ++ [some (.dct [])])[n]? = some (some (t.cell B.K)) := by rw [List.getElem?_append_left (List.getElem?_eq_some_iff.mp hc).1]; exact hc
  have up2 : (newC (cs ++ [some (.dct [])]) t.bs bankC)[n]? = some (some (t.cell B.K)) := by unfold newC; rw [List.getElem?_append_left (List.getElem?_eq_some_iff.mp up).1]; exact up
  walk_at "sx"
  refine we_dispC ?_
  walk_at "sx"
  refine we_lcN t.bs (fun b => .dat (nums b)) bankC (Nat.le_trans hs.1 (len_ok rfl)) ?_
  refine wi_list ?_
  walk_at "sx"
  refine ⟨_, _, _, rfl, up, .here, ?_⟩
  refine ⟨_, lv_map, rfl, fun L => lv_map, fun i b hb => ?_, ?_⟩
  · refine' wgw_name ?hj ?_
    case hj => decide
    refine ⟨rfl, ?_⟩
    refine we_cb (wa_cons (we_var rfl (wa_nil ?_)))
    refine wc_listC .dat ?_
    exact ⟨rfl, rfl⟩
  walk_at "sx"
  refine ⟨_, _, _, rfl, up2, .next (by decide) .here, ?_⟩
  walk_at "sx"
  refine ⟨by unfold newC; rw [List.getElem?_append_left (by simp)]; simp, (show 2 ≤ 15 by decide), (show ([.inr "banks", .inr "kind"] : List Key).Nodup by decide), ?_⟩
  walk_at "sx"
  refine rx_here ⟨rfl, ?_⟩
  show _ = cartC cs t.bs t.kd
  unfold cartC
  rw [List.length_append, List.length_singleton]
end
end K01

set_option Elab.async false
set_option linter.all false
set_option maxRecDepth 100000
set_option maxHeartbeats 1000000
namespace K01
open PySem PySem.Spec PyProof.Rows L2 Sy
local macro_rules | `(tactic| walk_at "s1") => `(tactic| first
  | ((with_reducible refine' we_var ?hv ?_); (case hv => rfl)) | with_reducible refine we_isTup ?_
  | ((with_reducible refine' we_fld ?hc ?hn ?_); (case hc => assumption); (case hn => assumption)) | with_reducible refine we_dget ?_ | ((with_reducible refine' ws_sfld ?hc ?hn ?_); (case hc => assumption); (case hn => assumption))
  | with_reducible refine wps_str ?_ | with_reducible refine wps_nil ?_
  | with_reducible refine we_int ?_ | with_reducible refine we_op ?_ | with_reducible refine we_cb ?_ | with_reducible refine wa_cons ?_ | with_reducible refine wa_nil ?_
  | with_reducible refine wr_plus ?_ | with_reducible refine wr_sb ?_ | ((with_reducible refine wr_md ?hc ?_); (case hc => decide)) | ((with_reducible refine wr_dv ?hc ?_); (case hc => exact ⟨by decide, by decide⟩))
  | ((with_reducible refine wr_times ?hc ?_); (case hc => first | exact cmul_r (by decide) (by decide) | exact cmul_l (by decide) (by decide)))
  | ((with_reducible refine wr_pw ?hc ?_); (case hc => exact ⟨by decide, by decide, by decide⟩))
  | with_reducible refine wr_lt ?_ | with_reducible refine wr_le ?_ | with_reducible refine wr_gt ?_ | with_reducible refine wr_ge ?_ | with_reducible refine wr_eqI ?_ | with_reducible refine wr_neI ?_ | with_reducible refine wr_eqS ?_ | with_reducible refine wr_neS ?_
  | with_reducible refine we_str ?_ | with_reducible refine we_bl ?_ | with_reducible refine we_non ?_
  | with_reducible refine wc_int ?_ | with_reducible refine wc_intB ?_ | with_reducible refine wc_abs ?_ | with_reducible refine wc_min2 ?_ | with_reducible refine wc_max2 ?_ | with_reducible refine wc_lenScr ?_
  | ((with_reducible refine' wc_len (.cell ?hl) ?_); (case hl => rfl)) | with_reducible refine wc_len .dat ?_ | with_reducible refine wc_lenT ?_
  | with_reducible refine ws_asgG ?_ | refine wg_tup rfl ?_ | refine wgs_cons ?_ | refine wgs_nil ?_ | with_reducible refine wg_name ?_ | ((with_reducible refine' wgw_name ?hj ?_); (case hj => decide)) | refine wgw_tup rfl ?_ | refine wgsw_cons ?_ | refine wgsw_nil ?_
  | with_reducible refine wt_test ?_ | with_reducible refine wt_B ?_ | with_reducible refine wt_not ?_
  | with_reducible refine ws_seq ?_ | with_reducible refine ws_asg ?_ | with_reducible refine ws_ret ?_ | with_reducible refine ws_if ?_ | with_reducible refine ws_par ?_ | with_reducible refine ws_par3 ?_
  | with_reducible refine we_chLL ?_ | with_reducible refine we_chLE ?_ | with_reducible refine we_ng ?_ | with_reducible refine we_notV ?_
  | with_reducible refine wt_and ?_ | with_reducible refine wt_or ?_ | with_reducible refine we_andV ?_ | with_reducible refine we_orV ?_ | with_reducible refine wr_isN ?_ | with_reducible refine wr_notN ?_
  | with_reducible refine we_tupX ?_ | with_reducible refine we_lstX ?_ | ((with_reducible refine' we_callW ?hX ?_); (case hX => assumption)) | with_reducible refine we_callN ?_
  | ((with_reducible refine' ws_raise ?hX ?hT ?_); (case hX => assumption); (case hT => assumption)) | with_reducible refine wc_tuple .dat ?_ | with_reducible refine wc_list .dat ?_ | with_reducible refine wc_listT ?_ | with_reducible refine wl_tupA ?_ | with_reducible refine wr_isB ?_ | with_reducible refine wr_notB ?_ | with_reducible refine we_sortedSet ?_ | with_reducible refine we_lenSet ?_
  | (with_reducible apply Exists.intro; with_reducible refine And.intro ?ds (And.intro ?ln ?_); (case ds => repeat (first | exact DS.nil | apply DS.cons)); (case ln => exact len_ok rfl))
  | (with_reducible apply Exists.intro; with_reducible refine And.intro (fun _ => ?_) ?_)
  | (with_reducible apply Exists.intro; with_reducible apply Exists.intro; with_reducible refine And.intro rfl (And.intro (fun _ => ?_) ?_))
  | (apply Exists.intro; apply Exists.intro; apply Exists.intro; with_reducible refine And.intro rfl (And.intro rfl (And.intro ?_ ?_)))
  | with_reducible refine wc_allM ?_ | with_reducible refine wc_anyM ?_ | with_reducible refine wc_sumM ?_ | with_reducible exact lv_map
  | with_reducible refine wa_star ?_ | with_reducible refine we_sl ?_ | with_reducible refine wo_some ?_ | with_reducible refine wo_no ?_ | with_reducible refine wl_q .dat ?_ | ((with_reducible refine' wl_q (.cell ?hl) ?_); (case hl => rfl)) | with_reducible refine ⟨_, .dat, ?_⟩
  | (with_reducible apply Exists.intro; with_reducible apply Exists.intro; with_reducible refine And.intro (fun _ => ?_) (And.intro (fun _ => ?_) ?_))
  | with_reducible exact ⟨rfl, rfl⟩
  | with_reducible refine ⟨_, rfl, ?_⟩ | with_reducible refine ⟨_, _, rfl, ?_⟩ | with_reducible refine ⟨_, _, _, rfl, ?_⟩)
local macro_rules | `(tactic| walk_at "sx") => `(tactic| repeat (walk_at "s1"))
local macro_rules | `(tactic| walk_at "rx") => `(tactic| (show Rx _ _ _ _; refine rx_here ⟨_, rfl, ?_⟩))
local macro_rules | `(tactic| walk_at "mx") => `(tactic| first
  | (with_reducible refine wk_mixG ?hd ?hm (fun _ _ => ?_); (case hd => assumption); (case hm => first | omega | (split <;> omega)))
  | (refine' wr_ixG ?il ?h0 ?h1 (fun _ hm => ?_); (case il => repeat (first | exact IL.nil | apply IL.cons)); (case h0 => first | omega | (split <;> omega)); (case h1 => simp only [List.length_cons, List.length_nil]; first | omega | (split <;> omega)); (simp only [List.mem_cons, List.not_mem_nil, or_false] at hm))
  | walk_at "s1")
local macro_rules | `(tactic| walk_at "sm") => `(tactic| repeat (walk_at "mx"))
local macro_rules | `(tactic| walk_at "sa") => `(tactic| repeat (first | with_reducible refine ws_ifA ?_ | (with_reducible apply Exists.intro; with_reducible apply Exists.intro; refine And.intro rfl (And.intro (fun _ => ?_) ?_)) | walk_at "s1"))
section
variable {K : PySem.W.Frag} {mg : Str → Option Value}
theorem bad_emp (b : List Int) : ((b.filter fun x => !(decide (0 ≤ x) && decide (x ≤ 255))).map fun x => PyData.int x).isEmpty = b.all fun x => decide (0 ≤ x) && decide (x < 256) := by
  induction b with
  | nil => rfl
  | cons x r ih =>
    have e : decide (x < 256) = decide (x ≤ 255) := decide_eq_decide.mpr (by omega)
    rw [List.all_cons, e, ← ih]
    cases h : (decide (0 ≤ x) && decide (x ≤ 255)) with
    | true => rw [List.filter_cons_of_neg (by rw [h]; decide), Bool.true_and]
    | false => rw [List.filter_cons_of_pos (by rw [h]; rfl), Bool.false_and]; rfl
theorem badB (b : List Int) : (!decide ((((b.map PyData.int).map SV.dat).length : Int) = 256) || !((b.filter fun x => !(decide (0 ≤ x) && decide (x ≤ 255))).map fun x => PyData.int x).isEmpty) = !isBank b := by
  rw [bad_emp, List.length_map, List.length_map, decide_eq_decide.mpr (show ((b.length : Int) = 256) ↔ b.length = 256 by omega), ← Bool.not_and]
  rfl
theorem pure_l_law_refused (T : Tx K mg) (vs : List V) (H : Hp) (Q : VK) (E : XK) (h : c_l_law_refused.sp K vs H Q E) : t_l_law_refused K E { nx := fun _ H' => Q .non H', rt := Q } (L2.start N_l_law_refused vs) H := by
  refine Cp.bodyX (N := N_l_law_refused) h fun B (i : RefI) e hp hX hB hF => ?_
  subst e
  cases i with
  | cart w bs kd =>
    have hp : (w = 0 ∨ w = 1) ∧ Sz bs := hp
    obtain ⟨hw, hs⟩ := hp
    unfold t_l_law_refused
    show Ws B _ [some (.dat (.int w)), some (.dat (cartD bs kd)), some (.dat (.str "")), some (.dat (.list [])), none] [] [] _
    refine ws_seq (ws_tryL (fun cls n => cls = He.ga B.K "BadCart" ∧ faultOf bs kd = some n) hB hF (fun cls n x => ?_) (fun W hW => ?_))
    · obtain ⟨e1, e2⟩ := x
      subst e1
      refine Hit.hereA T.e_BadCart_BadCart (show 4 < 5 by decide) ⟨_, rfl, ?_⟩
      show PyData.int n = optI (faultOf bs kd)
      rw [e2]
      rfl
    · unfold tb_l_law_refused
      walk_at "sx"
      refine ⟨fun _ => ?_, fun y => ?_⟩
      · refine ws_drop ?_
        walk_at "sx"
        refine wk_check_cart hs (fun hf => ?_) (fun n h => ⟨rfl, h⟩)
        walk_at "sx"
        exact rx_here ⟨_, rfl, by show PyData.none = optI (faultOf bs kd); rw [hf]; rfl⟩
      · walk_at "sx"
        refine ⟨fun _ => ?_, fun z => ?_⟩
        · refine ws_drop (we_makeA hW (wa_cons (we_var rfl (wa_nil ⟨([], .dat (cartD bs kd), bs, kd), rfl, rfl, Live.nil.snoc, ⟨.dat, hs⟩, fun s C' q => ?_, fun cls n h => h⟩))))
          obtain ⟨q1, q2, q3⟩ : s = .dat .none ∧ faultOf bs kd = none ∧ C' = [] ++ [some (slotC B.K bs kd 0)] := q
          subst q1 q3
          refine ⟨rfl, ?_⟩
          walk_at "sx"
          exact rx_here ⟨_, rfl, by show PyData.none = optI (faultOf bs kd); rw [q2]; rfl⟩
        · exfalso
          have z := of_decide_eq_false z
          have y := of_decide_eq_false y
          omega
  | code cd kd more =>
    have hp : Sz more ∧ more.length ≤ 90 ∧ cd.length ≤ 1000 := hp
    unfold t_l_law_refused
    show Ws B _ [some (.dat (.int 2)), some (.dat (nums cd)), some (.dat (.str kd)), some (.dat (rows more)), none] [] [] _
    refine ws_seq (ws_tryL (fun cls n => cls = He.ga B.K "BadCart" ∧ coFault cd kd more = some n) hB hF (fun cls n x => ?_) (fun W hW => ?_))
    · obtain ⟨e1, e2⟩ := x
      subst e1
      refine Hit.hereA T.e_BadCart_BadCart (show 4 < 5 by decide) ⟨_, rfl, ?_⟩
      show PyData.int n = optI (coFault cd kd more)
      rw [e2]
      rfl
    · unfold tb_l_law_refused
      walk_at "sx"
      refine ⟨fun z => ?_, fun _ => ?_⟩
      · exact absurd (of_decide_eq_true z) (by decide)
      walk_at "sx"
      refine ⟨fun z => ?_, fun _ => ?_⟩
      · exact absurd (of_decide_eq_true z) (by decide)
      refine ws_drop ?_
      walk_at "sx"
      refine wk_cart_of hp (fun hf d => ?_) (fun n h => ⟨rfl, h⟩)
      walk_at "sx"
      exact rx_here ⟨_, rfl, by show PyData.none = optI (coFault cd kd more); rw [hf]; rfl⟩
theorem pure_l_law_bank (vs : List V) (H : Hp) (Q : VK) (E : XK) (h : c_l_law_bank.sp K vs H Q E) : t_l_law_bank K E { nx := fun _ H' => Q .non H', rt := Q } (L2.start N_l_law_bank vs) H := by
  refine Cp.body (N := N_l_law_bank) h fun B (i : List Int × Int) e hp hX hB => ?_
  subst e
  obtain ⟨ds, n⟩ := i
  have hp : Dr ds ∧ 0 ≤ n ∧ n < 1000000 := hp
  unfold t_l_law_bank
  show Ws B _ [some (.dat (nums ds)), some (.dat (.int n)), none] [] [] _
  walk_at "sx"
  refine we_lc1 (rng 0 256) (fun x => .dat (.int x)) (fun t => .int ((mix ds n 256 * (t + 1) + t * t) % 256)) (len_ok rfl) (wsrc_rng1 ?_)
  walk_at "sx"
  refine ⟨rfl, ⟨by decide, by decide⟩, fun t ht S' acc => ?_, ?_⟩
  · have ht := mem_rng ht
    walk_at "sx"
    refine wk_mix hp.1 ⟨hp.2.1, hp.2.2, by decide⟩ ?_
    walk_at "sx"
    refine wr_times (cmul_r (by omega) (by omega)) ?_
    walk_at "sx"
    refine wr_times (cmul_r (by omega) (by omega)) ?_
    walk_at "sx"
  refine rx_here ⟨_, rfl, ?_⟩
  show PyData.list _ = PyData.list ((bankOf ds n).map PyData.int)
  unfold bankOf
  rw [List.map_map]
  rfl
theorem pure_l_law_wrong (vs : List V) (H : Hp) (Q : VK) (E : XK) (h : c_l_law_wrong.sp K vs H Q E) : t_l_law_wrong K E { nx := fun _ H' => Q .non H', rt := Q } (L2.start N_l_law_wrong vs) H := by
  refine Cp.body (N := N_l_law_wrong) h fun B (i : List (List Int) × Str) e hp hX hB => ?_
  subst e
  obtain ⟨bs, kd⟩ := i
  have hp : Sz bs := hp
  unfold t_l_law_wrong
  show Ws B _ [some (.dat (rows bs)), some (.dat (.str kd)), none, none] [] [] _
  walk_at "sx"
  · refine wr_inL rfl rfl .dat (us := [.str "plain", .str "switched"]) rfl ?_
    exact ⟨_, rfl, rfl, rfl⟩
  rw [List.length_map, List.length_map, len_i]
  refine ⟨fun z => ?_, fun z => ?_⟩
  · walk_at "sx"
    refine rx_here ⟨_, rfl, ?_⟩
    show PyData.int 0 = optI (faultOf bs kd)
    rw [fault_kd]
    · rfl
    cases h1 : (decide (2 ≤ bs.length) && decide (bs.length ≤ 8)) with
    | false => rfl
    | true =>
      rw [h1] at z
      have z' : (!kdOk kd) = true := z
      cases h2 : kdOk kd with
      | false => rfl
      | true => rw [h2] at z'; cases z'
  · have hf := fault_in (bs := bs) (kd := kd) (by
      cases h1 : (decide (2 ≤ bs.length) && decide (bs.length ≤ 8)) with
      | false => rw [h1] at z; cases z
      | true =>
        rw [h1] at z
        have z' : (!kdOk kd) = false := z
        cases h2 : kdOk kd with
        | false => rw [h2] at z'; cases z'
        | true => rfl)
    refine ws_next ?_
    walk_at "sx"
    refine ws_for1 ?_
    walk_at "sx"
    rw [List.length_map, List.length_map]
    have hl := hp.1
    refine ⟨⟨by omega, by omega⟩, fun (i : Nat) (g : Gs) (C : Cs) => ∃ a b, g = [some (.dat (rows bs)), some (.dat (.str kd)), a, b] ∧ C = [] ∧ i ≤ bs.length ∧ ∀ x ∈ bs.take i, (!isBank x) = false, ⟨_, _, rfl, rfl, Nat.zero_le _, fun x hx => (by cases hx)⟩, ?_, ?_⟩
    · rintro i g' C' hi ⟨a1, a2, rfl, rfl, hi2, h0⟩
      have hlt : i < bs.length := by omega
      have hb : bs[i]? = some bs[i] := List.getElem?_eq_getElem hlt
      have eb : bs.getD (i : Int).toNat [] = bs[i] := by rw [Int.toNat_natCast, List.getD_eq_getElem?_getD, hb]; rfl
      walk_at "sx"
      refine wr_ixM (f := nums) [] (by omega) (by omega) ?_
      rw [eb]
      have hbl := hp.2 _ (List.mem_of_getElem? hb)
      walk_at "sx"
      · refine we_lc1F bs[i] (fun x => .dat (.int x)) (fun x => !(decide (0 ≤ x) && decide (x ≤ 255))) (fun x => .int x) (Nat.le_trans hbl (len_ok rfl)) (wsrc_list ?_)
        walk_at "sx"
        refine wr_ixM (f := nums) [] (by omega) (by omega) ?_
        rw [eb]
        refine ⟨lv_map, fun x hx S' acc => ?_, fun x hx hpx S' acc => ?_, ?_⟩
        · walk_at "sx"
        · walk_at "sx"
        refine we_lst (wa_nil ⟨[], rfl, Nat.zero_le _, ?_⟩)
        refine wr_neD (shaped_of (n := 1) (shp_list (shp_map fun x => shp_int)) (by decide)) (shaped_of (n := 1) (shp_list shp_nil) (by decide)) ?_
        rw [eqv_nil]
        exact ⟨_, rfl, rfl, rfl⟩
      rw [badB]
      refine ⟨fun z => ?_, fun z => ?_⟩
      · walk_at "sx"
        refine rx_here ⟨_, rfl, ?_⟩
        show PyData.int ((i : Int) + 1) = optI (faultOf bs kd)
        rw [hf, find_hit (p := fun b => !isBank b) h0 hb z]
        rfl
      · exact ws_next (nx_here ⟨_, _, rfl, rfl, hlt, find_take (p := fun b => !isBank b) h0 hb z⟩)
    · rintro g' C' ⟨a1, a2, rfl, rfl, hi2, h0⟩
      walk_at "sx"
      refine rx_here ⟨_, rfl, ?_⟩
      show PyData.none = optI (faultOf bs kd)
      rw [hf, find_none (p := fun b => !isBank b)]
      · rfl
      intro x hx
      exact h0 x (by rw [Int.toNat_natCast, List.take_length]; exact hx)
end
end K01

set_option Elab.async false
set_option linter.all false
set_option maxRecDepth 100000
set_option maxHeartbeats 1000000
namespace K01
open PySem PySem.Spec PyProof.Rows L2 Sy
local macro_rules | `(tactic| walk_at "s1") => `(tactic| first
  | ((with_reducible refine' we_var ?hv ?_); (case hv => rfl)) | with_reducible refine we_isTup ?_
  | ((with_reducible refine' we_fld ?hc ?hn ?_); (case hc => assumption); (case hn => assumption)) | with_reducible refine we_dget ?_ | ((with_reducible refine' ws_sfld ?hc ?hn ?_); (case hc => assumption); (case hn => assumption))
  | with_reducible refine wps_str ?_ | with_reducible refine wps_nil ?_
  | with_reducible refine we_int ?_ | with_reducible refine we_op ?_ | with_reducible refine we_cb ?_ | with_reducible refine wa_cons ?_ | with_reducible refine wa_nil ?_
  | with_reducible refine wr_plus ?_ | with_reducible refine wr_sb ?_ | ((with_reducible refine wr_md ?hc ?_); (case hc => decide)) | ((with_reducible refine wr_dv ?hc ?_); (case hc => exact ⟨by decide, by decide⟩))
  | ((with_reducible refine wr_times ?hc ?_); (case hc => first | exact cmul_r (by decide) (by decide) | exact cmul_l (by decide) (by decide)))
  | ((with_reducible refine wr_pw ?hc ?_); (case hc => exact ⟨by decide, by decide, by decide⟩))
  | with_reducible refine wr_lt ?_ | with_reducible refine wr_le ?_ | with_reducible refine wr_gt ?_ | with_reducible refine wr_ge ?_ | with_reducible refine wr_eqI ?_ | with_reducible refine wr_neI ?_ | with_reducible refine wr_eqS ?_ | with_reducible refine wr_neS ?_
  | with_reducible refine we_str ?_ | with_reducible refine we_bl ?_ | with_reducible refine we_non ?_
  | with_reducible refine wc_int ?_ | with_reducible refine wc_intB ?_ | with_reducible refine wc_abs ?_ | with_reducible refine wc_min2 ?_ | with_reducible refine wc_max2 ?_ | with_reducible refine wc_lenScr ?_
  | ((with_reducible refine' wc_len (.cell ?hl) ?_); (case hl => rfl)) | with_reducible refine wc_len .dat ?_ | with_reducible refine wc_lenT ?_
  | with_reducible refine ws_asgG ?_ | refine wg_tup rfl ?_ | refine wgs_cons ?_ | refine wgs_nil ?_ | with_reducible refine wg_name ?_ | ((with_reducible refine' wgw_name ?hj ?_); (case hj => decide)) | refine wgw_tup rfl ?_ | refine wgsw_cons ?_ | refine wgsw_nil ?_
  | with_reducible refine wt_test ?_ | with_reducible refine wt_B ?_ | with_reducible refine wt_not ?_
  | with_reducible refine ws_seq ?_ | with_reducible refine ws_asg ?_ | with_reducible refine ws_ret ?_ | with_reducible refine ws_if ?_ | with_reducible refine ws_par ?_ | with_reducible refine ws_par3 ?_
  | with_reducible refine we_chLL ?_ | with_reducible refine we_chLE ?_ | with_reducible refine we_ng ?_ | with_reducible refine we_notV ?_
  | with_reducible refine wt_and ?_ | with_reducible refine wt_or ?_ | with_reducible refine we_andV ?_ | with_reducible refine we_orV ?_ | with_reducible refine wr_isN ?_ | with_reducible refine wr_notN ?_
  | with_reducible refine we_tupX ?_ | with_reducible refine we_lstX ?_ | ((with_reducible refine' we_callW ?hX ?_); (case hX => assumption)) | with_reducible refine we_callN ?_
  | ((with_reducible refine' ws_raise ?hX ?hT ?_); (case hX => assumption); (case hT => assumption)) | with_reducible refine wc_tuple .dat ?_ | with_reducible refine wc_list .dat ?_ | with_reducible refine wc_listT ?_ | with_reducible refine wl_tupA ?_ | with_reducible refine wr_isB ?_ | with_reducible refine wr_notB ?_ | with_reducible refine we_sortedSet ?_ | with_reducible refine we_lenSet ?_
  | (with_reducible apply Exists.intro; with_reducible refine And.intro ?ds (And.intro ?ln ?_); (case ds => repeat (first | exact DS.nil | apply DS.cons)); (case ln => exact len_ok rfl))
  | (with_reducible apply Exists.intro; with_reducible refine And.intro (fun _ => ?_) ?_)
  | (with_reducible apply Exists.intro; with_reducible apply Exists.intro; with_reducible refine And.intro rfl (And.intro (fun _ => ?_) ?_))
  | (apply Exists.intro; apply Exists.intro; apply Exists.intro; with_reducible refine And.intro rfl (And.intro rfl (And.intro ?_ ?_)))
  | with_reducible refine wc_allM ?_ | with_reducible refine wc_anyM ?_ | with_reducible refine wc_sumM ?_ | with_reducible exact lv_map
  | with_reducible refine wa_star ?_ | with_reducible refine we_sl ?_ | with_reducible refine wo_some ?_ | with_reducible refine wo_no ?_ | with_reducible refine wl_q .dat ?_ | ((with_reducible refine' wl_q (.cell ?hl) ?_); (case hl => rfl)) | with_reducible refine ⟨_, .dat, ?_⟩
  | (with_reducible apply Exists.intro; with_reducible apply Exists.intro; with_reducible refine And.intro (fun _ => ?_) (And.intro (fun _ => ?_) ?_))
  | with_reducible exact ⟨rfl, rfl⟩
  | with_reducible refine ⟨_, rfl, ?_⟩ | with_reducible refine ⟨_, _, rfl, ?_⟩ | with_reducible refine ⟨_, _, _, rfl, ?_⟩)
local macro_rules | `(tactic| walk_at "sx") => `(tactic| repeat (walk_at "s1"))
local macro_rules | `(tactic| walk_at "rx") => `(tactic| (show Rx _ _ _ _; refine rx_here ⟨_, rfl, ?_⟩))
local macro_rules | `(tactic| walk_at "mx") => `(tactic| first
  | (with_reducible refine wk_mixG ?hd ?hm (fun _ _ => ?_); (case hd => assumption); (case hm => first | omega | (split <;> omega)))
  | (refine' wr_ixG ?il ?h0 ?h1 (fun _ hm => ?_); (case il => repeat (first | exact IL.nil | apply IL.cons)); (case h0 => first | omega | (split <;> omega)); (case h1 => simp only [List.length_cons, List.length_nil]; first | omega | (split <;> omega)); (simp only [List.mem_cons, List.not_mem_nil, or_false] at hm))
  | walk_at "s1")
local macro_rules | `(tactic| walk_at "sm") => `(tactic| repeat (walk_at "mx"))
local macro_rules | `(tactic| walk_at "sa") => `(tactic| repeat (first | with_reducible refine ws_ifA ?_ | (with_reducible apply Exists.intro; with_reducible apply Exists.intro; refine And.intro rfl (And.intro (fun _ => ?_) ?_)) | walk_at "s1"))
section
variable {K : PySem.W.Frag} {mg : Str → Option Value}
def bnd (i : Nat) : Nat := 257 * 2 ^ i
theorem bnd_s (i : Nat) : bnd (i + 1) = 2 * bnd i := by unfold bnd; rw [Nat.pow_succ]; omega
theorem bnd_p (i : Nat) : 257 ≤ bnd i := by
  unfold bnd
  have : 1 ≤ 2 ^ i := Nat.one_le_two_pow
  omega
theorem bnd_m {i : Nat} (h : i ≤ 3) : bnd i ≤ 2056 := by
  unfold bnd
  have : 2 ^ i ≤ 2 ^ 3 := Nat.pow_le_pow_right (by decide) h
  omega
theorem rows_set (css : List (List Int)) (j : Nat) (r : List Int) : ((css.map nums).map SV.dat).set j (.dat (nums r)) = ((css.set j r).map nums).map .dat := by
  rw [List.map_set, List.map_set]
theorem mem_set {css : List (List Int)} {j : Nat} {r : List Int} {m : Nat} (h : ∀ b ∈ css, b.length < m) (hr : r.length < m) : ∀ b ∈ css.set j r, b.length < m := fun b hb => by
  rcases List.mem_or_eq_of_mem_set hb with h1 | h1
  · exact h b h1
  · rw [h1]; exact hr
theorem getD_memL {css : List (List Int)} {i : Int} (h0 : 0 ≤ i) (h1 : i < css.length) : css.getD i.toNat [] ∈ css := by
  rw [List.getD_eq_getElem?_getD, List.getElem?_eq_getElem (by omega)]
  exact List.getElem_mem _
theorem wr_plusN {B : Bs} {g : Gs} {S : List SV} {C : Cs} {k : SV → Cs → Prop} {a b : List Int} (hl : a.length + b.length ≤ 50000) (q : k (.dat (nums (a ++ b))) C) : Wr B (rPlus B.K) (.dat (nums a)) (.dat (nums b)) g S C k := by
  refine wr_plusL .dat .dat (Nat.le_trans (by rw [List.length_map, List.length_map]; exact hl) (len_ok (n := 50000) rfl)) ?_
  rw [← List.map_append]
  exact q
theorem wr_plusR {B : Bs} {g : Gs} {S : List SV} {C : Cs} {k : SV → Cs → Prop} {a b : List (List Int)} (hl : a.length + b.length ≤ 50000) (q : k (.dat (rows (a ++ b))) C) : Wr B (rPlus B.K) (.dat (rows a)) (.dat (rows b)) g S C k := by
  refine wr_plusL .dat .dat (Nat.le_trans (by rw [List.length_map, List.length_map]; exact hl) (len_ok (n := 50000) rfl)) ?_
  rw [← List.map_append]
  exact q
theorem we_cart {B : Bs} {g : Gs} {S : List SV} {C : Cs} {k : SV → Cs → Prop} {a b : Nat} {bs : List (List Int)} {kd : Str} (ha : g[a]? = some (some (.dat (rows bs)))) (hb : g[b]? = some (some (.dat (.str kd)))) (q : k (.dat (cartD bs kd)) C) : We B (tDisp [(tC (.str "banks"), tVar a), (tC (.str "kind"), tVar b)]) g S C k :=
  we_disp (wps_str (we_var ha (wps_str (we_var hb (wps_nil ⟨rfl, cartKv bs kd, rfl, (show 2 ≤ 15 by decide), (show ([.inr "banks", .inr "kind"] : List Key).Nodup by decide), q⟩)))))
theorem getD_memR {α : Type} {l : List (List α)} {i : Nat} (h : i < l.length) : l.getD i [] ∈ l := by
  rw [List.getD_eq_getElem?_getD, List.getElem?_eq_getElem h]
  exact List.getElem_mem _
theorem zeros (n : Nat) : (List.replicate n [PyData.int 0]).flatten = (List.replicate n (0 : Int)).map PyData.int := by
  induction n with
  | zero => rfl
  | succ n ih => rw [List.replicate_succ, List.flatten_cons, ih, List.replicate_succ]; rfl
theorem bank_zeros {code : List Int} (h : ¬ 250 < code.length) (hz : ∀ x ∈ code, x = 0) : isBank (lastOf code) = true := by
  unfold isBank
  rw [Bool.and_eq_true]
  refine ⟨decide_eq_true (by simp [lastOf]; omega), List.all_eq_true.mpr fun x hx => ?_⟩
  have : 0 ≤ x ∧ x < 256 := by
    unfold lastOf at hx
    rcases List.mem_append.mp hx with h1 | h1
    · rw [hz x h1]; decide
    · rcases List.mem_append.mp h1 with h2 | h2
      · rw [List.eq_of_mem_replicate h2]; decide
      · simp at h2
        rcases h2 with rfl | rfl | rfl | rfl | rfl | rfl <;> decide
  exact dec_and this
theorem find_congr {bs : List (List Int)} {x y : List Int} (h : isBank x = isBank y) : (bs ++ [x]).findIdx? (fun b => !isBank b) = (bs ++ [y]).findIdx? fun b => !isBank b := by
  induction bs with
  | nil => simp only [List.nil_append, List.findIdx?_cons, h, List.findIdx?_nil]
  | cons b r ih => simp only [List.cons_append, List.findIdx?_cons, ih]
theorem fault_congr {bs : List (List Int)} {x y : List Int} {kd : Str} (h : isBank x = isBank y) : faultOf (bs ++ [x]) kd = faultOf (bs ++ [y]) kd := by
  unfold faultOf
  rw [find_congr h, List.length_append, List.length_append]
  rfl
theorem shp_opt (o : Option Int) : Shp 1 (optI o) := by
  cases o with
  | none => exact shp_none
  | some n => exact shp_int
theorem pure_l_law_faults (vs : List V) (H : Hp) (Q : VK) (E : XK) (h : c_l_law_faults.sp K vs H Q E) : t_l_law_faults K E { nx := fun _ H' => Q .non H', rt := Q } (L2.start N_l_law_faults vs) H := by
  refine Cp.body (N := N_l_law_faults) h fun B (i : List Int × List (List Int) × Str) e hp hX hB => ?_
  subst e
  obtain ⟨ds, banks, kd⟩ := i
  have hp : Dr ds ∧ (2 ≤ banks.length ∧ banks.length ≤ 8) ∧ ∀ b ∈ banks, b.length = 256 := hp
  obtain ⟨hds, hbl, hbk⟩ := hp
  unfold t_l_law_faults
  show Ws B _ [some (.dat (nums ds)), some (.dat (rows banks)), some (.dat (.str kd)), none, none, none, none, none, none, none, none, none, none, none] [] [] _
  refine ws_seq ?_
  refine ws_for1 ?_
  walk_at "sx"
  refine ⟨⟨by decide, by decide⟩, fun (i : Nat) (g : Gs) (C : Cs) => ∃ o3 o4 o5 o6 o7 o8 o9 o10 o11 o12 o13, g = [some (.dat (nums ds)), some (.dat (rows banks)), some (.dat (.str kd)), o3, o4, o5, o6, o7, o8, o9, o10, o11, o12, o13] ∧ C = [], ⟨_, _, _, _, _, _, _, _, _, _, _, rfl, rfl⟩, ?_, ?_⟩
  · rintro i g' C' hi ⟨o3, o4, o5, o6, o7, o8, o9, o10, o11, o12, o13, rfl, rfl⟩
    refine ws_seq (ws_asgTupC ?_)
    walk_at "sx"
    refine we_lc1C banks (fun b => .dat (nums b)) nums (Nat.le_trans hbl.2 (len_ok rfl)) (wsrc_list ?_)
    walk_at "sx"
    refine ⟨lv_map, fun b hb S' acc => ?_, ?_⟩
    · walk_at "sx"
    walk_at "sx"
    refine ⟨rfl, len_ok rfl, ?_⟩
    walk_at "sx"
    refine ws_for1 ?_
    walk_at "sx"
    refine wk_mixG hds ⟨by omega, by omega, by decide⟩ (fun r hr => ?_)
    walk_at "sx"
    refine ⟨⟨by omega, by omega⟩, fun (t : Nat) (g : Gs) (C : Cs) => ∃ (css : List (List Int)) (word : Str) (oP o7 o8 o9 o11 o12 o13 : Option SV), g = [some (.dat (nums ds)), some (.dat (rows banks)), some (.dat (.str kd)), some (.dat (.int i)), some (.dat (.int (300 + 12 * (i : Int)))), some (.ref 0), some (.dat (.str word)), o7, o8, o9, oP, o11, o12, o13] ∧ C = [some (.lst ((css.map nums).map .dat))] ∧ css.length = banks.length ∧ (∀ b ∈ css, b.length < bnd t) ∧ (0 < t → ∃ p : Int, oP = some (.dat (.int p)) ∧ 0 ≤ p), ?_, ?_, ?_⟩
    · exact ⟨banks, kd, _, _, _, _, _, _, _, rfl, rfl, rfl, fun b hb => by rw [hbk b hb]; exact bnd_p 0, fun z => absurd z (by omega)⟩
    · rintro t g' C' ht ⟨css, word, oP, o7, o8, o9, o11, o12, o13, rfl, rfl, hcl, hcb, hpl⟩
      walk_at "sx"
      rw [List.length_map, List.length_map]
      refine wk_mixG hds ⟨by omega, by omega, by omega⟩ (fun at_ hat => ?_)
      walk_at "sx"
      refine wk_mixG hds ⟨by omega, by omega, by decide⟩ (fun place hpc => ?_)
      walk_at "sx"
      refine wk_mixG hds ⟨by omega, by omega, by decide⟩ (fun way hw => ?_)
      have hm := getD_memL (css := css) hat.1 hat.2
      have hml := hcb _ hm
      have hb1 := bnd_p t
      have hb2 := bnd_m (i := t) (by omega)
      have hb3 := bnd_s t
      have hix := ixN_nn hat.1 (n := ((css.map nums).map SV.dat).length) (by rw [List.length_map, List.length_map]; exact hat.2)
      walk_at "sx"
      refine ⟨fun z => ?_, fun z => ?_⟩
      · have z := of_decide_eq_true z
        walk_at "sx"
        refine wr_ixl (.cell rfl) (atI_map _ (atI_map _ (atI_getD [] hat.1 hat.2))) ?_
        walk_at "sx"
        refine wr_ixG (ns := [256, -1]) (.cons (.cons .nil)) hw.1 (by simp only [List.length_cons, List.length_nil]; omega) (fun v hv => ?_)
        walk_at "sx"
        have l1 := cutL_len (css.getD at_.toNat []) none (some place)
        have l2 := cutL_len (css.getD at_.toNat []) (some (place + 1)) none
        rw [cutL_map]
        refine wr_plusN (b := [v]) (by rw [List.length_singleton]; omega) ?_
        walk_at "sx"
        refine wr_ixl (.cell rfl) (atI_map _ (atI_map _ (atI_getD [] hat.1 hat.2))) ?_
        walk_at "sx"
        rw [cutL_map]
        refine wr_plusN (by rw [List.length_append, List.length_singleton]; omega) ?_
        refine wg_sub ?_
        walk_at "sx"
        refine ⟨_, _, _, _, rfl, rfl, rfl, hix, ?_⟩
        rw [rows_set]
        exact nx_here ⟨_, word, _, _, _, _, _, _, _, rfl, rfl, by rw [List.length_set]; exact hcl, mem_set (fun b hb => by have := hcb b hb; omega) (by rw [List.length_append, List.length_append, List.length_singleton]; omega), fun _ => ⟨place, rfl, hpc.1⟩⟩
      walk_at "sx"
      refine ⟨fun z => ?_, fun z => ?_⟩
      · walk_at "sx"
        refine wr_ixl (.cell rfl) (atI_map _ (atI_map _ (atI_getD [] hat.1 hat.2))) ?_
        walk_at "sx"
        refine wr_plusN (b := [0]) (by rw [List.length_singleton]; omega) ?_
        refine wg_sub ?_
        walk_at "sx"
        refine ⟨_, _, _, _, rfl, rfl, rfl, hix, ?_⟩
        rw [rows_set]
        exact nx_here ⟨_, word, _, _, _, _, _, _, _, rfl, rfl, by rw [List.length_set]; exact hcl, mem_set (fun b hb => by have := hcb b hb; omega) (by rw [List.length_append, List.length_singleton]; omega), fun _ => ⟨place, rfl, hpc.1⟩⟩
      walk_at "sx"
      refine ⟨fun z => ?_, fun z => ?_⟩
      · walk_at "sx"
        refine wr_ixl (.cell rfl) (atI_map _ (atI_map _ (atI_getD [] hat.1 hat.2))) ?_
        have l1 := cutL_len (css.getD at_.toNat []) none (some (-1))
        walk_at "sx"
        rw [cutL_map]
        refine wg_sub ?_
        walk_at "sx"
        refine ⟨_, _, _, _, rfl, rfl, rfl, hix, ?_⟩
        rw [rows_set]
        exact nx_here ⟨_, word, _, _, _, _, _, _, _, rfl, rfl, by rw [List.length_set]; exact hcl, mem_set (fun b hb => by have := hcb b hb; omega) (by omega), fun _ => ⟨place, rfl, hpc.1⟩⟩
      walk_at "sx"
      refine wk_mixG hds ⟨by omega, by omega, by decide⟩ (fun q hq => ?_)
      refine wr_ixGS (ns := ["Plain", "", "switched ", "both"]) (.cons (.cons (.cons (.cons .nil)))) hq.1 (by simp only [List.length_cons, List.length_nil]; omega) (fun v hv => ?_)
      walk_at "sx"
      exact nx_here ⟨css, v, _, _, _, _, _, _, _, rfl, rfl, hcl, fun b hb => by have := hcb b hb; omega, fun _ => ⟨place, rfl, hpc.1⟩⟩
    · rintro g' C' ⟨css, word, oP, o7, o8, o9, o11, o12, o13, rfl, rfl, hcl, hcb, hpl⟩
      obtain ⟨p, rfl, hp0⟩ := hpl (by omega)
      have hb2 := bnd_m (i := (1 + r).toNat) (by omega)
      refine ws_pre (P := fun g C => g = [some (.dat (nums ds)), some (.dat (rows banks)), some (.dat (.str kd)), some (.dat (.int i)), some (.dat (.int (300 + 12 * (i : Int)))), some (.dat (rows css)), some (.dat (.str word)), none, none, none, some (.dat (.int p)), none, none, none] ∧ C = []) (nx_frz (j := 5) (i := 0) rfl rfl (fzn_lst _) (by rw [hB]; exact Nat.zero_le _) (nx_gc _ (.keep rfl (.keep rfl (.keep rfl (.keep rfl (.keep rfl (.keep rfl (.keep rfl (.drop (.drop (.drop (.keep rfl (.drop (.drop (.drop .nil)))))))))))))) rfl hB ⟨rfl, rfl⟩)) ?_
      rintro g' C' ⟨rfl, rfl⟩
      refine ws_cut (fun g C => ∃ (css2 : List (List Int)) (o7 o8 o9 o11 o12 o13 : Option SV), g = [some (.dat (nums ds)), some (.dat (rows banks)), some (.dat (.str kd)), some (.dat (.int i)), some (.dat (.int (300 + 12 * (i : Int)))), some (.dat (rows css2)), some (.dat (.str word)), o7, o8, o9, some (.dat (.int p)), o11, o12, o13] ∧ C = [] ∧ css2.length ≤ 20 ∧ ∀ b ∈ css2, b.length ≤ 2056) ?_ ?_
      · have hs : ∀ b ∈ css, b.length ≤ 2056 := fun b hb => by have := hcb b hb; omega
        walk_at "sx"
        refine wk_mixG hds ⟨by omega, by omega, by decide⟩ (fun q hq => ?_)
        walk_at "sx"
        refine ⟨fun z => ?_, fun z => ?_⟩
        · walk_at "sx"
          rw [cutL_map]
          refine we_lc1 (rng 0 (9 - (css.length : Int))) (fun x => .dat (.int x)) (fun _ => nums (css.getD 0 [])) (Nat.le_trans (by rw [rng_len]; omega) (len_ok (n := 9) rfl)) (wsrc_rng1 ?_)
          walk_at "sx"
          rw [List.length_map, List.length_map]
          refine ⟨rfl, ⟨by omega, by omega⟩, fun t ht S' acc => ?_, ?_⟩
          · walk_at "sx"
            refine wr_ixM (f := nums) [] (by decide) (by omega) ?_
            walk_at "sx"
          have er : ((rng 0 (9 - (css.length : Int))).map fun _ => nums (css.getD 0 [])) = ((rng 0 (9 - (css.length : Int))).map fun _ => css.getD 0 []).map nums := by rw [List.map_map]; rfl
          rw [er]
          have h0 : css.getD 0 [] ∈ css := getD_memL (i := 0) (by decide) (by omega)
          refine wr_plusR (by rw [List.length_map, rng_len]; omega) ?_
          walk_at "sx"
          have hm0 := Int.emod_nonneg p (b := 2) (by decide)
          have hm1 := Int.emod_lt_of_pos p (b := 2) (by decide)
          refine wr_ixM (f := rows) (ns := [cutL css none (some 1), css ++ ((rng 0 (9 - (css.length : Int))).map fun _ => css.getD 0 [])]) [] hm0 (show p % 2 < ((2 : Nat) : Int) by omega) ?_
          walk_at "sx"
          have hv : ([cutL css none (some 1), css ++ ((rng 0 (9 - (css.length : Int))).map fun _ => css.getD 0 [])] : List (List (List Int))).getD (p % 2).toNat [] ∈ [cutL css none (some 1), css ++ ((rng 0 (9 - (css.length : Int))).map fun _ => css.getD 0 [])] := by
            exact getD_memR (by show (p % 2).toNat < 2; omega)
          generalize ([cutL css none (some 1), css ++ ((rng 0 (9 - (css.length : Int))).map fun _ => css.getD 0 [])] : List (List (List Int))).getD (p % 2).toNat [] = v at hv
          have hv2 : v.length ≤ 20 ∧ ∀ b ∈ v, b.length ≤ 2056 := by
            simp only [List.mem_cons, List.not_mem_nil, or_false] at hv
            rcases hv with rfl | rfl
            · have := cutL_len css none (some 1)
              exact ⟨by omega, fun b hb => hs b (mem_cutL hb)⟩
            · refine ⟨by rw [List.length_append, List.length_map, rng_len]; omega, fun b hb => ?_⟩
              rcases List.mem_append.mp hb with h1 | h1
              · exact hs b h1
              · obtain ⟨_, _, rfl⟩ := List.mem_map.mp h1
                exact hs _ h0
          exact ⟨v, _, _, _, _, _, _, rfl, rfl, hv2.1, hv2.2⟩
        · exact ws_next ⟨css, _, _, _, _, _, _, rfl, rfl, by omega, hs⟩
      · rintro g' C' ⟨css2, o7, o8, o9, o11, o12, o13, rfl, rfl, hl2, hs2⟩
        have sz : Sz css2 := ⟨by omega, fun b hb => Nat.le_trans (hs2 b hb) (by decide)⟩
        walk_at "sx"
        refine wk_l_law_wrong sz ?_
        walk_at "sx"
        refine we_cart rfl rfl ?_
        walk_at "sx"
        refine we_lst (wa_nil ⟨[], rfl, Nat.zero_le _, ?_⟩)
        walk_at "sx"
        refine wk_refusedA ⟨.inl rfl, sz⟩ ?_
        walk_at "sx"
        refine wr_neSame 1 (shp_opt _) rfl (by decide) ?_
        refine ⟨_, rfl, false, fun _ => ?_, ?_⟩
        · walk_at "sx"
          refine we_cart rfl rfl ?_
          walk_at "sx"
          refine we_lst (wa_nil ⟨[], rfl, Nat.zero_le _, ?_⟩)
          walk_at "sx"
          refine wk_refusedA ⟨.inr rfl, sz⟩ ?_
          walk_at "sx"
          refine wr_neSame 1 (shp_opt _) rfl (by decide) ?_
          exact ⟨_, rfl, rfl, rfl⟩
        refine ⟨fun z => (by cases z), fun _ => ?_⟩
        refine ws_next ?_
        walk_at "sx"
        refine wk_mixG hds ⟨by omega, by omega, by decide⟩ (fun q hq => ?_)
        refine wr_ixG (ns := [250, 251, 0]) (.cons (.cons (.cons .nil))) hq.1 (by simp only [List.length_cons, List.length_nil]; omega) (fun v hv => ?_)
        have hv2 : 0 ≤ v ∧ v ≤ 251 := by
          simp only [List.mem_cons, List.not_mem_nil, or_false] at hv
          omega
        refine wr_timesL .dat (by omega) (by omega) (Nat.le_trans (show 1 * v.toNat ≤ 251 by omega) (len_ok (n := 251) rfl)) ?_
        rw [zeros]
        have hcut := cutL_len css2 none (some (-1))
        have sz2 : Sz (cutL css2 none (some (-1))) := ⟨by omega, fun b hb => sz.2 b (mem_cutL hb)⟩
        walk_at "sx"
        rw [cutL_map]
        refine wk_refusedB ⟨sz2, by omega, by rw [List.length_replicate]; omega⟩ ?_
        walk_at "sx"
        rw [cutL_map]
        refine wr_timesL .dat (by decide) (by decide) (len_ok rfl) ?_
        rw [zeros]
        walk_at "sx"
        refine wr_plusR (b := [List.replicate 256 0]) (by rw [List.length_singleton]; omega) ?_
        walk_at "sx"
        have sz3 : Sz (cutL css2 none (some (-1)) ++ [List.replicate 256 0]) := ⟨by rw [List.length_append, List.length_singleton]; omega, fun b hb => by
          rcases List.mem_append.mp hb with h1 | h1
          · exact sz2.2 b h1
          · rw [List.mem_singleton.mp h1, List.length_replicate]; decide⟩
        refine wk_l_law_wrong sz3 ?_
        walk_at "sx"
        rw [List.length_map, List.length_map, List.length_replicate]
        have hres : ([optI (faultOf (cutL css2 none (some (-1)) ++ [List.replicate 256 0]) word), PyData.int 0] : List D).getD (if decide ((250 : Int) < (v.toNat : Int)) = true then (1 : Int) else 0).toNat .none = optI (coFault (List.replicate v.toNat 0) word (cutL css2 none (some (-1)))) := by
          unfold coFault
          rw [List.length_replicate]
          by_cases hv3 : 250 < v.toNat
          · rw [if_pos hv3, decide_eq_true (show (250 : Int) < (v.toNat : Int) by omega)]
            rfl
          · rw [if_neg hv3, decide_eq_false (show ¬ (250 : Int) < (v.toNat : Int) by omega)]
            have hz : isBank (List.replicate 256 (0 : Int)) = true := by decide +kernel
            rw [fault_congr (x := lastOf (List.replicate v.toNat 0)) (y := List.replicate 256 0) (by rw [hz, bank_zeros (by rw [List.length_replicate]; exact hv3) (fun x hx => List.eq_of_mem_replicate hx)])]
            rfl
        refine wr_ixD (by split <;> omega) (show (if decide ((250 : Int) < (v.toNat : Int)) = true then (1 : Int) else 0) < ((2 : Nat) : Int) by split <;> omega) ?_
        rw [hres]
        refine wr_neSame 1 (shp_opt _) rfl (by decide) ?_
        refine ⟨_, rfl, fun z => (by cases z), fun _ => ?_⟩
        exact ws_next (nx_here ⟨_, _, _, _, _, _, _, _, _, _, _, rfl, rfl⟩)
  · rintro g' C' ⟨o3, o4, o5, o6, o7, o8, o9, o10, o11, o12, o13, rfl, rfl⟩
    walk_at "sx"
    exact rx_here ⟨_, rfl, rfl⟩
end
end K01

set_option Elab.async false
set_option linter.all false
set_option maxRecDepth 100000
set_option maxHeartbeats 1000000
namespace K01
open PySem PySem.Spec PyProof.Rows L2 Sy
local macro_rules | `(tactic| walk_at "s1") => `(tactic| first
  | ((with_reducible refine' we_var ?hv ?_); (case hv => rfl)) | with_reducible refine we_isTup ?_
  | ((with_reducible refine' we_fld ?hc ?hn ?_); (case hc => assumption); (case hn => assumption)) | with_reducible refine we_dget ?_ | ((with_reducible refine' ws_sfld ?hc ?hn ?_); (case hc => assumption); (case hn => assumption))
  | with_reducible refine wps_str ?_ | with_reducible refine wps_nil ?_
  | with_reducible refine we_int ?_ | with_reducible refine we_op ?_ | with_reducible refine we_cb ?_ | with_reducible refine wa_cons ?_ | with_reducible refine wa_nil ?_
  | with_reducible refine wr_plus ?_ | with_reducible refine wr_sb ?_ | ((with_reducible refine wr_md ?hc ?_); (case hc => decide)) | ((with_reducible refine wr_dv ?hc ?_); (case hc => exact ⟨by decide, by decide⟩))
  | ((with_reducible refine wr_times ?hc ?_); (case hc => first | exact cmul_r (by decide) (by decide) | exact cmul_l (by decide) (by decide)))
  | ((with_reducible refine wr_pw ?hc ?_); (case hc => exact ⟨by decide, by decide, by decide⟩))
  | with_reducible refine wr_lt ?_ | with_reducible refine wr_le ?_ | with_reducible refine wr_gt ?_ | with_reducible refine wr_ge ?_ | with_reducible refine wr_eqI ?_ | with_reducible refine wr_neI ?_ | with_reducible refine wr_eqS ?_ | with_reducible refine wr_neS ?_
  | with_reducible refine we_str ?_ | with_reducible refine we_bl ?_ | with_reducible refine we_non ?_
  | with_reducible refine wc_int ?_ | with_reducible refine wc_intB ?_ | with_reducible refine wc_abs ?_ | with_reducible refine wc_min2 ?_ | with_reducible refine wc_max2 ?_ | with_reducible refine wc_lenScr ?_
  | ((with_reducible refine' wc_len (.cell ?hl) ?_); (case hl => rfl)) | with_reducible refine wc_len .dat ?_ | with_reducible refine wc_lenT ?_
  | with_reducible refine ws_asgG ?_ | refine wg_tup rfl ?_ | refine wgs_cons ?_ | refine wgs_nil ?_ | with_reducible refine wg_name ?_ | ((with_reducible refine' wgw_name ?hj ?_); (case hj => decide)) | refine wgw_tup rfl ?_ | refine wgsw_cons ?_ | refine wgsw_nil ?_
  | with_reducible refine wt_test ?_ | with_reducible refine wt_B ?_ | with_reducible refine wt_not ?_
  | with_reducible refine ws_seq ?_ | with_reducible refine ws_asg ?_ | with_reducible refine ws_ret ?_ | with_reducible refine ws_if ?_ | with_reducible refine ws_par ?_ | with_reducible refine ws_par3 ?_
  | with_reducible refine we_chLL ?_ | with_reducible refine we_chLE ?_ | with_reducible refine we_ng ?_ | with_reducible refine we_notV ?_
  | with_reducible refine wt_and ?_ | with_reducible refine wt_or ?_ | with_reducible refine we_andV ?_ | with_reducible refine we_orV ?_ | with_reducible refine wr_isN ?_ | with_reducible refine wr_notN ?_
  | with_reducible refine we_tupX ?_ | with_reducible refine we_lstX ?_ | ((with_reducible refine' we_callW ?hX ?_); (case hX => assumption)) | with_reducible refine we_callN ?_
  | ((with_reducible refine' ws_raise ?hX ?hT ?_); (case hX => assumption); (case hT => assumption)) | with_reducible refine wc_tuple .dat ?_ | with_reducible refine wc_list .dat ?_ | with_reducible refine wc_listT ?_ | with_reducible refine wl_tupA ?_ | with_reducible refine wr_isB ?_ | with_reducible refine wr_notB ?_ | with_reducible refine we_sortedSet ?_ | with_reducible refine we_lenSet ?_
  | (with_reducible apply Exists.intro; with_reducible refine And.intro ?ds (And.intro ?ln ?_); (case ds => repeat (first | exact DS.nil | apply DS.cons)); (case ln => exact len_ok rfl))
  | (with_reducible apply Exists.intro; with_reducible refine And.intro (fun _ => ?_) ?_)
  | (with_reducible apply Exists.intro; with_reducible apply Exists.intro; with_reducible refine And.intro rfl (And.intro (fun _ => ?_) ?_))
  | (apply Exists.intro; apply Exists.intro; apply Exists.intro; with_reducible refine And.intro rfl (And.intro rfl (And.intro ?_ ?_)))
  | with_reducible refine wc_allM ?_ | with_reducible refine wc_anyM ?_ | with_reducible refine wc_sumM ?_ | with_reducible exact lv_map
  | with_reducible refine wa_star ?_ | with_reducible refine we_sl ?_ | with_reducible refine wo_some ?_ | with_reducible refine wo_no ?_ | with_reducible refine wl_q .dat ?_ | ((with_reducible refine' wl_q (.cell ?hl) ?_); (case hl => rfl)) | with_reducible refine ⟨_, .dat, ?_⟩
  | (with_reducible apply Exists.intro; with_reducible apply Exists.intro; with_reducible refine And.intro (fun _ => ?_) (And.intro (fun _ => ?_) ?_))
  | with_reducible exact ⟨rfl, rfl⟩
  | with_reducible refine ⟨_, rfl, ?_⟩ | with_reducible refine ⟨_, _, rfl, ?_⟩ | with_reducible refine ⟨_, _, _, rfl, ?_⟩)
local macro_rules | `(tactic| walk_at "sx") => `(tactic| repeat (walk_at "s1"))
local macro_rules | `(tactic| walk_at "rx") => `(tactic| (show Rx _ _ _ _; refine rx_here ⟨_, rfl, ?_⟩))
local macro_rules | `(tactic| walk_at "mx") => `(tactic| first
  | (with_reducible refine wk_mixG ?hd ?hm (fun _ _ => ?_); (case hd => assumption); (case hm => first | omega | (split <;> omega)))
  | (refine' wr_ixG ?il ?h0 ?h1 (fun _ hm => ?_); (case il => repeat (first | exact IL.nil | apply IL.cons)); (case h0 => first | omega | (split <;> omega)); (case h1 => simp only [List.length_cons, List.length_nil]; first | omega | (split <;> omega)); (simp only [List.mem_cons, List.not_mem_nil, or_false] at hm))
  | walk_at "s1")
local macro_rules | `(tactic| walk_at "sm") => `(tactic| repeat (walk_at "mx"))
local macro_rules | `(tactic| walk_at "sa") => `(tactic| repeat (first | with_reducible refine ws_ifA ?_ | (with_reducible apply Exists.intro; with_reducible apply Exists.intro; refine And.intro rfl (And.intro (fun _ => ?_) ?_)) | walk_at "s1"))
section
variable {K : PySem.W.Frag} {mg : Str → Option Value}
theorem shp_str {n : Nat} {z : Str} (h : PyData.strOk z = true) : Shp n (.str z) := ⟨by rw [PyData.canLay0]; exact h, Nat.zero_le _⟩
theorem refsN_cons (N n : Nat) : refsN N (n + 1) = .ref N :: refsN (N + 1) n := by
  unfold refsN
  rw [List.range_succ_eq_map, List.map_cons, List.map_map]
  congr 1
  refine List.map_congr_left fun a _ => ?_
  show SV.ref (N + (a + 1)) = SV.ref (N + 1 + a)
  congr 1
  omega
theorem refs_atI {N n : Nat} {i : Int} (h0 : 0 ≤ i) (h1 : i < n) : atI (refsN N n) i = some (.ref (N + i.toNat)) := by
  rw [at_nn h0 (by rw [refsN_len]; exact h1)]
  simp [refsN]
theorem refs_last {N n : Nat} (h : 0 < n) : atI (refsN N n) (-1) = some (.ref (N + (n - 1))) := by
  have e := atI_last (xs := refsN N n) (.ref 0) (by rw [refsN_len]; exact h)
  rw [e, refsN_len, List.getD_eq_getElem?_getD]
  unfold refsN
  rw [List.getElem?_map, List.getElem?_range (by omega)]
  rfl
theorem cartC_app (cs : Cs) (bs : List (List Int)) (kd : Str) : cartC cs bs kd = cs ++ ([some (.dct [(.inr "banks", .ref (cs.length + 1)), (.inr "kind", .dat (.str kd))]), some (.lst (refsN (cs.length + 2) bs.length))] ++ bs.map fun b => some (bankC b)) := by
  unfold cartC newC
  rw [List.append_assoc, List.set_append, if_neg (Nat.lt_irrefl _), Nat.sub_self, List.length_append, List.length_singleton]
  rfl
theorem cartC_len (cs : Cs) (bs : List (List Int)) (kd : Str) : (cartC cs bs kd).length = cs.length + 2 + bs.length := by
  rw [cartC_app]
  simp
  omega
theorem fza_refs {C : Cs} : ∀ {bs : List (List Int)} {N : Nat}, (∀ (j : Nat) b, bs[j]? = some b → C[N + j]? = some (some (bankC b))) → FzA C (refsN N bs.length) (bs.map nums)
  | [], N, _ => .nil
  | b :: bs, N, h => by
    rw [List.length_cons, refsN_cons]
    refine .cons (.lst (h 0 b rfl) (FzA.of_map _)) (fza_refs fun j b hb => ?_)
    have := h (j + 1) b (by simpa using hb)
    rw [show N + 1 + j = N + (j + 1) by omega]
    exact this
/-- a cartridge's lists, written or not -/
structure Tr (C0 C : Cs) (N n : Nat) (kd : Str) : Prop where
  len : C.length = C0.length
  out : ∀ m : Nat, m < N ∨ N + 2 + n ≤ m → C[m]? = C0[m]?
  d : C[N]? = some (some (.dct [(.inr "banks", .ref (N + 1)), (.inr "kind", .dat (.str kd))]))
  l : C[N + 1]? = some (some (.lst (refsN (N + 2) n)))
  b : ∀ j, j < n → ∃ xs : List SV, C[N + 2 + j]? = some (some (.lst xs)) ∧ xs.length = 256
theorem Tr.set {C0 C : Cs} {N n j : Nat} {kd : Str} {xs : List SV} (h : Tr C0 C N n kd) (hj : j < n) (hx : xs.length = 256) : Tr C0 (C.set (N + 2 + j) (some (.lst xs))) N n kd where
  len := by rw [List.length_set]; exact h.len
  out m hm := by rw [List.getElem?_set_ne (by omega)]; exact h.out m hm
  d := by rw [List.getElem?_set_ne (by omega)]; exact h.d
  l := by rw [List.getElem?_set_ne (by omega)]; exact h.l
  b i hi := by
    by_cases e : j = i
    · subst e
      obtain ⟨ys, e1, _⟩ := h.b j hj
      exact ⟨xs, List.getElem?_set_self (List.getElem?_eq_some_iff.mp e1).1, hx⟩
    · obtain ⟨ys, e1, e2⟩ := h.b i hi
      exact ⟨ys, by rw [List.getElem?_set_ne (by omega)]; exact e1, e2⟩
theorem cartC_at (cs X : Cs) (bs : List (List Int)) (kd : Str) {m : Nat} : (cartC cs bs kd ++ X)[cs.length + m]? = (([some (.dct [(.inr "banks", .ref (cs.length + 1)), (.inr "kind", .dat (.str kd))]), some (.lst (refsN (cs.length + 2) bs.length))] ++ bs.map fun b => some (bankC b)) ++ X)[m]? := by
  rw [cartC_app, List.append_assoc, List.getElem?_append_right (by omega)]
  congr 1
  omega
theorem cartC_tr (cs X : Cs) (bs : List (List Int)) (kd : Str) (hb : ∀ b ∈ bs, b.length = 256) : Tr (cartC cs bs kd ++ X) (cartC cs bs kd ++ X) cs.length bs.length kd where
  len := rfl
  out _ _ := rfl
  d := by have := cartC_at cs X bs kd (m := 0); rw [Nat.add_zero] at this; rw [this]; rfl
  l := by rw [cartC_at cs X bs kd (m := 1)]; rfl
  b j hj := by
    have e : bs[j]? = some bs[j] := List.getElem?_eq_getElem hj
    refine ⟨(bs[j].map PyData.int).map .dat, ?_, by rw [List.length_map, List.length_map]; exact hb _ (List.getElem_mem _)⟩
    rw [Nat.add_assoc, cartC_at cs X bs kd (m := 2 + j), List.getElem?_append_left (by simp; omega), List.getElem?_append_right (by simp)]
    simp [e]
theorem cartC_bank (cs X : Cs) (bs : List (List Int)) (kd : Str) (j : Nat) (b : List Int) (h : bs[j]? = some b) : (cartC cs bs kd ++ X)[cs.length + 2 + j]? = some (some (bankC b)) := by
  have hj := (List.getElem?_eq_some_iff.mp h).1
  rw [Nat.add_assoc, cartC_at cs X bs kd (m := 2 + j), List.getElem?_append_left (by simp; omega), List.getElem?_append_right (by simp)]
  simp [h]
theorem cartC_fzl (cs X : Cs) (bs : List (List Int)) (kd : Str) : Fz (cartC cs bs kd ++ X) (.ref (cs.length + 1)) (rows bs) :=
  .lst (by rw [cartC_at cs X bs kd (m := 1)]; rfl) (fza_refs (cartC_bank cs X bs kd))
theorem cartC_d (cs X : Cs) (bs : List (List Int)) (kd : Str) : (cartC cs bs kd ++ X)[cs.length]? = some (some (.dct [(.inr "banks", .ref (cs.length + 1)), (.inr "kind", .dat (.str kd))])) := by
  have := cartC_at cs X bs kd (m := 0)
  rw [Nat.add_zero] at this
  rw [this]
  rfl
theorem cartC_fz (cs X : Cs) (bs : List (List Int)) (kd : Str) : Fz (cartC cs bs kd ++ X) (.ref cs.length) (cartD bs kd) :=
  .dct (cartC_d cs X bs kd) (.cons (key := .inr "banks") (cartC_fzl cs X bs kd) (.cons (key := .inr "kind") .dat .nil))
theorem cartC_dfz (cs X : Cs) (bs : List (List Int)) (kd : Str) : DFz (cartC cs bs kd ++ X) (.ref cs.length) (cartKv bs kd) :=
  .cell (cartC_d cs X bs kd) (.cons ⟨rfl, cartC_fzl cs X bs kd⟩ (.cons ⟨rfl, .dat⟩ .nil))
theorem cartC_live {cs : Cs} (bs : List (List Int)) (kd : Str) (h : Live cs) : Live (cartC cs bs kd) := by
  rw [cartC_app]
  exact h.app ((Live.cons (Live.cons Live.nil)).app (Live.map bankC bs))
theorem bankOf_ok {ds : List Int} {n : Int} : (bankOf ds n).length = 256 ∧ isBank (bankOf ds n) = true := by
  have hl : (bankOf ds n).length = 256 := by unfold bankOf; rw [List.length_map, rng_len]; rfl
  refine ⟨hl, ?_⟩
  unfold isBank
  rw [Bool.and_eq_true]
  refine ⟨decide_eq_true hl, List.all_eq_true.mpr fun x hx => ?_⟩
  unfold bankOf at hx
  obtain ⟨t, _, rfl⟩ := List.mem_map.mp hx
  exact dec_and ⟨Int.emod_nonneg _ (by decide), Int.emod_lt_of_pos _ (by decide)⟩
theorem fault_none {bs : List (List Int)} {kd : Str} (h1 : 2 ≤ bs.length ∧ bs.length ≤ 8) (h2 : kdOk kd = true) (h3 : ∀ b ∈ bs, isBank b = true) : faultOf bs kd = none := by
  unfold faultOf
  rw [if_pos (by rw [h2, decide_eq_true h1.1, decide_eq_true h1.2]; rfl), find_none (p := fun b => !isBank b) fun b hb => by rw [h3 b hb]; rfl]
  rfl
/-- the slots and what was chosen -/
abbrev lpC (K : PySem.W.Frag) (bs : List (List Int)) (kd : Str) (c0 c1 : Int) : Cs := [some (slotC K bs kd c0), some (slotC K bs kd c1), some (.lst [.ref 0, .ref 1]), some (.lst [.dat (.int c0), .dat (.int c1)])]
theorem lp_live {K : PySem.W.Frag} {bs : List (List Int)} {kd : Str} {c0 c1 : Int} : Live (lpC K bs kd c0 c1) := .cons (.cons (.cons (.cons .nil)))
theorem _root_.Sy.GSub.d {f : Nat → Nat} {n : Nat} {a b : Gs} {x : D} (h : GSub f n a b) : GSub f n (some (.dat x) :: a) (some (.dat x) :: b) := .yes trivial rfl h
theorem _root_.Sy.GSub.r {f : Nat → Nat} {n : Nat} {a b : Gs} {i m : Nat} (hi : i < n) (e : m = f i) (h : GSub f n a b) : GSub f n (some (.ref i) :: a) (some (.ref m) :: b) := .yes (s := .ref i) hi (by rw [e]; rfl) h
theorem b01 (b : Bool) : 0 ≤ (if b then (1 : Int) else 0) ∧ (if b then (1 : Int) else 0) < ((2 : Nat) : Int) := by cases b <;> decide
theorem lp_nx {B : Bs} {g : Gs} {S : List SV} {C : Cs} {P : Gs → Cs → Prop} {bs : List (List Int)} {kd : Str} {c0 c1 : Int} (a0 a1 a2 a3 : Nat) (nd : [a0, a1, a2, a3].Nodup) (h0 : C[a0]? = some (some (slotC B.K bs kd c0))) (h1 : C[a1]? = some (some (slotC B.K bs kd c1)))
    (h2 : C[a2]? = some (some (.lst [.ref a0, .ref a1]))) (h3 : C[a3]? = some (some (.lst [.dat (.int c0), .dat (.int c1)]))) (g' : Gs) (hg : GSub (ren [a0, a1, a2, a3] 0) 4 g' g) (hS : S.all SV.cl = true) (hB : B.n0 = 0) (h : P g' (lpC B.K bs kd c0 c1)) : Nx B S P g C := by
  have hs : ∀ c, (slotC B.K bs kd c).lt 4 := fun c p hp => by
    simp only [slotF, List.mem_cons, List.not_mem_nil, or_false] at hp
    rcases hp with rfl | rfl | rfl <;> exact trivial
  refine nx_gcC [a0, a1, a2, a3] (lpC B.K bs kd c0 c1) g' rfl nd (fun j i e => ?_) hg hS (fun j hj => by rw [hB] at hj; omega) h
  match j, e with
  | 0, e => cases e; exact ⟨_, rfl, hs c0, h0⟩
  | 1, e => cases e; exact ⟨_, rfl, hs c1, h1⟩
  | 2, e =>
    cases e
    refine ⟨_, rfl, fun x hx => ?_, h2⟩
    simp only [List.mem_cons, List.not_mem_nil, or_false] at hx
    rcases hx with rfl | rfl
    · show 0 < 4; decide
    · show 1 < 4; decide
  | 3, e =>
    cases e
    refine ⟨_, rfl, fun x hx => ?_, h3⟩
    simp only [List.mem_cons, List.not_mem_nil, or_false] at hx
    rcases hx with rfl | rfl <;> exact trivial
theorem pure_law (T : Tx K mg) (vs : List V) (H : Hp) (Q : VK) (E : XK) (h : c_law.sp K vs H Q E) : t_law K E { nx := fun _ H' => Q .non H', rt := Q } (L2.start N_law vs) H := by
  refine Cp.body (N := N_law) h fun B (i : List Int) e hp hX hB => ?_
  subst e
  have hp : i.length ≤ 63 := hp
  have hcl := T.c_Slot
  unfold t_law
  show Ws B _ [some (.scr i), none, none, none, none, none, none, none, none, none, none, none, none, none, none, none, none, none] [] [] _
  walk_at "sx"
  refine wk_draws hp (fun ds hds => ?_)
  walk_at "sx"
  refine wk_mixG hds ⟨by decide, by decide, by decide⟩ (fun r hr => ?_)
  walk_at "sx"
  refine wk_mixG hds ⟨by decide, by decide, by decide⟩ (fun r2 hr2 => ?_)
  refine wr_ixGS (ns := ["plain", "switched", "switched"]) (.cons (.cons (.cons .nil))) hr2.1 (by simp only [List.length_cons, List.length_nil]; omega) (fun kd hkd => ?_)
  have hkd : kd = "plain" ∨ kd = "switched" := by simp only [List.mem_cons, List.not_mem_nil, or_false] at hkd; rcases hkd with h | h | h <;> simp [h]
  have hk1 : kdOk kd = true := by rcases hkd with rfl | rfl <;> decide +kernel
  have hk2 : PyData.strOk kd = true := by rcases hkd with rfl | rfl <;> decide +kernel
  walk_at "sx"
  refine we_lc1 (rng 0 (2 + r)) (fun x => .dat (.int x)) (fun t => nums (bankOf ds (10 + t))) (Nat.le_trans (by rw [rng_len]; omega) (len_ok (n := 10) rfl)) (wsrc_rng1 ?_)
  walk_at "sx"
  refine ⟨rfl, ⟨by omega, by omega⟩, fun t ht S' acc => ?_, ?_⟩
  · have ht := mem_rng ht
    walk_at "sx"
    refine wk_l_law_bank ⟨hds, by omega, by omega⟩ ?_
    exact ⟨rfl, rfl⟩
  have eb : ((rng 0 (2 + r)).map fun t => nums (bankOf ds (10 + t))) = ((rng 0 (2 + r)).map fun t => bankOf ds (10 + t)).map nums := by rw [List.map_map]; rfl
  rw [eb]
  have hbl : ((rng 0 (2 + r)).map fun t => bankOf ds (10 + t)).length = (2 + r).toNat := by rw [List.length_map, rng_len]; congr 1; omega
  have hbk : ∀ b ∈ ((rng 0 (2 + r)).map fun t => bankOf ds (10 + t)), b.length = 256 ∧ isBank b = true := fun b hb => by
    obtain ⟨t, _, rfl⟩ := List.mem_map.mp hb
    exact bankOf_ok
  generalize hbs : ((rng 0 (2 + r)).map fun t => bankOf ds (10 + t)) = bs at hbl hbk
  have hb2 : 2 ≤ bs.length ∧ bs.length ≤ 8 := by omega
  have hbr : (2 + r) = (bs.length : Int) := by omega
  rw [hbr]
  have sz : Sz bs := ⟨by omega, fun b hb => by rw [(hbk b hb).1]; decide⟩
  have hf := fault_none hb2 hk1 fun b hb => (hbk b hb).2
  walk_at "sx"
  refine we_dispC ?_
  walk_at "sx"
  refine we_lc1N bs (fun b => .dat (nums b)) bankC (Nat.le_trans hb2.2 (len_ok rfl)) (wsrcD_list ?_)
  walk_at "sx"
  refine ⟨rfl, fun j b hb S' => ?_, ?_⟩
  · refine we_cb (wa_cons (we_var rfl (wa_nil ?_)))
    refine wc_listC .dat ?_
    exact ⟨rfl, rfl⟩
  walk_at "sx"
  refine ⟨rfl, (show 2 ≤ 15 by decide), (show ([.inr "banks", .inr "kind"] : List Key).Nodup by decide), ?_⟩
  refine wg_name ?_
  have hex : ∀ cls n, (c_SlotU_initU B.K).exc (cartC [] bs kd, .ref 0, bs, kd) cls n → c_law.exc i cls n := fun cls n q => absurd (hf.symm.trans q.2) (by intro z; cases z)
  refine ws_seq (ws_par (wa_cons (we_lstC (wa_cons (we_makeA hX (wa_cons (we_var rfl (wa_nil ?_))))))))
  refine ⟨(cartC [] bs kd, .ref 0, bs, kd), rfl, rfl, (cartC_live bs kd .nil).snoc, ⟨by have := cartC_fz [] [] bs kd; rw [List.append_nil] at this; exact this, sz⟩, fun s C' q => ?_, hex⟩
  obtain ⟨q1, q2, q3⟩ : s = .dat .none ∧ faultOf bs kd = none ∧ C' = cartC [] bs kd ++ [some (slotC B.K bs kd 0)] := q
  subst q1 q3
  refine ⟨rfl, ?_⟩
  refine wa_cons (we_makeA hX (wa_cons (we_var rfl (wa_nil ?_))))
  refine ⟨(cartC [] bs kd ++ [some (slotC B.K bs kd 0)], .ref 0, bs, kd), rfl, rfl, (cartC_live bs kd .nil).snoc.snoc, ⟨cartC_fz [] _ bs kd, sz⟩, fun s C' q => ?_, hex⟩
  obtain ⟨q1, q2, q3⟩ : s = .dat .none ∧ faultOf bs kd = none ∧ C' = cartC [] bs kd ++ [some (slotC B.K bs kd 0)] ++ [some (slotC B.K bs kd 0)] := q
  subst q1 q3
  refine ⟨rfl, wa_nil ⟨len_ok rfl, ?_⟩⟩
  refine wa_cons (we_lstC (wa_cons (we_int (wa_cons (we_int (wa_nil ⟨len_ok rfl, ?_⟩))))))
  refine wa_nil ⟨_, _, rfl, ?_⟩
  show Ws B _ _ _ _ _
  have hN : (cartC [] bs kd).length = 2 + bs.length := by rw [cartC_len]; simp
  refine ws_pre (P := fun g C => g = [some (.scr i), some (.dat (nums ds)), some (.dat (.int (bs.length : Int))), some (.dat (.str kd)), some (.dat (rows bs)), some (.ref 0), none, some (.ref (2 + bs.length + 2)), some (.ref (2 + bs.length + 3)), none, none, none, none, none, none, none, none, none] ∧
    C = cartC [] bs kd ++ [some (slotC B.K bs kd 0), some (slotC B.K bs kd 0), some (.lst [.ref (2 + bs.length + 0), .ref (2 + bs.length + 1)]), some (.lst [.dat (.int 0), .dat (.int 0)])]) (nx_here ⟨?_, ?_⟩) ?_
  · simp [hN, newC_len] <;> omega
  · simp [hN, newC_len] <;> omega
  rintro g' C' ⟨rfl, rfl⟩
  have tr := cartC_tr [] [some (slotC B.K bs kd 0), some (slotC B.K bs kd 0), some (.lst [.ref (2 + bs.length + 0), .ref (2 + bs.length + 1)]), some (.lst [.dat (.int 0), .dat (.int 0)])] bs kd fun b hb => (hbk b hb).1
  have hXx : ∀ j : Nat, (cartC [] bs kd ++ [some (slotC B.K bs kd 0), some (slotC B.K bs kd 0), some (.lst [.ref (2 + bs.length + 0), .ref (2 + bs.length + 1)]), some (.lst [.dat (.int 0), .dat (.int 0)])])[2 + bs.length + j]? = [some (slotC B.K bs kd 0), some (slotC B.K bs kd 0), some (.lst [.ref (2 + bs.length + 0), .ref (2 + bs.length + 1)]), some (.lst [.dat (.int 0), .dat (.int 0)])][j]? := fun j => by
    rw [List.getElem?_append_right (by omega), hN]
    congr 1
    omega
  have hXl : (cartC [] bs kd ++ [some (slotC B.K bs kd 0), some (slotC B.K bs kd 0), some (.lst [.ref (2 + bs.length + 0), .ref (2 + bs.length + 1)]), some (.lst [.dat (.int 0), .dat (.int 0)])]).length = 2 + bs.length + 4 := by
    rw [List.length_append, hN]
    rfl
  generalize (cartC [] bs kd ++ [some (slotC B.K bs kd 0), some (slotC B.K bs kd 0), some (.lst [.ref (2 + bs.length + 0), .ref (2 + bs.length + 1)]), some (.lst [.dat (.int 0), .dat (.int 0)])]) = C0 at tr hXx hXl
  refine ws_seq (ws_asgG ?_)
  walk_at "sx"
  refine wg_sub ?_
  walk_at "sx"
  refine ⟨.inr "banks", _, rfl, .cell tr.d .here, ?_⟩
  walk_at "sx"
  refine wr_ixl (.cell tr.l) (refs_atI (by decide) (by omega)) ?_
  walk_at "sx"
  obtain ⟨xs, e1, e2⟩ := tr.b 0 (by omega)
  refine ⟨_, _, _, _, rfl, rfl, e1, ixN_nn (by decide) (by rw [e2]; decide), ?_⟩
  have tr2 : Tr C0 (C0.set (([] : Cs).length + 2 + (0 : Int).toNat) (some (Cell.lst (xs.set (5 : Int).toNat (SV.dat (PyData.int 999)))))) ([] : Cs).length bs.length kd := tr.set (j := 0) (by omega) (by rw [List.length_set]; exact e2)
  generalize (C0.set (([] : Cs).length + 2 + (0 : Int).toNat) (some (Cell.lst (xs.set (5 : Int).toNat (SV.dat (PyData.int 999)))))) = C1 at tr2 ⊢
  walk_at "sx"
  refine wg_sub ?_
  walk_at "sx"
  refine ⟨.inr "banks", _, rfl, .cell tr2.d .here, ?_⟩
  walk_at "sx"
  refine wr_ixl (.cell tr2.l) (refs_last (by omega)) ?_
  walk_at "sx"
  obtain ⟨ys, e3, e4⟩ := tr2.b (bs.length - 1) (by omega)
  refine ⟨_, _, _, _, rfl, rfl, e3, ixN_nn (by decide) (by rw [e4]; decide), ?_⟩
  have tr3 : Tr C0 (C1.set (([] : Cs).length + 2 + (bs.length - 1)) (some (Cell.lst (ys.set (7 : Int).toNat (SV.dat (PyData.int 998)))))) ([] : Cs).length bs.length kd := tr2.set (j := bs.length - 1) (by omega) (by rw [List.length_set]; exact e4)
  generalize (C1.set (([] : Cs).length + 2 + (bs.length - 1)) (some (Cell.lst (ys.set (7 : Int).toNat (SV.dat (PyData.int 998)))))) = C2 at tr3 ⊢
  walk_at "sx"
  refine ws_drop (we_app ?_)
  walk_at "sx"
  refine ⟨.inr "banks", _, rfl, .cell tr3.d .here, ?_⟩
  refine ⟨_, _, rfl, tr3.l, ?_⟩
  walk_at "sx"
  refine ⟨_, _, rfl, tr3.l, Nat.lt_of_le_of_lt (by rw [refsN_len]; exact hb2.2) (Nat.lt_of_lt_of_le (show 8 < 100 by decide) (len_ok rfl)), ?_⟩
  have hY : ∀ j : Nat, (C2.set (([] : Cs).length + 1) (some (.lst (refsN (([] : Cs).length + 2) bs.length ++ [.dat (.list [.int 1])]))))[2 + bs.length + j]? = [some (slotC B.K bs kd 0), some (slotC B.K bs kd 0), some (.lst [.ref (2 + bs.length + 0), .ref (2 + bs.length + 1)]), some (.lst [.dat (.int 0), .dat (.int 0)])][j]? := fun j => by
    rw [List.getElem?_set_ne (by show 0 + 1 ≠ _; omega), tr3.out _ (.inr (by show 0 + 2 + bs.length ≤ _; omega)), hXx j]
  generalize (C2.set (([] : Cs).length + 1) (some (.lst (refsN (([] : Cs).length + 2) bs.length ++ [.dat (.list [.int 1])])))) = C3 at hY ⊢
  show Ws B _ _ _ _ _
  refine ws_pre (P := fun g C => g = [none, some (.dat (nums ds)), some (.dat (.int (bs.length : Int))), some (.dat (.str kd)), some (.dat (rows bs)), none, none, some (.ref 2), some (.ref 3), none, none, none, none, none, none, none, none, none] ∧ C = lpC B.K bs kd 0 0)
    (lp_nx (2 + bs.length + 0) (2 + bs.length + 1) (2 + bs.length + 2) (2 + bs.length + 3) (by simp) (hY 0) (hY 1) (hY 2) (hY 3) _
      (.no (.d (.d (.d (.d (.no (.no (.r (show 2 < 4 by decide) rfl (.r (show 3 < 4 by decide) rfl (.no (.no (.no (.no (.no (.no (.no (.no (.no .nil)))))))))))))))))) rfl hB ⟨rfl, rfl⟩) ?_
  rintro g' C' ⟨rfl, rfl⟩
  walk_at "sx"
  refine ws_for1 ?_
  walk_at "sx"
  refine ⟨⟨by decide, by decide⟩, fun (t : Nat) (g : Gs) (C : Cs) => g = [none, some (.dat (nums ds)), some (.dat (.int (bs.length : Int))), some (.dat (.str kd)), some (.dat (rows bs)), none, none, some (.ref 2), some (.ref 3), none, none, none, none, none, none, none, none, none] ∧ ∃ c0 c1 : Int, (0 ≤ c0 ∧ c0 < bs.length) ∧ (0 ≤ c1 ∧ c1 < bs.length) ∧ C = lpC B.K bs kd c0 c1, ⟨rfl, 0, 0, ⟨by decide, by omega⟩, ⟨by decide, by omega⟩, rfl⟩, ?_, ?_⟩
  · rintro t g' C' ht ⟨rfl, c0, c1, h0, h1, rfl⟩
    have hok : ∀ c : Int, (0 ≤ c ∧ c < bs.length) → St.Ok ⟨bs, kd, c⟩ := fun c h => ⟨by show 1 ≤ bs.length; omega, hb2.2, fun b hb => (hbk b hb).1, h.1, h.2⟩
    walk_at "sx"
    refine wk_mixG hds ⟨by omega, by omega, by decide⟩ (fun who hw => ?_)
    walk_at "sx"
    refine wk_mixG hds ⟨by omega, by omega, by decide⟩ (fun byte hby => ?_)
    walk_at "sx"
    refine wk_mixG hds ⟨by omega, by omega, by decide⟩ (fun v hv => ?_)
    walk_at "sx"
    refine wk_mixG hds ⟨by omega, by omega, by decide⟩ (fun ix hix => ?_)
    refine wr_ixG (ns := [128, 129, 128, 129, 127, 130, 0, 3, 32, 255, v]) (.cons (.cons (.cons (.cons (.cons (.cons (.cons (.cons (.cons (.cons (.cons .nil))))))))))) hix.1 (by simp only [List.length_cons, List.length_nil]; omega) (fun page hpg => ?_)
    have hpg2 : 0 ≤ page ∧ page < 256 := by
      simp only [List.mem_cons, List.not_mem_nil, or_false] at hpg
      omega
    walk_at "sx"
    refine wk_mixG hds ⟨by omega, by omega, by decide⟩ (fun w hwv => ?_)
    walk_at "sx"
    refine wk_mixG hds ⟨by omega, by omega, by decide⟩ (fun ix2 hix2 => ?_)
    refine wr_ixG (ns := [0, 255, w]) (.cons (.cons (.cons .nil))) hix2.1 (by simp only [List.length_cons, List.length_nil]; omega) (fun low hlow => ?_)
    have hlow2 : 0 ≤ low ∧ low < 256 := by
      simp only [List.mem_cons, List.not_mem_nil, or_false] at hlow
      omega
    have hww : who = 0 ∨ who = 1 := by omega
    refine wr_plus ?_
    refine wg_name ?_
    refine ws_cut (fun g C => ∃ d0 d1 : Int, (0 ≤ d0 ∧ d0 < bs.length) ∧ (0 ≤ d1 ∧ d1 < bs.length) ∧ g = [none, some (.dat (nums ds)), some (.dat (.int (bs.length : Int))), some (.dat (.str kd)), some (.dat (rows bs)), none, none, some (.ref 2), some (.ref 3), some (.dat (.int t)), some (.dat (.int (40 + 5 * (t : Int)))), some (.dat (.int who)), some (.dat (.int byte)), some (.dat (.int page)), some (.dat (.int (256 * page + low))), none, none, none] ∧ C = lpC B.K bs kd d0 d1) ?_ ?_
    · have hr0 : 0 ≤ byte % (bs.length : Int) ∧ byte % (bs.length : Int) < bs.length := ⟨Int.emod_nonneg _ (by omega), Int.emod_lt_of_pos _ (by omega)⟩
      have hwr : ∀ c, wroteI ⟨bs, kd, c⟩ (256 * page + low) byte = ([c, byte % (bs.length : Int)] : List Int).getD (if (decide (kd = ("switched" : Str)) && inV (.int page) [.int 128, .int 129]) then (1 : Int) else 0).toNat 0 := fun c => by
        unfold wroteI wroteB
        rw [show (256 * page + low) / 256 = page by omega]
        show (if (decide (kd = ("switched" : Str)) && inV (.int page) [.int 128, .int 129]) = true then byte % (bs.length : Int) else c) = _
        cases (decide (kd = ("switched" : Str)) && inV (.int page) [.int 128, .int 129]) <;> rfl
      have hwg : ∀ c : Int, (0 ≤ c ∧ c < bs.length) → 0 ≤ ([c, byte % (bs.length : Int)] : List Int).getD (if (decide (kd = ("switched" : Str)) && inV (.int page) [.int 128, .int 129]) then (1 : Int) else 0).toNat 0 ∧ ([c, byte % (bs.length : Int)] : List Int).getD (if (decide (kd = ("switched" : Str)) && inV (.int page) [.int 128, .int 129]) then (1 : Int) else 0).toNat 0 < bs.length := fun c h => by
        cases (decide (kd = ("switched" : Str)) && inV (.int page) [.int 128, .int 129])
        · exact h
        · exact hr0
      walk_at "sx"
      refine wk_mixG hds ⟨by omega, by omega, by decide⟩ (fun z hz => ?_)
      walk_at "sx"
      refine ⟨fun y => ?_, fun y => ?_⟩
      · rcases hww with rfl | rfl
        · walk_at "sx"
          refine wr_md (by omega) ?_
          refine wg_sub ?_
          walk_at "sx"
          refine ⟨_, _, _, _, rfl, rfl, rfl, rfl, ?_⟩
          refine ws_drop (we_methA hX ?_)
          walk_at "sx"
          refine wr_ixl (.cell rfl) rfl ?_
          refine ⟨_, _, rfl, rfl, .next (by decide) (.next (by decide) (.next (by decide) .nil)), ?_⟩
          walk_at "sx"
          refine wr_ixl (.cell rfl) rfl ?_
          walk_at "sx"
          refine ⟨(_, 0, ⟨bs, kd, c0⟩, byte % (bs.length : Int)), rfl, rfl, .cons (.cons (.cons (.cons .nil))), rfl, fun s C' q => ?_, fun _ _ q => q.elim⟩
          obtain ⟨q1, q2⟩ := q
          subst q1 q2
          exact ⟨byte % (bs.length : Int), c1, hr0, h1, rfl, rfl⟩
        · walk_at "sx"
          refine wr_md (by omega) ?_
          refine wg_sub ?_
          walk_at "sx"
          refine ⟨_, _, _, _, rfl, rfl, rfl, rfl, ?_⟩
          refine ws_drop (we_methA hX ?_)
          walk_at "sx"
          refine wr_ixl (.cell rfl) rfl ?_
          refine ⟨_, _, rfl, rfl, .next (by decide) (.next (by decide) (.next (by decide) .nil)), ?_⟩
          walk_at "sx"
          refine wr_ixl (.cell rfl) rfl ?_
          walk_at "sx"
          refine ⟨(_, 1, ⟨bs, kd, c1⟩, byte % (bs.length : Int)), rfl, rfl, .cons (.cons (.cons (.cons .nil))), rfl, fun s C' q => ?_, fun _ _ q => q.elim⟩
          obtain ⟨q1, q2⟩ := q
          subst q1 q2
          exact ⟨c0, byte % (bs.length : Int), h0, hr0, rfl, rfl⟩
      · rcases hww with rfl | rfl
        · refine ws_seq (ws_drop (we_methA hX ?_))
          walk_at "sx"
          refine wr_ixl (.cell rfl) rfl ?_
          refine ⟨_, _, rfl, rfl, .next (by decide) (.next (by decide) (.next (by decide) .nil)), ?_⟩
          walk_at "sx"
          refine ⟨(_, 0, ⟨bs, kd, c0⟩, 256 * page + low, byte), rfl, rfl, .cons (.cons (.cons (.cons .nil))), ⟨rfl, hok c0 h0⟩, fun s C' q => ?_, fun _ _ q => q.elim⟩
          obtain ⟨q1, q2⟩ := q
          subst q1 q2
          refine ws_asgG ?_
          walk_at "sx"
          refine wr_ixl (.cell rfl) rfl ?_
          walk_at "sx"
          refine wr_md (by omega) ?_
          walk_at "sx"
          · refine wr_inL rfl rfl .dat (us := [.int 128, .int 129]) rfl ?_
            exact ⟨rfl, rfl⟩
          walk_at "sx"
          refine wr_ixI (ns := [c0, byte % (bs.length : Int)]) (.cons (.cons .nil)) (b01 _).1 (b01 _).2 ?_
          refine wg_sub ?_
          walk_at "sx"
          refine ⟨_, _, _, _, rfl, rfl, rfl, rfl, ?_⟩
          have hv := hwr c0
          have hg := hwg c0 h0
          exact ⟨_, c1, hg, h1, rfl, by rw [hv]; rfl⟩
        · refine ws_seq (ws_drop (we_methA hX ?_))
          walk_at "sx"
          refine wr_ixl (.cell rfl) rfl ?_
          refine ⟨_, _, rfl, rfl, .next (by decide) (.next (by decide) (.next (by decide) .nil)), ?_⟩
          walk_at "sx"
          refine ⟨(_, 1, ⟨bs, kd, c1⟩, 256 * page + low, byte), rfl, rfl, .cons (.cons (.cons (.cons .nil))), ⟨rfl, hok c1 h1⟩, fun s C' q => ?_, fun _ _ q => q.elim⟩
          obtain ⟨q1, q2⟩ := q
          subst q1 q2
          refine ws_asgG ?_
          walk_at "sx"
          refine wr_ixl (.cell rfl) rfl ?_
          walk_at "sx"
          refine wr_md (by omega) ?_
          walk_at "sx"
          · refine wr_inL rfl rfl .dat (us := [.int 128, .int 129]) rfl ?_
            exact ⟨rfl, rfl⟩
          walk_at "sx"
          refine wr_ixI (ns := [c1, byte % (bs.length : Int)]) (.cons (.cons .nil)) (b01 _).1 (b01 _).2 ?_
          refine wg_sub ?_
          walk_at "sx"
          refine ⟨_, _, _, _, rfl, rfl, rfl, rfl, ?_⟩
          have hv := hwr c1
          have hg := hwg c1 h1
          exact ⟨c0, _, h0, hg, rfl, by rw [hv]; rfl⟩
    rintro g' C' ⟨d0, d1, hd0, hd1, rfl, rfl⟩
    walk_at "sx"
    refine wk_mixG hds ⟨by omega, by omega, by decide⟩ (fun place hpl => ?_)
    have hLL : (bs.getD (bs.length - 1) []).length = 256 := by
      rw [List.getD_eq_getElem?_getD, List.getElem?_eq_getElem (by omega)]
      exact (hbk _ (List.getElem_mem _)).1
    have hr1 : ∀ c : Int, readI ⟨bs, kd, c⟩ (32768 + place) = (bs.getD c.toNat []).getD place.toNat 0 := fun c => by
      unfold readI
      rw [if_pos (by omega), show (32768 + place) % 256 = place by omega]
    have hr2 : ∀ c : Int, readI ⟨bs, kd, c⟩ (33024 + place) = (bs.getD (bs.length - 1) []).getD place.toNat 0 := fun c => by
      unfold readI
      rw [if_neg (by omega), show (33024 + place) % 256 = place by omega]
      rfl
    walk_at "sx"
    refine ws_for1 ?_
    walk_at "sx"
    refine ⟨⟨by decide, by decide⟩, fun (u : Nat) (g : Gs) (C : Cs) => ∃ o16 : Option SV, g = [none, some (.dat (nums ds)), some (.dat (.int (bs.length : Int))), some (.dat (.str kd)), some (.dat (rows bs)), none, none, some (.ref 2), some (.ref 3), some (.dat (.int t)), some (.dat (.int (40 + 5 * (t : Int)))), some (.dat (.int who)), some (.dat (.int byte)), some (.dat (.int page)), some (.dat (.int (256 * page + low))), some (.dat (.int place)), o16, none] ∧ C = lpC B.K bs kd d0 d1, ⟨_, rfl, rfl⟩, ?_, ?_⟩
    · rintro u g' C' hu ⟨o16, rfl, rfl⟩
      have hu2 : u = 0 ∨ u = 1 := by omega
      rcases hu2 with rfl | rfl
      · walk_at "sx"
        refine we_methA hX ?_
        walk_at "sx"
        refine wr_ixl (.cell rfl) rfl ?_
        refine ⟨_, _, rfl, rfl, .next (by decide) (.next (by decide) (.next (by decide) .nil)), wa_nil ⟨(_, 0, ⟨bs, kd, d0⟩), rfl, rfl, .cons (.cons (.cons (.cons .nil))), rfl, fun s C' q => ?_, fun _ _ q => q.elim⟩⟩
        obtain ⟨q1, q2⟩ := q
        subst q1 q2
        walk_at "sx"
        refine wr_ixl (.cell rfl) rfl ?_
        walk_at "sx"
        · refine we_methA hX ?_
          walk_at "sx"
          refine wr_ixl (.cell rfl) rfl ?_
          refine ⟨_, _, rfl, rfl, .next (by decide) (.next (by decide) (.next (by decide) .nil)), ?_⟩
          walk_at "sx"
          refine ⟨(_, 0, ⟨bs, kd, d0⟩, 32768 + place), rfl, rfl, .cons (.cons (.cons (.cons .nil))), ⟨rfl, hok d0 hd0⟩, fun s C' q => ?_, fun _ _ q => q.elim⟩
          obtain ⟨q1, q2⟩ := q
          subst q1 q2
          walk_at "sx"
          refine wr_ixl (.cell rfl) rfl ?_
          refine wr_ixM (f := nums) [] hd0.1 hd0.2 ?_
          walk_at "sx"
          refine wr_ixM (f := PyData.int) (0 : Int) hpl.1 (by rw [(hbk _ (getD_memL hd0.1 hd0.2)).1]; exact hpl.2) ?_
          walk_at "sx"
          · refine we_methA hX ?_
            walk_at "sx"
            refine wr_ixl (.cell rfl) rfl ?_
            refine ⟨_, _, rfl, rfl, .next (by decide) (.next (by decide) (.next (by decide) .nil)), ?_⟩
            walk_at "sx"
            refine ⟨(_, 0, ⟨bs, kd, d0⟩, 33024 + place), rfl, rfl, .cons (.cons (.cons (.cons .nil))), ⟨rfl, hok d0 hd0⟩, fun s C' q => ?_, fun _ _ q => q.elim⟩
            obtain ⟨q1, q2⟩ := q
            subst q1 q2
            walk_at "sx"
            refine wr_ixML (f := nums) [] (by omega) ?_
            walk_at "sx"
            refine wr_ixM (f := PyData.int) (0 : Int) hpl.1 (by rw [hLL]; exact hpl.2) ?_
            refine wr_neI ?_
            exact ⟨_, rfl, rfl, rfl⟩
          exact ⟨rfl, rfl⟩
        refine ⟨fun z => ?_, fun _ => ?_⟩
        · exfalso
          have e1 := hr1 d0
          have e2 := hr2 d0
          have z2 : (!decide (d0 = d0) || (!decide (readI ⟨bs, kd, d0⟩ (32768 + place) = (bs.getD d0.toNat []).getD place.toNat 0) || !decide (readI ⟨bs, kd, d0⟩ (33024 + place) = (bs.getD (bs.length - 1) []).getD place.toNat 0))) = true := z
          rw [e1, e2] at z2
          simp at z2
        · exact ws_next (nx_here ⟨_, rfl, rfl⟩)
      · walk_at "sx"
        refine we_methA hX ?_
        walk_at "sx"
        refine wr_ixl (.cell rfl) rfl ?_
        refine ⟨_, _, rfl, rfl, .next (by decide) (.next (by decide) (.next (by decide) .nil)), wa_nil ⟨(_, 1, ⟨bs, kd, d1⟩), rfl, rfl, .cons (.cons (.cons (.cons .nil))), rfl, fun s C' q => ?_, fun _ _ q => q.elim⟩⟩
        obtain ⟨q1, q2⟩ := q
        subst q1 q2
        walk_at "sx"
        refine wr_ixl (.cell rfl) rfl ?_
        walk_at "sx"
        · refine we_methA hX ?_
          walk_at "sx"
          refine wr_ixl (.cell rfl) rfl ?_
          refine ⟨_, _, rfl, rfl, .next (by decide) (.next (by decide) (.next (by decide) .nil)), ?_⟩
          walk_at "sx"
          refine ⟨(_, 1, ⟨bs, kd, d1⟩, 32768 + place), rfl, rfl, .cons (.cons (.cons (.cons .nil))), ⟨rfl, hok d1 hd1⟩, fun s C' q => ?_, fun _ _ q => q.elim⟩
          obtain ⟨q1, q2⟩ := q
          subst q1 q2
          walk_at "sx"
          refine wr_ixl (.cell rfl) rfl ?_
          refine wr_ixM (f := nums) [] hd1.1 hd1.2 ?_
          walk_at "sx"
          refine wr_ixM (f := PyData.int) (0 : Int) hpl.1 (by rw [(hbk _ (getD_memL hd1.1 hd1.2)).1]; exact hpl.2) ?_
          walk_at "sx"
          · refine we_methA hX ?_
            walk_at "sx"
            refine wr_ixl (.cell rfl) rfl ?_
            refine ⟨_, _, rfl, rfl, .next (by decide) (.next (by decide) (.next (by decide) .nil)), ?_⟩
            walk_at "sx"
            refine ⟨(_, 1, ⟨bs, kd, d1⟩, 33024 + place), rfl, rfl, .cons (.cons (.cons (.cons .nil))), ⟨rfl, hok d1 hd1⟩, fun s C' q => ?_, fun _ _ q => q.elim⟩
            obtain ⟨q1, q2⟩ := q
            subst q1 q2
            walk_at "sx"
            refine wr_ixML (f := nums) [] (by omega) ?_
            walk_at "sx"
            refine wr_ixM (f := PyData.int) (0 : Int) hpl.1 (by rw [hLL]; exact hpl.2) ?_
            refine wr_neI ?_
            exact ⟨_, rfl, rfl, rfl⟩
          exact ⟨rfl, rfl⟩
        refine ⟨fun z => ?_, fun _ => ?_⟩
        · exfalso
          have e1 := hr1 d1
          have e2 := hr2 d1
          have z2 : (!decide (d1 = d1) || (!decide (readI ⟨bs, kd, d1⟩ (32768 + place) = (bs.getD d1.toNat []).getD place.toNat 0) || !decide (readI ⟨bs, kd, d1⟩ (33024 + place) = (bs.getD (bs.length - 1) []).getD place.toNat 0))) = true := z
          rw [e1, e2] at z2
          simp at z2
        · exact ws_next (nx_here ⟨_, rfl, rfl⟩)
    rintro g' C' ⟨o16, rfl, rfl⟩
    have hj : ∃ (j : Nat) (c : Int), atI [SV.ref 0, .ref 1] who = some (.ref j) ∧ (lpC B.K bs kd d0 d1)[j]? = some (some (slotC B.K bs kd c)) := by
      rcases hww with rfl | rfl
      · exact ⟨0, d0, rfl, rfl⟩
      · exact ⟨1, d1, rfl, rfl⟩
    obtain ⟨j, c, ej, ec⟩ := hj
    refine ws_seq (ws_asg (we_methA hX ?_))
    walk_at "sx"
    refine wr_ixl (.cell rfl) ej ?_
    refine ⟨_, _, rfl, ec, .next (by decide) (.next (by decide) (.next (by decide) .nil)), wa_nil ⟨(lpC B.K bs kd d0 d1, j, ⟨bs, kd, c⟩), rfl, rfl, .cons (.cons (.cons (.cons .nil))), ⟨ec, sz⟩, fun s C' q => ?_, fun _ _ q => q.elim⟩⟩
    obtain ⟨q1, q2⟩ : s = .ref 4 ∧ C' = cartC (lpC B.K bs kd d0 d1) bs kd := q
    subst q1 q2
    have tr := cartC_tr (lpC B.K bs kd d0 d1) [] bs kd fun b hb => (hbk b hb).1
    have hdf := cartC_dfz (lpC B.K bs kd d0 d1) [] bs kd
    rw [List.append_nil] at tr hdf
    have hkeep : ∀ m : Nat, m < 4 → (cartC (lpC B.K bs kd d0 d1) bs kd)[m]? = (lpC B.K bs kd d0 d1)[m]? := fun m hm => by
      rw [cartC_app, List.getElem?_append_left (show m < 4 from hm)]
    have hsh : ∀ q ∈ cartKv bs kd, Shp 64 q.2 := fun q hq => by
      simp only [cartKv, List.mem_cons, List.not_mem_nil, or_false] at hq
      rcases hq with rfl | rfl
      · exact shp_list (n := 63) (shp_map fun b => shp_list (n := 62) (shp_map fun _ => shp_int))
      · exact shp_str hk2
    have hself := kvEq_self (ds := cartKv bs kd) (show ([.inr "banks", .inr "kind"] : List Key).Nodup by decide) hsh
    generalize cartC (lpC B.K bs kd d0 d1) bs kd = C1 at tr hdf hkeep ⊢
    walk_at "sx"
    refine we_cart rfl rfl ?_
    refine wr_neK hdf (.dat (cartKv bs kd)) hsh hsh ?_
    rw [hself]
    refine ⟨_, rfl, false, fun _ => ?_, fun z => (by cases z), fun _ => ?_⟩
    · walk_at "sx"
      refine wc_loK hdf ?_
      walk_at "sx"
      refine wr_neSame 1 (shp_list (n := 0) (shp_cons (shp_str (by decide +kernel)) (shp_cons (shp_str (by decide +kernel)) shp_nil))) rfl (by decide) ?_
      exact ⟨_, rfl, rfl, rfl⟩
    refine ws_next ?_
    refine ws_seq (ws_asgG ?_)
    walk_at "sx"
    refine wg_sub ?_
    walk_at "sx"
    refine ⟨.inr "banks", _, rfl, .cell tr.d .here, ?_⟩
    walk_at "sx"
    refine wr_md (by omega) ?_
    have hm0 : 0 ≤ place % (bs.length : Int) := Int.emod_nonneg _ (by omega)
    have hm1 : place % (bs.length : Int) < bs.length := Int.emod_lt_of_pos _ (by omega)
    refine wr_ixl (.cell tr.l) (refs_atI hm0 hm1) ?_
    walk_at "sx"
    obtain ⟨xs, e1, e2⟩ := tr.b (place % (bs.length : Int)).toNat (by omega)
    refine ⟨_, _, _, _, rfl, rfl, e1, ixN_nn hpl.1 (by rw [e2]; exact hpl.2), ?_⟩
    have tr2 : Tr C1 (C1.set ((lpC B.K bs kd d0 d1).length + 2 + (place % (bs.length : Int)).toNat) (some (Cell.lst (xs.set place.toNat (SV.dat (PyData.int 77)))))) (lpC B.K bs kd d0 d1).length bs.length kd := tr.set (by omega) (by rw [List.length_set]; exact e2)
    generalize (C1.set ((lpC B.K bs kd d0 d1).length + 2 + (place % (bs.length : Int)).toNat) (some (Cell.lst (xs.set place.toNat (SV.dat (PyData.int 77)))))) = C2 at tr2 ⊢
    refine ws_drop (we_app ?_)
    walk_at "sx"
    refine ⟨.inr "banks", _, rfl, .cell tr2.d .here, ?_⟩
    walk_at "sx"
    refine wr_ixl (.cell tr2.l) (refs_last (by omega)) ?_
    obtain ⟨ys, e3, e4⟩ := tr2.b (bs.length - 1) (by omega)
    refine ⟨_, _, rfl, e3, ?_⟩
    walk_at "sx"
    refine ⟨_, _, rfl, e3, Nat.lt_of_le_of_lt (Nat.le_of_eq e4) (Nat.lt_of_lt_of_le (show 256 < 1000 by decide) (len_ok rfl)), ?_⟩
    have hfin : ∀ m : Nat, m < 4 → (C2.set ((lpC B.K bs kd d0 d1).length + 2 + (bs.length - 1)) (some (.lst (ys ++ [.dat (.int 5)]))))[m]? = (lpC B.K bs kd d0 d1)[m]? := fun m hm => by
      rw [List.getElem?_set_ne (by show 4 + 2 + (bs.length - 1) ≠ m; omega), tr2.out m (.inl (show m < 4 from hm)), hkeep m hm]
    generalize (C2.set ((lpC B.K bs kd d0 d1).length + 2 + (bs.length - 1)) (some (.lst (ys ++ [.dat (.int 5)])))) = C3 at hfin ⊢
    refine lp_nx (c0 := d0) (c1 := d1) (bs := bs) (kd := kd) 0 1 2 3 (by decide) (hfin 0 (by decide)) (hfin 1 (by decide)) (hfin 2 (by decide)) (hfin 3 (by decide)) _
      (.no (.d (.d (.d (.d (.no (.no (.r (show 2 < 4 by decide) rfl (.r (show 3 < 4 by decide) rfl (.no (.no (.no (.no (.no (.no (.no (.no (.no .nil)))))))))))))))))) rfl hB ⟨rfl, d0, d1, hd0, hd1, rfl⟩
  · rintro g' C' ⟨rfl, c0, c1, h0, h1, rfl⟩
    walk_at "sx"
    refine wk_l_law_faults ⟨hds, hb2, fun b hb => (hbk b hb).1⟩ ?_
    exact rx_here ⟨_, rfl, rfl⟩
end
end K01

set_option Elab.async false
set_option linter.all false
set_option maxRecDepth 100000
set_option maxHeartbeats 0
namespace K01
open PySem PySem.Spec PyProof.Rows L2 Sy
def d_is_bank : He.DefD := ⟨("is_bank", none), "is_bank", "is_bank", defArgs s_is_bank, defBody s_is_bank, defScope s_is_bank, [], []⟩
def d_check_cart : He.DefD := ⟨("check_cart", none), "check_cart", "check_cart", defArgs s_check_cart, defBody s_check_cart, defScope s_check_cart, [], []⟩
def d_cart_of : He.DefD := ⟨("cart_of", none), "cart_of", "cart_of", defArgs s_cart_of, defBody s_cart_of, defScope s_cart_of, [], []⟩
def d_SlotU_initU : He.DefD := ⟨("Slot", some "__init__"), "__init__", "Slot.__init__", defArgs s_SlotU_initU, defBody s_SlotU_initU, defScope s_SlotU_initU, [], []⟩
def d_Slot_read : He.DefD := ⟨("Slot", some "read"), "read", "Slot.read", defArgs s_Slot_read, defBody s_Slot_read, defScope s_Slot_read, [], []⟩
def d_Slot_write : He.DefD := ⟨("Slot", some "write"), "write", "Slot.write", defArgs s_Slot_write, defBody s_Slot_write, defScope s_Slot_write, [], []⟩
def d_Slot_chosen : He.DefD := ⟨("Slot", some "chosen"), "chosen", "Slot.chosen", defArgs s_Slot_chosen, defBody s_Slot_chosen, defScope s_Slot_chosen, [], []⟩
def d_Slot_choose : He.DefD := ⟨("Slot", some "choose"), "choose", "Slot.choose", defArgs s_Slot_choose, defBody s_Slot_choose, defScope s_Slot_choose, [], []⟩
def d_Slot_cart : He.DefD := ⟨("Slot", some "cart"), "cart", "Slot.cart", defArgs s_Slot_cart, defBody s_Slot_cart, defScope s_Slot_cart, [], []⟩
def d_l_law_draws : He.DefD := ⟨("_law_draws", none), "_law_draws", "_law_draws", defArgs s_l_law_draws, defBody s_l_law_draws, defScope s_l_law_draws, [], []⟩
def d_l_law_mix : He.DefD := ⟨("_law_mix", none), "_law_mix", "_law_mix", defArgs s_l_law_mix, defBody s_l_law_mix, defScope s_l_law_mix, [], []⟩
def d_l_law_refused : He.DefD := ⟨("_law_refused", none), "_law_refused", "_law_refused", defArgs s_l_law_refused, defBody s_l_law_refused, defScope s_l_law_refused, [], []⟩
def d_l_law_bank : He.DefD := ⟨("_law_bank", none), "_law_bank", "_law_bank", defArgs s_l_law_bank, defBody s_l_law_bank, defScope s_l_law_bank, [], []⟩
def d_l_law_wrong : He.DefD := ⟨("_law_wrong", none), "_law_wrong", "_law_wrong", defArgs s_l_law_wrong, defBody s_l_law_wrong, defScope s_l_law_wrong, [], []⟩
def d_l_law_faults : He.DefD := ⟨("_law_faults", none), "_law_faults", "_law_faults", defArgs s_l_law_faults, defBody s_l_law_faults, defScope s_l_law_faults, [], []⟩
def d_law : He.DefD := ⟨("law", none), "law", "law", defArgs s_law, defBody s_law, defScope s_law, [], []⟩
def fn : List He.DefD := [d_is_bank, d_check_cart, d_cart_of, d_SlotU_initU, d_Slot_read, d_Slot_write, d_Slot_chosen, d_Slot_choose, d_Slot_cart, d_l_law_draws, d_l_law_mix, d_l_law_refused, d_l_law_bank, d_l_law_wrong, d_l_law_faults, d_law]
def fa : List He.Fa := [.glo "is_bank", .glo "check_cart", .glo "cart_of", .glo "_law_draws", .glo "_law_mix", .glo "_law_refused", .glo "_law_bank", .glo "_law_wrong", .glo "_law_faults", .glo "law", .free "abs", .free "all", .free "enumerate", .free "int", .free "len", .free "list", .free "min", .free "range", .free "super", .free "ValueError", .int "BANK" 256, .glo "KINDS", .int "MOST_BANKS" 8, .int "MOST_CODE" 250, .int "BANK_PAGE" 128, .int "LAST_PAGE" 129, .int "CODE" 33024, .int "LOW" 0, .int "HIGH" 129, .glo "BoxError", .glo "BadCart", .glo "Slot", .cls "Slot", .noat "Slot" "_banks", .noat "Slot" "_kind", .noat "Slot" "_chosen", .meth "Slot" "read", .meth "Slot" "write", .meth "Slot" "chosen", .meth "Slot" "choose", .meth "Slot" "cart", .mkr "Slot"]
def ex (K : PySem.W.Frag) : Bool := (He.tupB K "KINDS" [(.str "plain"), (.str "switched")] && (decide (PySem.W.nsIn K PySem.cStatics "thirdparty.any" = some none) && (supCB K (He.ga K "BadCart") (He.ga K "BoxError") (He.fAd K ("BoxError", some "__init__")) && (xfB K (He.ga K "BadCart") && (decide (PySem.W.exmOne K (.ref (He.ga K "BadCart")) (.ref (He.ga K "BadCart")) = some true) && (supB K PySem.Challenge.pw_caughtup_k01_whole_slots_and_cartridges.main.file "BoxError" && true))))))
abbrev Rr : PySem.W.OpenRow := PySem.W.OpenLaw.row PySem.Challenge.rw_caughtup_k01_whole_slots_and_cartridges
def sv : SupV := some (("__init__" : Str), "BoxError.__init__", defArgs s_BoxErrorU_initU, FuncBody.stmts (defBody s_BoxErrorU_initU), defScope s_BoxErrorU_initU, mainGlobals, builtinsNs, [("__class__" : Str)])
abbrev hk : PySem.W.Hook := hookS 5 fa fn ex "BoxError" sv
def ob (s : PySem.W.SharedT) : AlS := obsS 5 fa fn ex "BoxError" (HandSHeadRun.getT s)
theorem ob_eq (s : PySem.W.SharedT) : ob s = hk.obs s.abs := obsS_eq (HandSHeadRun.getT_eq s)
def loose0 : List PySem.Str := ["BoxError", "BadCart", "BANK", "KINDS", "MOST_BANKS", "MOST_CODE", "BANK_PAGE", "LAST_PAGE", "CODE", "LOW", "HIGH", "is_bank", "check_cart", "cart_of", "Slot", "_law_draws", "_law_mix", "_law_refused", "_law_bank", "_law_wrong", "_law_faults"]
def loose : List PySem.Str := loose0
theorem run_eq (w : World) : HandSHeadRun.RunEq Rr (PySem.W.view Rr.prog [24]) hk ob 3000 loose w := by
  intro os
  kernel_rfl
section
variable {P : Program} {w : World} {K : PySem.W.Frag} {h : Heap} {mg : Str → Option Value} {base : Heap}
theorem tx_of (X : K.In h) (G : h.Ns mainGlobals mg) (c : He.SaysD fa fn K) (m : ex K = true) : Tx K mg where
  g_is_bank := He.glo_ok X G (c.fact 0 (f := .glo "is_bank") rfl)
  g_check_cart := He.glo_ok X G (c.fact 1 (f := .glo "check_cart") rfl)
  g_cart_of := He.glo_ok X G (c.fact 2 (f := .glo "cart_of") rfl)
  g__law_draws := He.glo_ok X G (c.fact 3 (f := .glo "_law_draws") rfl)
  g__law_mix := He.glo_ok X G (c.fact 4 (f := .glo "_law_mix") rfl)
  g__law_refused := He.glo_ok X G (c.fact 5 (f := .glo "_law_refused") rfl)
  g__law_bank := He.glo_ok X G (c.fact 6 (f := .glo "_law_bank") rfl)
  g__law_wrong := He.glo_ok X G (c.fact 7 (f := .glo "_law_wrong") rfl)
  g__law_faults := He.glo_ok X G (c.fact 8 (f := .glo "_law_faults") rfl)
  g_law := He.glo_ok X G (c.fact 9 (f := .glo "law") rfl)
  f_abs := He.free_ok X G (c.fact 10 (f := .free "abs") rfl)
  f_all := He.free_ok X G (c.fact 11 (f := .free "all") rfl)
  f_enumerate := He.free_ok X G (c.fact 12 (f := .free "enumerate") rfl)
  f_int := He.free_ok X G (c.fact 13 (f := .free "int") rfl)
  f_len := He.free_ok X G (c.fact 14 (f := .free "len") rfl)
  f_list := He.free_ok X G (c.fact 15 (f := .free "list") rfl)
  f_min := He.free_ok X G (c.fact 16 (f := .free "min") rfl)
  f_range := He.free_ok X G (c.fact 17 (f := .free "range") rfl)
  f_super := He.free_ok X G (c.fact 18 (f := .free "super") rfl)
  f_ValueError := He.free_ok X G (c.fact 19 (f := .free "ValueError") rfl)
  i_BANK := He.int_ok X G (c.fact 20 (f := .int "BANK" 256) rfl)
  g_KINDS := He.glo_ok X G (c.fact 21 (f := .glo "KINDS") rfl)
  i_MOST_BANKS := He.int_ok X G (c.fact 22 (f := .int "MOST_BANKS" 8) rfl)
  i_MOST_CODE := He.int_ok X G (c.fact 23 (f := .int "MOST_CODE" 250) rfl)
  i_BANK_PAGE := He.int_ok X G (c.fact 24 (f := .int "BANK_PAGE" 128) rfl)
  i_LAST_PAGE := He.int_ok X G (c.fact 25 (f := .int "LAST_PAGE" 129) rfl)
  i_CODE := He.int_ok X G (c.fact 26 (f := .int "CODE" 33024) rfl)
  i_LOW := He.int_ok X G (c.fact 27 (f := .int "LOW" 0) rfl)
  i_HIGH := He.int_ok X G (c.fact 28 (f := .int "HIGH" 129) rfl)
  g_BoxError := He.glo_ok X G (c.fact 29 (f := .glo "BoxError") rfl)
  g_BadCart := He.glo_ok X G (c.fact 30 (f := .glo "BadCart") rfl)
  g_Slot := He.glo_ok X G (c.fact 31 (f := .glo "Slot") rfl)
  c_Slot := He.cls_ok (c.fact 32 (f := .cls "Slot") rfl)
  n_Slot__banks := He.noat_ok (c.fact 33 (f := .noat "Slot" "_banks") rfl)
  n_Slot__kind := He.noat_ok (c.fact 34 (f := .noat "Slot" "_kind") rfl)
  n_Slot__chosen := He.noat_ok (c.fact 35 (f := .noat "Slot" "_chosen") rfl)
  m_Slot_read := He.meth_ok (c.fact 36 (f := .meth "Slot" "read") rfl)
  m_Slot_write := He.meth_ok (c.fact 37 (f := .meth "Slot" "write") rfl)
  m_Slot_chosen := He.meth_ok (c.fact 38 (f := .meth "Slot" "chosen") rfl)
  m_Slot_choose := He.meth_ok (c.fact 39 (f := .meth "Slot" "choose") rfl)
  m_Slot_cart := He.meth_ok (c.fact 40 (f := .meth "Slot" "cart") rfl)
  k_Slot := He.mkr_ok (c.fact 41 (f := .mkr "Slot") rfl)
  t_KINDS := fun H => He.tupB_ok (Bool.and_eq_true_iff.mp m).1 H
  any := of_decide_eq_true (Bool.and_eq_true_iff.mp (Bool.and_eq_true_iff.mp m).2).1
  x_BadCart := supCB_ok (Bool.and_eq_true_iff.mp (Bool.and_eq_true_iff.mp (Bool.and_eq_true_iff.mp m).2).2).1
  xf_BadCart := xfB_ok (Bool.and_eq_true_iff.mp (Bool.and_eq_true_iff.mp (Bool.and_eq_true_iff.mp (Bool.and_eq_true_iff.mp m).2).2).2).1
  e_BadCart_BadCart := of_decide_eq_true (Bool.and_eq_true_iff.mp (Bool.and_eq_true_iff.mp (Bool.and_eq_true_iff.mp (Bool.and_eq_true_iff.mp (Bool.and_eq_true_iff.mp m).2).2).2).2).1
theorem sup_h (T : Tx K mg) (e : supV K "BoxError" = sv) (m : ex K = true) : SupH (PySem.Challenge.rw_caughtup_k01_whole_slots_and_cartridges).prog w K mg base := by
  obtain ⟨fd, F⟩ := sup_of (prog := (PySem.Challenge.rw_caughtup_k01_whole_slots_and_cartridges).prog) e (Bool.and_eq_true_iff.mp (Bool.and_eq_true_iff.mp (Bool.and_eq_true_iff.mp (Bool.and_eq_true_iff.mp (Bool.and_eq_true_iff.mp (Bool.and_eq_true_iff.mp m).2).2).2).2).2).1
  exact ⟨fd, sup_ok (k := 0) F rfl rfl rfl (by decide +kernel) rfl rfl rfl rfl ⟨_, rfl, rfl⟩ (by decide +kernel) T.f_super T.any rfl, sup_binds F fun _ _ _ _ _ _ _ us hl => match us, hl with | [_, _], _ => rfl⟩
theorem law_ok (T : Tx K mg) (hSup : SupH P w K mg base) (c : He.SaysD fa fn K) {fd : FuncData} (F : FunD K "law" "law" (defArgs s_law) (defBody s_law) (defScope s_law) [] [] (He.fAd K ("law", none)) fd) : FnOk P w K mg base (L2.CX P w) 10 (He.fAd K ("law", none)) fd ["script"] (c_law.sp K) := by
  have h_is_bank := ok_is_bank (P := P) (w := w) (base := base) T (c.def_ 0 (d := d_is_bank) rfl) (fun vs H Q E h => pure_is_bank vs H Q E h)
  have h_Slot_read := ok_Slot_read (P := P) (w := w) (base := base) T (c.def_ 4 (d := d_Slot_read) rfl) (fun vs H Q E h => pure_Slot_read T vs H Q E h)
  have h_Slot_write := ok_Slot_write (P := P) (w := w) (base := base) T (c.def_ 5 (d := d_Slot_write) rfl) (fun vs H Q E h => pure_Slot_write T vs H Q E h)
  have h_Slot_chosen := ok_Slot_chosen (P := P) (w := w) (base := base) T (c.def_ 6 (d := d_Slot_chosen) rfl) (fun vs H Q E h => pure_Slot_chosen T vs H Q E h)
  have h_Slot_choose := ok_Slot_choose (P := P) (w := w) (base := base) T (c.def_ 7 (d := d_Slot_choose) rfl) (fun vs H Q E h => pure_Slot_choose T vs H Q E h)
  have h_Slot_cart := ok_Slot_cart (P := P) (w := w) (base := base) T (c.def_ 8 (d := d_Slot_cart) rfl) (fun vs H Q E h => pure_Slot_cart T vs H Q E h)
  have h_l_law_draws := ok_l_law_draws (P := P) (w := w) (base := base) T (c.def_ 9 (d := d_l_law_draws) rfl) (fun vs H Q E h => Sy.pure_draws vs H Q E h)
  have h_l_law_mix := ok_l_law_mix (P := P) (w := w) (base := base) T (c.def_ 10 (d := d_l_law_mix) rfl) (fun vs H Q E h => Sy.pure_mix vs H Q E h)
  have h_l_law_wrong := ok_l_law_wrong (P := P) (w := w) (base := base) T (c.def_ 13 (d := d_l_law_wrong) rfl) (fun vs H Q E h => pure_l_law_wrong vs H Q E h)
  have h_l_law_bank := ok_l_law_bank (P := P) (w := w) (base := base) T (c.def_ 12 (d := d_l_law_bank) rfl) h_l_law_mix (fun vs H Q E h => pure_l_law_bank vs H Q E h)
  have h_check_cart := ok_check_cart (P := P) (w := w) (base := base) T (c.def_ 1 (d := d_check_cart) rfl) h_is_bank hSup (fun vs H Q E h => pure_check_cart T vs H Q E h)
  have h_cart_of := ok_cart_of (P := P) (w := w) (base := base) T (c.def_ 2 (d := d_cart_of) rfl) h_check_cart hSup (fun vs H Q E h => pure_cart_of T vs H Q E h)
  have h_SlotU_initU := ok_SlotU_initU (P := P) (w := w) (base := base) T (c.def_ 3 (d := d_SlotU_initU) rfl) h_check_cart (fun vs H Q E h => pure_SlotU_initU T vs H Q E h)
  have h_l_law_refused := ok_l_law_refused (P := P) (w := w) (base := base) T (c.def_ 11 (d := d_l_law_refused) rfl) h_check_cart h_SlotU_initU h_cart_of (fun vs H Q E h => pure_l_law_refused T vs H Q E h)
  have h_l_law_faults := ok_l_law_faults (P := P) (w := w) (base := base) T (c.def_ 14 (d := d_l_law_faults) rfl) h_l_law_mix h_l_law_wrong h_l_law_refused (fun vs H Q E h => pure_l_law_faults vs H Q E h)
  exact okF_law T F h_l_law_draws h_l_law_mix h_l_law_bank h_SlotU_initU h_Slot_choose h_Slot_write h_Slot_chosen h_Slot_read h_Slot_cart h_l_law_faults (fun vs H Q E h => pure_law T vs H Q E h)
theorem facts {f : Addr} (X : K.In h) (G : h.Ns mainGlobals mg) (hfa : mg ("law" : Str) = some (.ref f)) (c : He.SaysD fa fn K) (m : ex K = true) (hSup : ∀ base : Heap, SupH P w K mg base) :
    ∃ fd : FuncData, (∀ (s : Shared) (v : Value), BindsTo s fd ⟨[v], []⟩ [("script", v)]) ∧
      ∀ b2 : Heap, K.In b2 → b2.Ns mainGlobals mg → FnOk P w K mg b2 (L2.CX P w) 10 f fd ["script"] (c_law.sp K) := by
  have T := tx_of X G c m
  have e := hfa.symm.trans T.g_law
  cases e
  obtain ⟨fd, F⟩ := c.def_ 15 (d := d_law) rfl
  have b := FunD.bindsA (ps := ["script"]) F fun _ _ _ _ _ _ us hl => match us, hl with | [_], _ => rfl
  exact ⟨fd, fun s v => b s [v] rfl, fun b2 _ _ => law_ok T (hSup b2) c F⟩
end
theorem walk_w {l : PySem.W.OpenLaw} {n k : Nat} {q : Program} {loose : List Str} {XP : (Str → Option Value) → Heap → Prop} {YP : World → Heap → Prop} {d : DefRec} {CX : World → CXT} {x : Str}
    (m1 : l.most = some n) (m2 : n ≤ sizeLine) (m3 : d.params.defaults = []) (m4 : Room k callerA)
    (F : ∀ (w : World) (mg : Str → Option Value) (fa : Addr) (h : Heap), YP w h → h.Ns mainGlobals mg → mg d.name = some (.ref fa) → ∃ (K : PySem.W.Frag) (fd : FuncData) (sp : Sp), K.In h ∧ (∀ (s : Shared) (u : Value), BindsTo s fd ⟨[u], []⟩ [(x, u)]) ∧
        (∀ (H : Hp) (a : Addr) (ns : List Int), ns.length ≤ n → Only H → SqL K H a (ns.map V.int) → sp [.ref a] H (fun v _ => v = .bl true) fun _ _ _ => False) ∧ (∀ b2 : Heap, K.In b2 → b2.Ns mainGlobals mg → FnOk l.prog w K mg b2 (CX w) k fa fd [x] sp))
    (no : ∀ (w : World) (H : Hp) (s : Shared) (e : Value) (s' : Shared), CX w [] H s (fun _ _ _ => False) e s' → False) : PySem.W.WalkO q loose XP YP l.row.toRowW d [] (fun f vs => PySem.call f vs) := by
  refine Att.attach_call m1 m3 fun w s₀ s₁ mg mb fa o pm cd doc a vs ns G Y ho h1 h2 h3 hobj hints h4 h5 => ?_
  obtain ⟨K, fd, sp, KX, hb, hsp, hF⟩ := F w mg fa _ Y G.T.g h3
  refine law_call KX G.T.g G.T.b G.T.builtins G.T.nolimit h5 hobj hints (Nat.le_trans h4 m2) m4 hF hb ?_ ?_
  · exact fun H hO hS => hsp H a ns h4 hO hS
  · exact fun H e s' => no w H s₁ e s'

end K01
open PySem PySem.W PySem.Calls PyProof.Rows
theorem PySem.Challenge.cw_caughtup_k01_whole_slots_and_cartridges_holds : PySem.Challenge.rw_caughtup_k01_whole_slots_and_cartridges.Holds := by
  w_on; o_law
  refine HandSHeadRun.head_any (r := OpenLaw.row PySem.Challenge.rw_caughtup_k01_whole_slots_and_cartridges) (q := view (OpenLaw.row PySem.Challenge.rw_caughtup_k01_whole_slots_and_cartridges).prog [24]) (H := K01.hk) (ob := K01.ob) (M := 3000) (loose := K01.loose)
    (d := HandSHeadRun.topDef (OpenLaw.row PySem.Challenge.rw_caughtup_k01_whole_slots_and_cartridges).prog 24) (kwd := []) K01.ob_eq (by kernel_rfl) (fun s => by kernel_rfl) K01.run_eq (by kernel_rfl) (by kernel_rfl)
    (by kernel_rfl) (by rfl) (by first | assumption | decide +kernel) (by decide +kernel)
    ⟨rfl, rfl, rfl, rfl, rfl, by decide +kernel⟩ ?hw ?hc
  case hw => w_witness2
  case hc =>
    refine K01.walk_w (l := PySem.Challenge.rw_caughtup_k01_whole_slots_and_cartridges) (n := 63) (k := 10) (x := "script") (CX := fun w => L2.CX (PySem.Challenge.rw_caughtup_k01_whole_slots_and_cartridges).prog w)
      rfl (by decide) (by kernel_rfl) ⟨rfl, by decide, by decide⟩ ?F ?no
    case no =>
      rintro w H s e s' ⟨a, b, c, d, z⟩
      simp at z
    intro w mg fa h Y G hmg0
    obtain ⟨K, KX, c, m, hv⟩ := Y
    have hmg : mg ("law" : PySem.Str) = some (.ref fa) := by
      have en : (HandSHeadRun.topDef (OpenLaw.row PySem.Challenge.rw_caughtup_k01_whole_slots_and_cartridges).prog 24).name = ("law" : PySem.Str) := by kernel_rfl
      rw [← en]
      exact hmg0
    obtain ⟨fd, hb, hF⟩ := K01.facts (P := (PySem.Challenge.rw_caughtup_k01_whole_slots_and_cartridges).prog) (w := w) KX G hmg c m (fun base => K01.sup_h (K01.tx_of KX G c m) hv m)
    refine ⟨K, fd, K01.c_law.sp K, KX, hb, fun H a ns hl _ hS => ?_, hF⟩
    refine ⟨ns, H, hl, Sy.Le.rfl', rfl, .cons ⟨a, rfl, hS⟩ .nil, fun d v F' H' hd _ _ _ _ hv => ?_, fun cls n dd fs H' x => x.elim⟩
    have hd' : d = PyData.bool true := hd
    subst hd'
    exact Sy.Is.bl_inv hv
