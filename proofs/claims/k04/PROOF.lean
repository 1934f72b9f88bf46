import PyProof.Rows.All
import Wide.All
import OpenK.AllK
import Wide.FinOn
import HandS.ForExc
import HandS.ForMost
import HandS.More
import HandS.Style
import HandS.Star
import HandS.DeepEq
import HandS.Defaults
import HandS.HeadHook1
import HandS.HeadHook2
import KE.KStateDown
import Lean
import HandS.Head0
import HandS.Head1
import HandS.Head2
import HandS.HeadEnd
import HandS.HeadHook3
import HandS.HeadHook4
import PySem.Challenge.RW_caughtup_k04_whole_dots_of_any_movers
set_option Elab.async false
set_option linter.all false
set_option maxRecDepth 100000
set_option maxHeartbeats 400000
namespace Sy
open PySem L2

/-! ## data -/
abbrev D := PyData
/-- a heap within another -/
def Le (F G : Hp) : Prop := ∀ b o, F b = some o → G b = some o
theorem Le.rfl' {F : Hp} : Le F F := fun _ _ h => h
theorem Le.tr {F G J : Hp} (a : Le F G) (b : Le G J) : Le F J := fun x o h => b x o (a x o h)
theorem Le.sq {K : PySem.W.Frag} {F G : Hp} {a : Addr} {xs : List V} (e : Le F G) (h : SqL K F a xs) : SqL K G a xs := by
  rcases h with (h | ⟨o, h⟩) | h
  · exact .inl (.inl (e _ _ h))
  · exact .inl (.inr ⟨o, e _ _ h⟩)
  · exact .inr h
theorem Le.sqt {K : PySem.W.Frag} {F G : Hp} {a : Addr} {xs : List V} (e : Le F G) (h : SqT K F a xs) : SqT K G a xs := by
  rcases h with (h | ⟨o, h⟩) | h
  · exact .inl (.inl (e _ _ h))
  · exact .inl (.inr ⟨o, e _ _ h⟩)
  · exact .inr h
def keyD : Key → D
  | .inl i => .int i
  | .inr x => .str x
mutual
inductive Is (K : PySem.W.Frag) (F : Hp) : V → D → Prop
  | non : Is K F .non .none
  | bl (b : Bool) : Is K F (.bl b) (.bool b)
  | int (i : Int) : Is K F (.int i) (.int i)
  | str (x : Str) : Is K F (.str x) (.str x)
  | lst {a : Addr} {xs : List V} {ds : List D} : F a = some (.lst xs) → IsAll K F xs ds → Is K F (.ref a) (.list ds)
  | tup {a : Addr} {xs : List V} {ds : List D} : SqT K F a xs → IsAll K F xs ds → Is K F (.ref a) (.tuple ds)
  | dct {a : Addr} {ks : List (Key × V)} {ds : List (D × D)} : F a = some (.dK ks) → IsKv K F ks ds → Is K F (.ref a) (.dict ds)
inductive IsAll (K : PySem.W.Frag) (F : Hp) : List V → List D → Prop
  | nil : IsAll K F [] []
  | cons {v : V} {vs : List V} {d : D} {ds : List D} : Is K F v d → IsAll K F vs ds → IsAll K F (v :: vs) (d :: ds)
inductive IsKv (K : PySem.W.Frag) (F : Hp) : List (Key × V) → List (D × D) → Prop
  | nil : IsKv K F [] []
  | cons {k : Key} {v : V} {vs : List (Key × V)} {d : D} {ds : List (D × D)} : Is K F v d → IsKv K F vs ds → IsKv K F ((k, v) :: vs) ((keyD k, d) :: ds)
end
section
variable {K : PySem.W.Frag} {F G : Hp}
mutual
theorem Is.mono (e : Le F G) : ∀ {v : V} {d : D}, Is K F v d → Is K G v d
  | _, _, .non => .non
  | _, _, .bl b => .bl b
  | _, _, .int i => .int i
  | _, _, .str x => .str x
  | _, _, .lst h r => .lst (e _ _ h) (IsAll.mono e r)
  | _, _, .tup h r => .tup (e.sqt h) (IsAll.mono e r)
  | _, _, .dct h r => .dct (e _ _ h) (IsKv.mono e r)
theorem IsAll.mono (e : Le F G) : ∀ {v : List V} {d : List D}, IsAll K F v d → IsAll K G v d
  | _, _, .nil => .nil
  | _, _, .cons h r => .cons (h.mono e) (IsAll.mono e r)
theorem IsKv.mono (e : Le F G) : ∀ {v : List (Key × V)} {d : List (D × D)}, IsKv K F v d → IsKv K G v d
  | _, _, .nil => .nil
  | _, _, .cons h r => .cons (h.mono e) (IsKv.mono e r)
end
theorem IsAll.length : ∀ {vs : List V} {ds : List D}, IsAll K F vs ds → vs.length = ds.length
  | _, _, .nil => rfl
  | _, _, .cons _ r => congrArg (· + 1) (IsAll.length r)
end
/-! ## symbolic values, cells -/
inductive SV where
  | dat (d : D)
  | ref (i : Nat)
  /-- a list of ints that is read alone (the script) -/
  | scr (ns : List Int)
/-- no cell is named -/
def SV.cl : SV → Bool
  | .ref _ => false
  | _ => true
inductive Cell where
  | lst (xs : List SV)
  | dct (ks : List (Key × SV))
  | ins (C : Addr) (fs : List (Str × SV))
abbrev Cs := List (Option Cell)
abbrev Gs := List (Option SV)
/-- what a value stands for: F frozen, ρ the cells' places, n how many there are -/
def SIs (K : PySem.W.Frag) (F : Hp) (ρ : Nat → Addr) (n : Nat) (v : V) : SV → Prop
  | .dat d => Is K F v d
  | .ref i => i < n ∧ v = .ref (ρ i)
  | .scr ns => ∃ a, v = .ref a ∧ SqL K F a (ns.map V.int)
inductive CIs (K : PySem.W.Frag) (F : Hp) (ρ : Nat → Addr) (n : Nat) : HO → Cell → Prop
  | lst {vs : List V} {xs : List SV} : Paired (SIs K F ρ n) vs xs → CIs K F ρ n (.lst vs) (.lst xs)
  | dct {vs : List (Key × V)} {xs : List (Key × SV)} : Paired (fun p q => p.1 = q.1 ∧ SIs K F ρ n p.2 q.2) vs xs → CIs K F ρ n (.dK vs) (.dct xs)
  | ins {C dx : Addr} {vs : List (Str × V)} {xs : List (Str × SV)} : Paired (fun p q => p.1 = q.1 ∧ SIs K F ρ n p.2 q.2) vs xs → CIs K F ρ n (.ins C dx vs) (.ins C xs)
/-- the places, one more -/
def ext (ρ : Nat → Addr) (n : Nat) (p : Addr) (i : Nat) : Addr := if i = n then p else ρ i
theorem ext_new (ρ : Nat → Addr) (n : Nat) (p : Addr) : ext ρ n p n = p := if_pos rfl
theorem ext_old (ρ : Nat → Addr) (n : Nat) (p : Addr) {i : Nat} (h : i < n) : ext ρ n p i = ρ i := if_neg (Nat.ne_of_lt h)
theorem SIs.mono {K : PySem.W.Frag} {F G : Hp} {ρ ρ' : Nat → Addr} {n n' : Nat} (e : Le F G) (hn : n ≤ n') (hr : ∀ i, i < n → ρ' i = ρ i) {v : V} : ∀ {s : SV}, SIs K F ρ n v s → SIs K G ρ' n' v s
  | .dat _, h => Is.mono e h
  | .ref i, ⟨h, q⟩ => ⟨Nat.lt_of_lt_of_le h hn, by rw [hr i h]; exact q⟩
  | .scr _, ⟨a, q, h⟩ => ⟨a, q, e.sq h⟩
theorem SIs.cl {K : PySem.W.Frag} {F : Hp} {ρ ρ' : Nat → Addr} {n n' : Nat} {v : V} : ∀ {s : SV}, s.cl = true → SIs K F ρ n v s → SIs K F ρ' n' v s
  | .dat _, _, h => h
  | .scr _, _, h => h
theorem CIs.mono {K : PySem.W.Frag} {F G : Hp} {ρ ρ' : Nat → Addr} {n n' : Nat} (e : Le F G) (hn : n ≤ n') (hr : ∀ i, i < n → ρ' i = ρ i) {o : HO} {c : Cell} (h : CIs K F ρ n o c) : CIs K G ρ' n' o c := by
  cases h with
  | lst h => exact .lst (Paired.mapP h fun _ _ q => q.mono e hn hr)
  | dct h => exact .dct (Paired.mapP h fun _ _ q => ⟨q.1, q.2.mono e hn hr⟩)
  | ins h => exact .ins (Paired.mapP h fun _ _ q => ⟨q.1, q.2.mono e hn hr⟩)
/-! ## the state -/
structure Bs where
  K : PySem.W.Frag
  H0 : Hp
  F0 : Hp
  n0 : Nat
  r0 : Nat → Addr
structure Rl (B : Bs) (g : Gs) (S : List SV) (C : Cs) (σ : St) (vs : List V) (H : Hp) (F : Hp) (ρ : Nat → Addr) : Prop where
  le : Le F H
  sub : Le B.F0 F
  keep : ∀ b o, B.H0 b = some o → (∀ i, i < B.n0 → B.r0 i ≠ b) → H b = some o
  there : ∀ b, H b = none → B.H0 b = none
  frz : ∀ b o, F b = some o → B.F0 b = some o ∨ B.H0 b = none ∨ ∃ i, i < B.n0 ∧ B.r0 i = b
  rho : ∀ i, i < B.n0 → ρ i = B.r0 i
  nc : B.n0 ≤ C.length
  inj : ∀ i j c d, C[i]? = some (some c) → C[j]? = some (some d) → ρ i = ρ j → i = j
  cell : ∀ (i : Nat) (c : Cell), C[i]? = some (some c) → F (ρ i) = none ∧ (∃ o, H (ρ i) = some o ∧ CIs B.K F ρ C.length o c) ∧ (i < B.n0 ∨ B.H0 (ρ i) = none)
  len : σ.length = g.length
  slot : ∀ (i : Nat) (s : SV), g[i]? = some (some s) → ∃ v, σ[i]? = some (some v) ∧ SIs B.K F ρ C.length v s
  stk : Paired (SIs B.K F ρ C.length) vs S
def Rel (B : Bs) (g : Gs) (S : List SV) (C : Cs) (σ : St) (vs : List V) (H : Hp) : Prop := ∃ F ρ, Rl B g S C σ vs H F ρ
section
variable {B : Bs} {g : Gs} {S : List SV} {C : Cs} {σ : St} {vs : List V} {H : Hp} {F : Hp} {ρ : Nat → Addr}
theorem Rl.push {v : V} {s : SV} (R : Rl B g S C σ vs H F ρ) (h : SIs B.K F ρ C.length v s) : Rl B g (s :: S) C σ (v :: vs) H F ρ := { R with stk := .cons h R.stk }
theorem Rl.pop {v : V} {s : SV} (R : Rl B g (s :: S) C σ (v :: vs) H F ρ) : Rl B g S C σ vs H F ρ ∧ SIs B.K F ρ C.length v s := by
  have h := R.stk
  cases h with
  | cons a b => exact ⟨{ R with stk := b }, a⟩
theorem Rl.var {i : Nat} {s : SV} (R : Rl B g S C σ vs H F ρ) (h : g[i]? = some (some s)) : ∃ v, σ[i]? = some (some v) ∧ Rl B g (s :: S) C σ (v :: vs) H F ρ :=
  let ⟨v, e, q⟩ := R.slot i s h
  ⟨v, e, R.push q⟩
theorem Rl.set {i : Nat} {v : V} {s : SV} (R : Rl B g (s :: S) C σ (v :: vs) H F ρ) : Rl B (g.set i (some s)) S C (σ.set i (some v)) vs H F ρ := by
  obtain ⟨R', h⟩ := R.pop
  refine { R' with len := by simpa using R'.len, slot := fun j t e => ?_ }
  by_cases hj : i = j
  · subst hj
    by_cases hi : i < g.length
    · rw [List.getElem?_set_self hi] at e
      cases e
      exact ⟨v, List.getElem?_set_self (by rw [R'.len]; exact hi), h⟩
    · rw [List.getElem?_eq_none (by simpa using Nat.le_of_not_lt hi)] at e
      cases e
  · rw [List.getElem?_set_ne hj] at e
    obtain ⟨u, q, r⟩ := R'.slot j t e
    exact ⟨u, by rw [List.getElem?_set_ne hj]; exact q, r⟩
/-- a new thing is laid into the frozen part -/
theorem Rl.lay {p : Addr} {o : HO} (R : Rl B g S C σ vs H F ρ) (hp : H p = none) : Rl B g S C σ vs (upd H p o) (upd F p o) ρ ∧ Le F (upd F p o) := by
  have hF : F p = none := by
    cases e : F p with
    | none => rfl
    | some u => rw [R.le p u e] at hp; cases hp
  have L : Le F (upd F p o) := fun b u e => by rw [upd_ne (ne_of_none e hF)]; exact e
  have nc : ∀ i c, C[i]? = some (some c) → ρ i ≠ p := fun i c e z => by
    obtain ⟨_, ⟨u, q, _⟩, _⟩ := R.cell i c e
    rw [z, hp] at q; cases q
  refine ⟨⟨fun b u e => ?_, R.sub.tr L, fun b u e k => ?_, fun b e => ?_, fun b u e => ?_, R.rho, R.nc, R.inj, fun i c e => ?_, R.len, fun i s e => ?_, ?_⟩, L⟩
  · by_cases hb : b = p
    · subst hb; rw [upd_same] at e ⊢; exact e
    · rw [upd_ne hb] at e ⊢; exact R.le b u e
  · rw [upd_ne (ne_of_none (R.keep b u e k) hp)]; exact R.keep b u e k
  · by_cases hb : b = p
    · subst hb; rw [upd_same] at e; cases e
    · rw [upd_ne hb] at e; exact R.there b e
  · by_cases hb : b = p
    · subst hb; exact .inr (.inl (R.there b hp))
    · rw [upd_ne hb] at e; exact R.frz b u e
  · obtain ⟨q1, ⟨u, q2, q3⟩, q4⟩ := R.cell i c e
    exact ⟨by rw [upd_ne (nc i c e)]; exact q1, ⟨u, by rw [upd_ne (nc i c e)]; exact q2, q3.mono L (Nat.le_refl _) fun _ _ => rfl⟩, q4⟩
  · obtain ⟨v, q, r⟩ := R.slot i s e
    exact ⟨v, q, r.mono L (Nat.le_refl _) fun _ _ => rfl⟩
  · exact Paired.mapP R.stk fun _ _ q => q.mono L (Nat.le_refl _) fun _ _ => rfl
/-- a new thing is laid as a cell -/
theorem Rl.lay_c {p : Addr} {o : HO} {c : Cell} (R : Rl B g S C σ vs H F ρ) (hp : H p = none) (hc : CIs B.K F ρ C.length o c) :
    Rl B g (.ref C.length :: S) (C ++ [some c]) σ (.ref p :: vs) (upd H p o) F (ext ρ C.length p) := by
  have hF : F p = none := by
    cases e : F p with
    | none => rfl
    | some u => rw [R.le p u e] at hp; cases hp
  have hr : ∀ i, i < C.length → ext ρ C.length p i = ρ i := fun i h => ext_old ρ _ p h
  have hn : C.length ≤ (C ++ [some c]).length := by simp
  have old : ∀ i d, (C ++ [some c])[i]? = some (some d) → (i < C.length ∧ C[i]? = some (some d)) ∨ (i = C.length ∧ d = c) := fun i d e => by
    by_cases h : i < C.length
    · rw [List.getElem?_append_left h] at e; exact .inl ⟨h, e⟩
    · have h2 := (List.getElem?_eq_some_iff.mp e).1
      rw [List.length_append, List.length_singleton] at h2
      have h3 : i = C.length := by omega
      subst h3
      rw [List.getElem?_append_right (Nat.le_refl _), Nat.sub_self] at e
      exact .inr ⟨rfl, (Option.some.inj (Option.some.inj e)).symm⟩
  have nc : ∀ i c, C[i]? = some (some c) → ρ i ≠ p := fun i c e z => by
    obtain ⟨_, ⟨u, q, _⟩, _⟩ := R.cell i c e
    rw [z, hp] at q; cases q
  have mo : ∀ {v : V} {s : SV}, SIs B.K F ρ C.length v s → SIs B.K F (ext ρ C.length p) (C ++ [some c]).length v s := fun {v s} q => q.mono Le.rfl' hn hr
  refine ⟨fun b u e => ?_, R.sub, fun b u e k => ?_, fun b e => ?_, R.frz, fun i h => ?_, Nat.le_trans R.nc hn, fun i j c d e1 e2 z => ?_, fun i d e => ?_, R.len, fun i s e => ?_, ?_⟩
  · rw [upd_ne (ne_of_none e hF)]; exact R.le b u e
  · rw [upd_ne (ne_of_none (R.keep b u e k) hp)]; exact R.keep b u e k
  · by_cases hb : b = p
    · subst hb; rw [upd_same] at e; cases e
    · rw [upd_ne hb] at e; exact R.there b e
  · rw [hr i (Nat.lt_of_lt_of_le h R.nc)]; exact R.rho i h
  · rcases old i c e1 with ⟨h1, f1⟩ | ⟨h1, _⟩ <;> rcases old j d e2 with ⟨h2, f2⟩ | ⟨h2, _⟩
    · rw [hr i h1, hr j h2] at z; exact R.inj i j c d f1 f2 z
    · rw [hr i h1] at z
      have z' : ρ i = p := by rw [z, h2]; exact ext_new _ _ _
      exact absurd z' (nc i c f1)
    · rw [hr j h2] at z
      have z' : ρ j = p := by rw [← z, h1]; exact ext_new _ _ _
      exact absurd z' (nc j d f2)
    · rw [h1, h2]
  · rcases old i d e with ⟨h1, f1⟩ | ⟨h1, h2⟩
    · obtain ⟨q1, ⟨u, q2, q3⟩, q4⟩ := R.cell i d f1
      rw [hr i h1]
      exact ⟨q1, ⟨u, by rw [upd_ne (nc i d f1)]; exact q2, q3.mono Le.rfl' hn hr⟩, q4⟩
    · subst h1 h2
      rw [ext_new]
      exact ⟨hF, ⟨o, upd_same, hc.mono Le.rfl' hn hr⟩, .inr (R.there p hp)⟩
  · obtain ⟨v, q, r⟩ := R.slot i s e
    exact ⟨v, q, mo r⟩
  · refine .cons ⟨by simp, ?_⟩ (Paired.mapP R.stk fun _ _ q => mo q)
    rw [ext_new]
/-- a cell is written -/
theorem Rl.wr {i : Nat} {o : HO} {c c' : Cell} (R : Rl B g S C σ vs H F ρ) (hi : C[i]? = some (some c)) (hc : CIs B.K F ρ C.length o c') :
    Rl B g S (C.set i (some c')) σ vs (upd H (ρ i) o) F ρ := by
  obtain ⟨q1, ⟨u, q2, _⟩, q4⟩ := R.cell i c hi
  have hl : (C.set i (some c')).length = C.length := by simp
  have li : i < C.length := (List.getElem?_eq_some_iff.mp hi).1
  have old : ∀ j d, (C.set i (some c'))[j]? = some (some d) → (j ≠ i ∧ C[j]? = some (some d)) ∨ (j = i ∧ d = c') := fun j d e => by
    by_cases h : i = j
    · subst h
      rw [List.getElem?_set_self li] at e
      exact .inr ⟨rfl, (Option.some.inj (Option.some.inj e)).symm⟩
    · rw [List.getElem?_set_ne h] at e; exact .inl ⟨Ne.symm h, e⟩
  have any : ∀ j d, (C.set i (some c'))[j]? = some (some d) → ∃ d', C[j]? = some (some d') := fun j d e => by
    rcases old j d e with ⟨_, f⟩ | ⟨h, _⟩
    · exact ⟨d, f⟩
    · exact ⟨c, by rw [h]; exact hi⟩
  refine ⟨fun b u e => ?_, R.sub, fun b u e k => ?_, fun b e => ?_, R.frz, R.rho, by rw [hl]; exact R.nc, fun a j c d e1 e2 z => ?_, fun j d e => ?_, R.len, fun j s e => ?_, ?_⟩
  · rw [upd_ne (ne_of_none e q1)]; exact R.le b u e
  · have nb : b ≠ ρ i := fun z => by
      rcases q4 with q4 | q4
      · exact k i q4 (by rw [z]; exact (R.rho i q4).symm)
      · rw [z, q4] at e; cases e
    rw [upd_ne nb]; exact R.keep b u e k
  · by_cases hb : b = ρ i
    · subst hb; rw [upd_same] at e; cases e
    · rw [upd_ne hb] at e; exact R.there b e
  · obtain ⟨c1, f1⟩ := any a c e1
    obtain ⟨c2, f2⟩ := any j d e2
    exact R.inj a j c1 c2 f1 f2 z
  · rw [hl]
    rcases old j d e with ⟨h, f⟩ | ⟨h, h2⟩
    · obtain ⟨p1, ⟨w, p2, p3⟩, p4⟩ := R.cell j d f
      have ne : ρ j ≠ ρ i := fun z => h (R.inj j i d c f hi z)
      exact ⟨p1, ⟨w, by rw [upd_ne ne]; exact p2, p3⟩, p4⟩
    · subst h h2
      exact ⟨q1, ⟨o, upd_same, hc⟩, q4⟩
  · rw [hl]; exact R.slot j s e
  · rw [hl]; exact R.stk
end
end Sy

set_option Elab.async false
set_option linter.all false
set_option maxRecDepth 100000
set_option maxHeartbeats 400000
namespace Sy
open PySem L2
/-! ## judgements -/
def We (B : Bs) (te : TE) (g : Gs) (S : List SV) (C : Cs) (k : SV → Cs → Prop) : Prop :=
  ∀ σ vs H Q, Rel B g S C σ vs H → (∀ s C' v H', k s C' → Rel B g (s :: S) C' σ (v :: vs) H' → Q v H') → te σ H Q
def Wt (B : Bs) (tt : TT) (g : Gs) (S : List SV) (C : Cs) (k : Bool → Cs → Prop) : Prop :=
  ∀ σ vs H Q, Rel B g S C σ vs H → (∀ b C' H', k b C' → Rel B g S C' σ vs H' → Q b H') → tt σ H Q
def Wa (B : Bs) (ta : TA) (g : Gs) (S : List SV) (C : Cs) (k : List SV → Cs → Prop) : Prop :=
  ∀ σ vs H Q, Rel B g S C σ vs H → (∀ ss C' us H', k ss C' → us.length = ss.length → Rel B g (ss.reverse ++ S) C' σ (us.reverse ++ vs) H' → Q us H') → ta σ H Q
structure Ks where
  nx : Gs → Cs → Prop
  rt : SV → Cs → Prop
  bk : Gs → Cs → Prop := fun _ _ => False
  ct : Gs → Cs → Prop := fun _ _ => False
structure Dk (B : Bs) (S : List SV) (vs : List V) (k : Ks) (D : Ends) : Prop where
  nx : ∀ g C σ H, k.nx g C → Rel B g S C σ vs H → D.nx σ H
  rt : ∀ s C v H, k.rt s C → Rel B [] [s] C [] [v] H → D.rt v H
  bk : ∀ g C σ H, k.bk g C → Rel B g S C σ vs H → D.bk σ H
  ct : ∀ g C σ H, k.ct g C → Rel B g S C σ vs H → D.ct σ H
def Ws (B : Bs) (t : TS) (g : Gs) (S : List SV) (C : Cs) (k : Ks) : Prop := ∀ σ vs H D, Rel B g S C σ vs H → Dk B S vs k D → t D σ H
/-- a two-place operation on values; the second operand on top -/
def Wr (B : Bs) (r : R2) (x y : SV) (g : Gs) (S : List SV) (C : Cs) (k : SV → Cs → Prop) : Prop :=
  ∀ σ vs H Q v w, Rel B g (y :: x :: S) C σ (w :: v :: vs) H → (∀ s C' u H', k s C' → Rel B g (s :: S) C' σ (u :: vs) H' → Q u H') → r v w H Q
/-- a built-in's call -/
def Wc (B : Bs) (r : List V → Hp → VK → Prop) (ss : List SV) (g : Gs) (S : List SV) (C : Cs) (k : SV → Cs → Prop) : Prop :=
  ∀ σ vs H Q us, us.length = ss.length → Rel B g (ss.reverse ++ S) C σ (us.reverse ++ vs) H → (∀ s C' u H', k s C' → Rel B g (s :: S) C' σ (u :: vs) H' → Q u H') → r us H Q
section
variable {B : Bs} {g : Gs} {S : List SV} {C : Cs} {k : SV → Cs → Prop} {kb : Bool → Cs → Prop} {ka : List SV → Cs → Prop} {te ta tb tc : TE} {tt tu : TT}
theorem Rel.drop1 {x : SV} {σ : St} {v : V} {vs : List V} {H : Hp} (R : Rel B g (x :: S) C σ (v :: vs) H) : Rel B g S C σ vs H := let ⟨F, ρ, R⟩ := R; ⟨F, ρ, R.pop.1⟩
/-- the one below the top away -/
theorem Rel.drop2 {x y : SV} {σ : St} {v w : V} {vs : List V} {H : Hp} (R : Rel B g (y :: x :: S) C σ (w :: v :: vs) H) : Rel B g (y :: S) C σ (w :: vs) H :=
  let ⟨F, ρ, R⟩ := R
  let ⟨R1, h⟩ := R.pop
  ⟨F, ρ, R1.pop.1.push h⟩
theorem Rel.top {x : SV} {σ : St} {v : V} {vs : List V} {H : Hp} (R : Rel B g (x :: S) C σ (v :: vs) H) : ∃ F ρ, Rl B g S C σ vs H F ρ ∧ SIs B.K F ρ C.length v x := let ⟨F, ρ, R⟩ := R; ⟨F, ρ, R.pop⟩
/-- a scalar on top -/
def scS : V → Option D
  | .non => some .none
  | .bl b => some (.bool b)
  | .int i => some (.int i)
  | .str x => some (.str x)
  | _ => none
theorem scS_is {K : PySem.W.Frag} {F : Hp} {v : V} {d : D} (h : scS v = some d) : Is K F v d := by
  cases v with
  | non => cases h; exact .non
  | bl b => cases h; exact .bl b
  | int i => cases h; exact .int i
  | str x => cases h; exact .str x
  | _ => cases h
theorem Rel.sc {σ : St} {v : V} {d : D} {vs : List V} {H : Hp} (R : Rel B g S C σ vs H) (h : scS v = some d) : Rel B g (.dat d :: S) C σ (v :: vs) H := let ⟨F, ρ, R⟩ := R; ⟨F, ρ, R.push (scS_is h)⟩
theorem Is.int_inv {K : PySem.W.Frag} {F : Hp} {v : V} {i : Int} (h : Is K F v (.int i)) : v = .int i := by cases h; rfl
theorem Is.bl_inv {K : PySem.W.Frag} {F : Hp} {v : V} {i : Bool} (h : Is K F v (.bool i)) : v = .bl i := by cases h; rfl
theorem Is.str_inv {K : PySem.W.Frag} {F : Hp} {v : V} {i : Str} (h : Is K F v (.str i)) : v = .str i := by cases h; rfl
theorem Is.non_inv {K : PySem.W.Frag} {F : Hp} {v : V} (h : Is K F v .none) : v = .non := by cases h; rfl
theorem Rel.top_int {σ : St} {v : V} {i : Int} {vs : List V} {H : Hp} (R : Rel B g (.dat (.int i) :: S) C σ (v :: vs) H) : v = .int i := let ⟨_, _, _, h⟩ := R.top; Is.int_inv h
theorem Rel.top_bl {σ : St} {v : V} {i : Bool} {vs : List V} {H : Hp} (R : Rel B g (.dat (.bool i) :: S) C σ (v :: vs) H) : v = .bl i := let ⟨_, _, _, h⟩ := R.top; Is.bl_inv h
theorem Rel.top_str {σ : St} {v : V} {i : Str} {vs : List V} {H : Hp} (R : Rel B g (.dat (.str i) :: S) C σ (v :: vs) H) : v = .str i := let ⟨_, _, _, h⟩ := R.top; Is.str_inv h

/-! ### names, constants -/
theorem we_var {i : Nat} {s : SV} (h : g[i]? = some (some s)) (q : k s C) : We B (tVar i) g S C k := fun σ vs H Q ⟨F, ρ, R⟩ kq =>
  let ⟨v, e, R'⟩ := R.var h
  ⟨v, e, kq s C v H q ⟨F, ρ, R'⟩⟩
theorem we_sc {v : V} {d : D} (h : scS v = some d) (q : k (.dat d) C) : We B (tC v) g S C k := fun σ vs H Q R kq => kq _ C v H q (R.sc h)
theorem we_int {i : Int} (q : k (.dat (.int i)) C) : We B (tC (.int i)) g S C k := we_sc rfl q
theorem we_bl {i : Bool} (q : k (.dat (.bool i)) C) : We B (tC (.bl i)) g S C k := we_sc rfl q
theorem we_str {i : Str} (q : k (.dat (.str i)) C) : We B (tC (.str i)) g S C k := we_sc rfl q
theorem we_non (q : k (.dat .none) C) : We B (tC .non) g S C k := we_sc rfl q
theorem We.imp {k' : SV → Cs → Prop} (h : We B te g S C k) (i : ∀ s C', k s C' → k' s C') : We B te g S C k' := fun σ vs H Q R q => h σ vs H Q R fun s C' v H' e => q s C' v H' (i s C' e)
theorem Wt.imp {k' : Bool → Cs → Prop} (h : Wt B tt g S C kb) (i : ∀ s C', kb s C' → k' s C') : Wt B tt g S C k' := fun σ vs H Q R q => h σ vs H Q R fun s C' H' e => q s C' H' (i s C' e)

/-! ### operators -/
theorem we_op {r : R2} (h : We B ta g S C fun x C1 => We B tb g (x :: S) C1 fun y C2 => Wr B r x y g S C2 k) : We B (tOp r ta tb) g S C k := fun σ vs H Q R kq =>
  h σ vs H _ R fun x C1 v H1 h1 R1 => h1 σ (v :: vs) H1 _ R1 fun y C2 w H2 h2 R2 => h2 σ vs H2 Q v w R2 kq
theorem wr_ii {f : Int → Int → Int} {i j : Int} (q : k (.dat (.int (f i j))) C) : Wr B (rI0 fun i j => .int (f i j)) (.dat (.int i)) (.dat (.int j)) g S C k := fun σ vs H Q v w R kq =>
  ⟨i, j, R.drop1.top_int, R.top_int, kq _ C _ H q (R.drop1.drop1.sc rfl)⟩
/-! ### more operators -/
theorem wr_ib {f : Int → Int → Bool} {i j : Int} (q : k (.dat (.bool (f i j))) C) : Wr B (rI0 fun i j => .bl (f i j)) (.dat (.int i)) (.dat (.int j)) g S C k := fun σ vs H Q v w R kq =>
  ⟨i, j, R.drop1.top_int, R.top_int, kq _ C _ H q (R.drop1.drop1.sc rfl)⟩
theorem wr_iC {P : Int → Int → Prop} {f : Int → Int → Int} {i j : Int} (c : P i j) (q : k (.dat (.int (f i j))) C) : Wr B (rI P fun i j => .int (f i j)) (.dat (.int i)) (.dat (.int j)) g S C k := fun σ vs H Q v w R kq =>
  ⟨i, j, R.drop1.top_int, R.top_int, c, kq _ C _ H q (R.drop1.drop1.sc rfl)⟩
theorem Wr.inl {r r' : R2} {x y : SV} (h : Wr B r x y g S C k) : Wr B (fun x y H Q => r x y H Q ∨ r' x y H Q) x y g S C k := fun σ vs H Q v w R kq => .inl (h σ vs H Q v w R kq)
theorem Wr.inr {r r' : R2} {x y : SV} (h : Wr B r' x y g S C k) : Wr B (fun x y H Q => r x y H Q ∨ r' x y H Q) x y g S C k := fun σ vs H Q v w R kq => .inr (h σ vs H Q v w R kq)
theorem we_un {f : Int → Int} (h : We B ta g S C fun x C1 => ∃ i, x = .dat (.int i) ∧ k (.dat (.int (f i))) C1) : We B (tUn (rU fun i => .int (f i)) ta) g S C k := fun σ vs H Q R kq =>
  h σ vs H _ R fun x C1 v H1 ⟨i, e, q⟩ R1 => by
    subst e
    exact ⟨i, R1.top_int, kq _ C1 _ H1 q (R1.drop1.sc rfl)⟩
theorem we_op_str {i j : Str} (hl : i.length + j.length ≤ sizeLine) (q : k (.dat (.str (i ++ j))) C) : Wr B (fun x y H Q => ∃ i j, x = .str i ∧ y = .str j ∧ i.length + j.length ≤ sizeLine ∧ Q (.str (i ++ j)) H) (.dat (.str i)) (.dat (.str j)) g S C k := fun σ vs H Q v w R kq =>
  ⟨i, j, R.drop1.top_str, R.top_str, hl, kq _ C _ H q (R.drop1.drop1.sc rfl)⟩
/-! ### tests -/
theorem wt_test (h : We B te g S C fun x C1 => ∃ b, x = .dat (.bool b) ∧ kb b C1) : Wt B (tTest te) g S C kb := fun σ vs H Q R kq =>
  h σ vs H _ R fun x C1 v H1 ⟨b, e, q⟩ R1 => by
    subst e
    exact ⟨b, R1.top_bl, kq b C1 H1 q R1.drop1⟩
theorem wt_B (h : We B te g S C fun x C1 => ∃ b, x = .dat (.bool b) ∧ kb b C1) : Wt B (tB te) g S C kb := fun σ vs H Q R kq =>
  h σ vs H _ R fun x C1 v H1 ⟨b, e, q⟩ R1 => by
    subst e
    exact ⟨b, R1.top_bl, kq b C1 H1 q R1.drop1⟩
theorem wt_not (h : Wt B tt g S C fun b C1 => kb (!b) C1) : Wt B (tNot tt) g S C kb := fun σ vs H Q R kq => h σ vs H _ R fun b C1 H1 q R1 => kq _ C1 H1 q R1
/-- joined: the second test's answer is told under the first's -/
theorem wt_and (h : Wt B tt g S C fun b C1 => ∃ c, (b = true → Wt B tu g S C1 fun b' C2 => C2 = C1 ∧ b' = c) ∧ kb (b && c) C1) : Wt B (tAnd tt tu) g S C kb := fun σ vs H Q R kq =>
  h σ vs H _ R fun b C1 H1 ⟨c, q1, q2⟩ R1 => by
    cases b with
    | true => exact q1 rfl σ vs H1 Q R1 fun b' C2 H2 ⟨e1, e2⟩ R2 => by subst e1 e2; exact kq _ _ H2 q2 R2
    | false => exact kq _ C1 H1 q2 R1
theorem wt_or (h : Wt B tt g S C fun b C1 => ∃ c, (b = false → Wt B tu g S C1 fun b' C2 => C2 = C1 ∧ b' = c) ∧ kb (b || c) C1) : Wt B (tOr tt tu) g S C kb := fun σ vs H Q R kq =>
  h σ vs H _ R fun b C1 H1 ⟨c, q1, q2⟩ R1 => by
    cases b with
    | false => exact q1 rfl σ vs H1 Q R1 fun b' C2 H2 ⟨e1, e2⟩ R2 => by subst e1 e2; exact kq _ _ H2 q2 R2
    | true => exact kq _ C1 H1 q2 R1
theorem we_andV (h : We B ta g S C fun x C1 => ∃ b c, x = .dat (.bool b) ∧ (b = true → We B tb g S C1 fun y C2 => C2 = C1 ∧ y = .dat (.bool c)) ∧ k (.dat (.bool (b && c))) C1) : We B (tAndV ta tb) g S C k := fun σ vs H Q R kq =>
  h σ vs H _ R fun x C1 v H1 ⟨b, c, e, q1, q2⟩ R1 => by
    subst e
    refine ⟨b, R1.top_bl, ?_⟩
    cases b with
    | true => exact q1 rfl σ vs H1 Q R1.drop1 fun y C2 v' H2 ⟨e1, e2⟩ R2 => by subst e1 e2; exact kq _ _ _ H2 q2 R2
    | false => exact kq _ C1 _ H1 q2 (R1.drop1.sc rfl)
theorem we_orV (h : We B ta g S C fun x C1 => ∃ b c, x = .dat (.bool b) ∧ (b = false → We B tb g S C1 fun y C2 => C2 = C1 ∧ y = .dat (.bool c)) ∧ k (.dat (.bool (b || c))) C1) : We B (tOrV ta tb) g S C k := fun σ vs H Q R kq =>
  h σ vs H _ R fun x C1 v H1 ⟨b, c, e, q1, q2⟩ R1 => by
    subst e
    refine ⟨b, R1.top_bl, ?_⟩
    cases b with
    | false => exact q1 rfl σ vs H1 Q R1.drop1 fun y C2 v' H2 ⟨e1, e2⟩ R2 => by subst e1 e2; exact kq _ _ _ H2 q2 R2
    | true => exact kq _ C1 _ H1 q2 (R1.drop1.sc rfl)
theorem we_notV (h : We B ta g S C fun x C1 => ∃ b, x = .dat (.bool b) ∧ k (.dat (.bool (!b))) C1) : We B (tNotV ta) g S C k := fun σ vs H Q R kq =>
  h σ vs H _ R fun x C1 v H1 ⟨b, e, q⟩ R1 => by
    subst e
    exact ⟨b, R1.top_bl, kq _ C1 _ H1 q (R1.drop1.sc rfl)⟩
theorem we_if (h : Wt B tt g S C fun b C1 => (b = true → We B ta g S C1 k) ∧ (b = false → We B tb g S C1 k)) : We B (tIf tt ta tb) g S C k := fun σ vs H Q R kq =>
  h σ vs H _ R fun b C1 H1 ⟨q1, q2⟩ R1 => by
    cases b with
    | true => exact q1 rfl σ vs H1 Q R1 kq
    | false => exact q2 rfl σ vs H1 Q R1 kq
/-- joined -/
theorem we_ifJ (h : Wt B tt g S C fun b C1 => ∃ d1 d2, (b = true → We B ta g S C1 fun y C2 => C2 = C1 ∧ y = .dat d1) ∧ (b = false → We B tb g S C1 fun y C2 => C2 = C1 ∧ y = .dat d2) ∧ k (.dat (if b then d1 else d2)) C1) : We B (tIf tt ta tb) g S C k := fun σ vs H Q R kq =>
  h σ vs H _ R fun b C1 H1 ⟨d1, d2, q1, q2, q⟩ R1 => by
    cases b with
    | true => exact q1 rfl σ vs H1 Q R1 fun y C2 v' H2 ⟨e1, e2⟩ R2 => by subst e1 e2; exact kq _ _ _ H2 q R2
    | false => exact q2 rfl σ vs H1 Q R1 fun y C2 v' H2 ⟨e1, e2⟩ R2 => by subst e1 e2; exact kq _ _ _ H2 q R2
/-- a op b op' c of ints, as a value -/
theorem we_chain {p p' : Int → Int → Bool} (h : We B ta g S C fun x C1 => We B tb g (x :: S) C1 fun y C2 => ∃ i j l, x = .dat (.int i) ∧ y = .dat (.int j) ∧ (p i j = true → We B tc g (.dat (.int j) :: S) C2 fun z C3 => C3 = C2 ∧ z = .dat (.int l)) ∧ k (.dat (.bool (p i j && p' j l))) C2) :
    We B (tChain (rI0 fun i j => .bl (p i j)) (rI0 fun i j => .bl (p' i j)) ta tb tc) g S C k := fun σ vs H Q R kq =>
  h σ vs H _ R fun x C1 v H1 h1 R1 => h1 σ (v :: vs) H1 _ R1 fun y C2 w H2 ⟨i, j, l, e1, e2, q1, q2⟩ R2 => by
    subst e1 e2
    refine ⟨i, j, R2.drop1.top_int, R2.top_int, p i j, rfl, ?_⟩
    cases hp : p i j with
    | true =>
      show tc σ H2 _
      refine q1 hp σ (w :: vs) H2 _ R2.drop2 fun z C3 u H3 ⟨e3, e4⟩ R3 => ?_
      subst e3 e4
      refine ⟨j, l, R2.top_int, R3.top_int, ?_⟩
      rw [hp] at q2
      exact kq _ _ _ H3 q2 (R3.drop1.drop1.sc rfl)
    | false =>
      rw [hp] at q2
      exact kq _ _ _ H2 q2 (R2.drop1.drop1.sc rfl)
/-! ### argument lists -/
theorem wa_nil (q : ka [] C) : Wa B tNil g S C ka := fun σ vs H Q R kq => kq [] C [] H q rfl R
theorem wa_cons {tr : TA} (h : We B te g S C fun x C1 => Wa B tr g (x :: S) C1 fun ss C2 => ka (x :: ss) C2) : Wa B (tCons te tr) g S C ka := fun σ vs H Q R kq =>
  h σ vs H _ R fun x C1 v H1 h1 R1 => h1 σ (v :: vs) H1 _ R1 fun ss C2 us H2 q l R2 => kq (x :: ss) C2 (v :: us) H2 q (by simp [l]) (by simpa using R2)
/-! ### built-in calls -/
theorem we_cb {r : List V → Hp → VK → Prop} {ta : TA} (h : Wa B ta g S C fun ss C1 => Wc B r ss g S C1 k) : We B (tCB r ta) g S C k := fun σ vs H Q R kq =>
  h σ vs H _ R fun ss C1 us H1 q l R1 => q σ vs H1 Q us l R1 kq
/-! ### statements -/
variable {t u : TS} {C' : Cs} {kk : Ks}
theorem Dk.seq {P : Gs → Cs → Prop} {vs : List V} {D : Ends} (h : Dk B S vs kk D) {E : St → Hp → Prop} (e : ∀ g C σ H, P g C → Rel B g S C σ vs H → E σ H) : Dk B S vs { kk with nx := P } { D with nx := E } := ⟨e, h.rt, h.bk, h.ct⟩
theorem ws_seq (h : Ws B t g S C { kk with nx := fun g' C' => Ws B u g' S C' kk }) : Ws B (tSeq t u) g S C kk := fun σ vs H D R d => h σ vs H _ R (d.seq fun g' C' σ' H' q R' => q σ' vs H' D R' d)
theorem ws_cut (M : Gs → Cs → Prop) (h : Ws B t g S C { kk with nx := M }) (q : ∀ g' C', M g' C' → Ws B u g' S C' kk) : Ws B (tSeq t u) g S C kk := fun σ vs H D R d => h σ vs H _ R (d.seq fun g' C' σ' H' m R' => q g' C' m σ' vs H' D R' d)
theorem ws_next (q : kk.nx g C) : Ws B tNext g S C kk := fun σ vs H D R d => d.nx g C σ H q R
theorem ws_brk (q : kk.bk g C) : Ws B tBreak g S C kk := fun σ vs H D R d => d.bk g C σ H q R
theorem ws_cont (q : kk.ct g C) : Ws B tCont g S C kk := fun σ vs H D R d => d.ct g C σ H q R
theorem ws_asg {i : Nat} (h : We B te g S C fun s C1 => kk.nx (g.set i (some s)) C1) : Ws B (tAsg te (gName i)) g S C kk := fun σ vs H D R d =>
  h σ vs H _ R fun s C1 v H1 q R1 => d.nx _ _ _ _ q (let ⟨F, ρ, R1⟩ := R1; ⟨F, ρ, R1.set⟩)
theorem ws_drop (h : We B te g S C fun _ C1 => kk.nx g C1) : Ws B (tDrop te) g S C kk := fun σ vs H D R d => h σ vs H _ R fun s C1 v H1 q R1 => d.nx _ _ _ _ q R1.drop1
theorem Rel.bare {x : SV} {σ : St} {v : V} {vs : List V} {H : Hp} (R : Rel B g (x :: S) C σ (v :: vs) H) : Rel B [] [x] C [] [v] H := let ⟨F, ρ, R⟩ := R; let ⟨R1, h⟩ := R.pop; ⟨F, ρ, { R1 with len := rfl, slot := fun i s e => by simp at e, stk := .cons h .nil }⟩
/-- what is returned, a ghost step ahead -/
def Rx (B : Bs) (P : SV → Cs → Prop) (s : SV) (C : Cs) : Prop := ∀ v H, Rel B [] [s] C [] [v] H → ∃ s' C', P s' C' ∧ Rel B [] [s'] C' [] [v] H
theorem rx_here {P : SV → Cs → Prop} {s : SV} (h : P s C) : Rx B P s C := fun v H R => ⟨s, C, h, R⟩
theorem ws_ret (h : We B te g S C fun s C1 => Rx B kk.rt s C1) : Ws B (tRet te) g S C kk := fun σ vs H D R d => h σ vs H _ R fun s C1 v H1 q R1 =>
  let ⟨s', C', p, R2⟩ := q v H1 R1.bare
  d.rt s' C' v H1 p R2
theorem ws_retN (h : kk.rt (.dat .none) C) : Ws B tRetN g S C kk := fun σ vs H D R d => d.rt _ C _ H h (R.sc (v := .non) rfl).bare
theorem ws_if (h : Wt B tt g S C fun b C1 => (b = true → Ws B t g S C1 kk) ∧ (b = false → Ws B u g S C1 kk)) : Ws B (tIfS tt t u) g S C kk := fun σ vs H D R d =>
  h σ vs H _ R fun b C1 H1 ⟨q1, q2⟩ R1 => by
    cases b with
    | true => exact q1 rfl σ vs H1 D R1 d
    | false => exact q2 rfl σ vs H1 D R1 d
/-- a ghost step ahead of what follows -/
def Nx (B : Bs) (S : List SV) (P : Gs → Cs → Prop) (g : Gs) (C : Cs) : Prop := ∀ σ vs H, Rel B g S C σ vs H → ∃ g' C', P g' C' ∧ Rel B g' S C' σ vs H
theorem nx_here {P : Gs → Cs → Prop} (h : P g C) : Nx B S P g C := fun σ vs H R => ⟨g, C, h, R⟩
theorem ws_nx (h : Ws B t g S C { kk with nx := Nx B S kk.nx }) : Ws B t g S C kk := fun σ vs H D R d => h σ vs H D R ⟨fun g' C' σ' H' n R' => let ⟨g2, C2, p, R2⟩ := n σ' vs H' R'; d.nx g2 C2 σ' H' p R2, d.rt, d.bk, d.ct⟩
theorem ws_never (h : False) : Ws B tNever g S C kk := h.elim
/-- two names at once -/
theorem ws_par {i j : Nat} {ta : TA} (h : Wa B ta g S C fun ss C1 => ∃ x y, ss = [x, y] ∧ kk.nx ((g.set i (some x)).set j (some y)) C1) : Ws B (tPar i j ta) g S C kk := fun σ vs H D R d =>
  h σ vs H _ R fun ss C1 us H1 ⟨x, y, e, q⟩ l R1 => by
    subst e
    match us, l with
    | [a, b], _ =>
      refine ⟨a, b, rfl, d.nx _ _ _ _ q ?_⟩
      have R2 : Rel B g (y :: x :: S) C1 σ (b :: a :: vs) H1 := by simpa using R1
      obtain ⟨F, ρ, R2⟩ := R2
      obtain ⟨R3, hy⟩ := R2.pop
      exact ⟨F, ρ, (R3.set.push hy).set⟩
theorem ws_par3 {i j l : Nat} {ta : TA} (h : Wa B ta g S C fun ss C1 => ∃ x y z, ss = [x, y, z] ∧ kk.nx (((g.set i (some x)).set j (some y)).set l (some z)) C1) : Ws B (tPar3 i j l ta) g S C kk := fun σ vs H D R d =>
  h σ vs H _ R fun ss C1 us H1 ⟨x, y, z, e, q⟩ ll R1 => by
    subst e
    match us, ll with
    | [a, b, c], _ =>
      refine ⟨a, b, c, rfl, d.nx _ _ _ _ q ?_⟩
      have R2 : Rel B g (z :: y :: x :: S) C1 σ (c :: b :: a :: vs) H1 := by simpa using R1
      obtain ⟨F, ρ, R2⟩ := R2
      obtain ⟨R3, hz⟩ := R2.pop
      obtain ⟨R4, hy⟩ := R3.pop
      exact ⟨F, ρ, ((R4.set.push hy).set.push hz).set⟩
end
end Sy

set_option Elab.async false
set_option linter.all false
set_option maxRecDepth 100000
set_option maxHeartbeats 400000
namespace Sy
open PySem L2
/-! ## lists and tuples -/
inductive LV (C : Cs) : SV → List SV → Prop
  | dat {ds : List D} : LV C (.dat (.list ds)) (ds.map .dat)
  | cell {i : Nat} {xs : List SV} : C[i]? = some (some (.lst xs)) → LV C (.ref i) xs
section
variable {B : Bs} {g : Gs} {S : List SV} {C : Cs} {k : SV → Cs → Prop} {kb : Bool → Cs → Prop} {ka : List SV → Cs → Prop} {te ta tb tc : TE} {tt tu : TT}
variable {σ : St} {vs : List V} {H : Hp} {F : Hp} {ρ : Nat → Addr}
theorem sis_all {K : PySem.W.Frag} {F : Hp} {ρ : Nat → Addr} {n : Nat} : ∀ {ws : List V} {ds : List D}, IsAll K F ws ds → Paired (SIs K F ρ n) ws (ds.map SV.dat)
  | _, _, .nil => .nil
  | _, _, .cons h r => .cons h (sis_all r)
theorem all_sis {K : PySem.W.Frag} {F : Hp} {ρ : Nat → Addr} {n : Nat} : ∀ {ws : List V} {ds : List D}, Paired (SIs K F ρ n) ws (ds.map SV.dat) → IsAll K F ws ds
  | [], [], _ => .nil
  | _ :: _, _ :: _, .cons h r => .cons h (all_sis r)
  | [], _ :: _, h => nomatch h
  | _ :: _, [], h => nomatch h
theorem Rl.lv {v : V} {s : SV} {xs : List SV} (R : Rl B g S C σ vs H F ρ) (h : SIs B.K F ρ C.length v s) (l : LV C s xs) : ∃ a ws, v = .ref a ∧ H a = some (.lst ws) ∧ Paired (SIs B.K F ρ C.length) ws xs := by
  cases l with
  | dat =>
    cases h with
    | lst e r => exact ⟨_, _, rfl, R.le _ _ e, sis_all r⟩
  | cell e =>
    obtain ⟨_, ⟨o, e2, q⟩, _⟩ := R.cell _ _ e
    cases q with
    | lst q => exact ⟨_, _, h.2, e2, q⟩
theorem Rl.tv {v : V} {ds : List D} (R : Rl B g S C σ vs H F ρ) (h : SIs B.K F ρ C.length v (.dat (.tuple ds))) : ∃ a ws, v = .ref a ∧ SqT B.K H a ws ∧ Paired (SIs B.K F ρ C.length) ws (ds.map .dat) := by
  cases h with
  | tup e r => exact ⟨_, _, rfl, R.le.sqt e, sis_all r⟩
theorem paired_at {α β : Type} {P : α → β → Prop} : ∀ {xs : List α} {ys : List β}, Paired P xs ys → ∀ {i : Nat} {y : β}, ys[i]? = some y → ∃ x, xs[i]? = some x ∧ P x y
  | _, _, .nil, _, _, e => by simp at e
  | _, _, .cons h r, 0, _, e => by
    simp only [List.getElem?_cons_zero, Option.some.injEq] at e
    subst e
    exact ⟨_, rfl, h⟩
  | _, _, .cons h r, i + 1, _, e => by
    simp only [List.getElem?_cons_succ] at e ⊢
    exact paired_at r e
theorem paired_at' {α β : Type} {P : α → β → Prop} : ∀ {xs : List α} {ys : List β}, Paired P xs ys → ∀ {i : Nat} {x : α}, xs[i]? = some x → ∃ y, ys[i]? = some y ∧ P x y
  | _, _, .nil, _, _, e => by simp at e
  | _, _, .cons h r, 0, _, e => by
    simp only [List.getElem?_cons_zero, Option.some.injEq] at e
    subst e
    exact ⟨_, rfl, h⟩
  | _, _, .cons h r, i + 1, _, e => by
    simp only [List.getElem?_cons_succ] at e ⊢
    exact paired_at' r e
theorem atI_pair {α β : Type} {P : α → β → Prop} {xs : List α} {ys : List β} (h : Paired P xs ys) {i : Int} {y : β} (e : atI ys i = some y) : ∃ x, atI xs i = some x ∧ P x y := by
  unfold atI at e ⊢
  rw [Paired.length h]
  cases q : ixN ys.length i with
  | none => rw [q] at e; cases e
  | some j =>
    rw [q] at e
    exact paired_at h e
/-- the place i of a list as ints have it: a whole number within -/
theorem at_nn {α : Type} {xs : List α} {i : Int} (h0 : 0 ≤ i) (h1 : i < xs.length) : atI xs i = some (xs[i.toNat]'(by omega)) := by
  have h2 : i.toNat < xs.length := by omega
  unfold atI ixN
  rw [if_pos h0, if_pos h1]
  exact List.getElem?_eq_getElem h2
/-- x[i] -/
theorem Wr.imp {r r' : R2} {x y : SV} (h : Wr B r x y g S C k) (i : ∀ v w H Q, r v w H Q → r' v w H Q) : Wr B r' x y g S C k := fun σ vs H Q v w R kq => i _ _ _ _ (h σ vs H Q v w R kq)
theorem wr_ixL {x s : SV} {xs : List SV} {i : Int} (l : LV C x xs) (e : atI xs i = some s) (q : k s C) : Wr B (rIxL B.K) x (.dat (.int i)) g S C k := fun σ vs H Q v w R kq => by
  obtain ⟨F, ρ, R1, hx⟩ := R.drop1.top
  obtain ⟨a, ws, rfl, ha, hp⟩ := R1.lv hx l
  obtain ⟨u, e2, hu⟩ := atI_pair hp e
  exact ⟨a, ws, i, u, rfl, R.top_int, SqL.of ha, e2, kq s C u H q ⟨F, ρ, R1.push hu⟩⟩
theorem wr_ixScr {ns : List Int} {i n : Int} (e : atI ns i = some n) (q : k (.dat (.int n)) C) : Wr B (rIxL B.K) (.scr ns) (.dat (.int i)) g S C k := fun σ vs H Q v w R kq => by
  obtain ⟨F, ρ, R1, hx⟩ := R.drop1.top
  obtain ⟨a, rfl, ha⟩ := hx
  have e2 : atI (ns.map V.int) i = some (.int n) := by
    unfold atI at e ⊢
    rw [List.length_map]
    cases q : ixN ns.length i with
    | none => rw [q] at e; cases e
    | some j =>
      rw [q] at e
      show (ns.map V.int)[j]? = _
      have e3 : ns[j]? = some n := e
      rw [List.getElem?_map, e3]
      rfl
  exact ⟨a, _, i, .int n, rfl, R.top_int, R1.le.sq ha, e2, kq _ C _ H q ⟨F, ρ, R1.push (.int n)⟩⟩
theorem wr_ixT {ds : List D} {d : D} {i : Int} (e : atI ds i = some d) (q : k (.dat d) C) : Wr B (rIxT B.K) (.dat (.tuple ds)) (.dat (.int i)) g S C k := fun σ vs H Q v w R kq => by
  obtain ⟨F, ρ, R1, hx⟩ := R.drop1.top
  obtain ⟨a, ws, rfl, ha, hp⟩ := R1.tv hx
  have e' : atI (ds.map SV.dat) i = some (.dat d) := by
    unfold atI at e ⊢
    rw [List.length_map]
    cases q : ixN ds.length i with
    | none => rw [q] at e; cases e
    | some j =>
      rw [q] at e
      show (ds.map SV.dat)[j]? = _
      have e3 : ds[j]? = some d := e
      rw [List.getElem?_map, e3]
      rfl
  obtain ⟨u, e2, hu⟩ := atI_pair hp e'
  exact ⟨a, ws, i, u, rfl, R.top_int, ha, e2, kq (.dat d) C u H q ⟨F, ρ, R1.push hu⟩⟩
theorem wr_ixl {x s : SV} {xs : List SV} {i : Int} (l : LV C x xs) (e : atI xs i = some s) (q : k s C) : Wr B (rIx B.K) x (.dat (.int i)) g S C k := (wr_ixL l e q).imp fun _ _ _ _ h => .inl h
theorem wr_ixt {ds : List D} {d : D} {i : Int} (e : atI ds i = some d) (q : k (.dat d) C) : Wr B (rIx B.K) (.dat (.tuple ds)) (.dat (.int i)) g S C k := (wr_ixT e q).imp fun _ _ _ _ h => .inr (.inl h)
theorem wr_ixscr {ns : List Int} {i n : Int} (e : atI ns i = some n) (q : k (.dat (.int n)) C) : Wr B (rIx B.K) (.scr ns) (.dat (.int i)) g S C k := (wr_ixScr e q).imp fun _ _ _ _ h => .inl h
/-- several off the top -/
theorem paired_append {α β : Type} {P : α → β → Prop} : ∀ {xs xs' : List α} {ys ys' : List β}, xs.length = ys.length → Paired P (xs ++ xs') (ys ++ ys') → Paired P xs ys ∧ Paired P xs' ys'
  | [], _, [], _, _, h => ⟨.nil, h⟩
  | _ :: _, _, _ :: _, _, l, .cons h r => let ⟨a, b⟩ := paired_append (Nat.succ.inj l) r; ⟨.cons h a, b⟩
theorem paired_rev {α β : Type} {P : α → β → Prop} {xs : List α} {ys : List β} (h : Paired P xs ys) : Paired P xs.reverse ys.reverse := by
  induction h with
  | nil => exact .nil
  | cons h r ih =>
    rw [List.reverse_cons, List.reverse_cons]
    exact Paired.snoc ih h
theorem paired_app {α β : Type} {P : α → β → Prop} : ∀ {xs xs' : List α} {ys ys' : List β}, Paired P xs ys → Paired P xs' ys' → Paired P (xs ++ xs') (ys ++ ys')
  | _, _, _, _, .nil, s => s
  | _, _, _, _, .cons r t, s => .cons r (paired_app t s)
theorem popN {ss : List SV} {us : List V} (R : Rl B g (ss.reverse ++ S) C σ (us.reverse ++ vs) H F ρ) (l : us.length = ss.length) : Rl B g S C σ vs H F ρ ∧ Paired (SIs B.K F ρ C.length) us ss := by
  obtain ⟨h1, h2⟩ := paired_append (by simpa using l) R.stk
  refine ⟨{ R with stk := h2 }, ?_⟩
  have := paired_rev h1
  simpa using this
/-- displays: frozen at once -/
theorem we_lst {t : TA} (h : Wa B t g S C fun ss C1 => ∃ ds : List D, ss = ds.map .dat ∧ ds.length ≤ sizeLine ∧ k (.dat (.list ds)) C1) : We B (tLst t) g S C k := fun σ vs H Q R kq =>
  h σ vs H _ R fun ss C1 us H1 ⟨ds, e, hl, q⟩ l R1 => by
    subst e
    refine ⟨by rw [l, List.length_map]; exact hl, fun p hp => ?_⟩
    obtain ⟨F, ρ, R2⟩ := R1
    obtain ⟨R3, hu⟩ := popN R2 l
    obtain ⟨R4, L⟩ := R3.lay (o := .lst us) hp
    exact kq _ C1 _ _ q ⟨_, ρ, R4.push (.lst upd_same ((all_sis hu).mono L))⟩
/-- .. as a cell -/
theorem we_lstC {t : TA} (h : Wa B t g S C fun ss C1 => ss.length ≤ sizeLine ∧ k (.ref C1.length) (C1 ++ [some (.lst ss)])) : We B (tLst t) g S C k := fun σ vs H Q R kq =>
  h σ vs H _ R fun ss C1 us H1 ⟨hl, q⟩ l R1 => by
    refine ⟨by rw [l]; exact hl, fun p hp => ?_⟩
    obtain ⟨F, ρ, R2⟩ := R1
    obtain ⟨R3, hu⟩ := popN R2 l
    exact kq _ _ _ _ q ⟨F, _, R3.lay_c hp (.lst hu)⟩
theorem we_tup {t : TA} (h : Wa B t g S C fun ss C1 => ∃ ds : List D, ss = ds.map .dat ∧ ds.length ≤ sizeLine ∧ k (.dat (.tuple ds)) C1) : We B (tTup t) g S C k := fun σ vs H Q R kq =>
  h σ vs H _ R fun ss C1 us H1 ⟨ds, e, hl, q⟩ l R1 => by
    subst e
    refine ⟨by rw [l, List.length_map]; exact hl, fun p hp => ?_⟩
    obtain ⟨F, ρ, R2⟩ := R1
    obtain ⟨R3, hu⟩ := popN R2 l
    obtain ⟨R4, L⟩ := R3.lay (o := .tup us) hp
    exact kq _ C1 _ _ q ⟨_, ρ, R4.push (.tup (SqT.of upd_same) ((all_sis hu).mono L))⟩
/-- [*xs, ..] -/
theorem wa_star {tr : TA} (h : We B te g S C fun x C1 => ∃ xs, LV C1 x xs ∧ Wa B tr g (xs.reverse ++ S) C1 fun ss C2 => ka (xs ++ ss) C2) : Wa B (StX.tStar B.K te tr) g S C ka := fun σ vs H Q R kq =>
  h σ vs H _ R fun x C1 v H1 ⟨xs, lv, h1⟩ R1 => by
    obtain ⟨F, ρ, R2, hx⟩ := R1.top
    obtain ⟨a, ws, rfl, ha, hp⟩ := R2.lv hx lv
    refine ⟨a, ws, rfl, .inr (SqL.of ha), ?_⟩
    have R3 : Rel B g (xs.reverse ++ S) C1 σ (ws.reverse ++ vs) H1 := ⟨F, ρ, { R2 with stk := paired_app (paired_rev hp) R2.stk }⟩
    refine h1 σ _ H1 _ R3 fun ss C2 us H2 q l R4 => kq _ _ _ _ q (by simp [l, Paired.length hp]) ?_
    simpa using R4
/-! ### slices -/
def Wo (B : Bs) (to : TO) (g : Gs) (S : List SV) (C : Cs) (ko : Option Int → Cs → Prop) : Prop :=
  ∀ σ vs H Q, Rel B g S C σ vs H → (∀ o C' H', ko o C' → Rel B g S C' σ vs H' → Q o H') → to σ H Q
theorem wo_no {ko : Option Int → Cs → Prop} (q : ko none C) : Wo B tNoPart g S C ko := fun σ vs H Q R kq => kq none C H q R
theorem wo_some {ko : Option Int → Cs → Prop} (h : We B te g S C fun x C1 => ∃ i, x = .dat (.int i) ∧ ko (some i) C1) : Wo B (tPart te) g S C ko := fun σ vs H Q R kq =>
  h σ vs H _ R fun x C1 v H1 ⟨i, e, q⟩ R1 => by
    subst e
    exact ⟨i, R1.top_int, kq _ C1 H1 q R1.drop1⟩
/-- the part of a list -/
def cutL {α : Type} (xs : List α) (lo hi : Option Int) : List α := (xs.drop (HT.sIx xs.length 0 lo)).take (HT.sIx xs.length xs.length hi - HT.sIx xs.length 0 lo)
theorem paired_drop {α β : Type} {P : α → β → Prop} : ∀ {xs : List α} {ys : List β} (n : Nat), Paired P xs ys → Paired P (xs.drop n) (ys.drop n)
  | _, _, 0, r => r
  | _, _, _ + 1, .nil => .nil
  | _, _, n + 1, .cons _ t => paired_drop n t
theorem paired_take {α β : Type} {P : α → β → Prop} : ∀ {xs : List α} {ys : List β} (n : Nat), Paired P xs ys → Paired P (xs.take n) (ys.take n)
  | _, _, 0, _ => .nil
  | _, _, _ + 1, .nil => .nil
  | _, _, n + 1, .cons r t => .cons r (paired_take n t)
theorem cutL_map {α β : Type} (f : α → β) (xs : List α) (lo hi : Option Int) : cutL (xs.map f) lo hi = (cutL xs lo hi).map f := by
  unfold cutL
  rw [List.length_map, List.map_take, List.map_drop]
theorem paired_cut {P : V → SV → Prop} {ws : List V} {xs : List SV} (h : Paired P ws xs) (lo hi : Option Int) : Paired P (cutV ws lo hi) (cutL xs lo hi) := by
  unfold cutV cutL
  rw [Paired.length h]
  exact paired_take _ (paired_drop _ h)
def Wl (B : Bs) (r : V → Option Int → Option Int → Hp → VK → Prop) (x : SV) (lo hi : Option Int) (g : Gs) (S : List SV) (C : Cs) (k : SV → Cs → Prop) : Prop :=
  ∀ σ vs H Q v, Rel B g (x :: S) C σ (v :: vs) H → (∀ s C' u H', k s C' → Rel B g (s :: S) C' σ (u :: vs) H' → Q u H') → r v lo hi H Q
theorem we_sl {r : V → Option Int → Option Int → Hp → VK → Prop} {tl th : TO} (h : We B te g S C fun x C1 => Wo B tl g (x :: S) C1 fun lo C2 => Wo B th g (x :: S) C2 fun hi C3 => Wl B r x lo hi g S C3 k) : We B (tSl r te tl th) g S C k := fun σ vs H Q R kq =>
  h σ vs H _ R fun x C1 v H1 h1 R1 => h1 σ (v :: vs) H1 _ R1 fun lo C2 H2 h2 R2 => h2 σ (v :: vs) H2 _ R2 fun hi C3 H3 h3 R3 => h3 σ vs H3 Q v R3 kq
theorem Wl.imp {r r' : V → Option Int → Option Int → Hp → VK → Prop} {x : SV} {lo hi : Option Int} (h : Wl B r x lo hi g S C k) (i : ∀ v H Q, r v lo hi H Q → r' v lo hi H Q) : Wl B r' x lo hi g S C k := fun σ vs H Q v R kq => i _ _ _ (h σ vs H Q v R kq)
theorem wl_list {x : SV} {ds : List D} {lo hi : Option Int} (l : LV C x (ds.map .dat)) (q : k (.dat (.list (cutL ds lo hi))) C) : Wl B (rSlL B.K) x lo hi g S C k := fun σ vs H Q v R kq => by
  obtain ⟨F, ρ, R1, hx⟩ := R.top
  obtain ⟨a, ws, rfl, ha, hp⟩ := R1.lv hx l
  refine ⟨a, ws, rfl, SqL.of ha, fun p hp2 => ?_⟩
  have hc := paired_cut hp lo hi
  rw [cutL_map] at hc
  obtain ⟨R4, L⟩ := R1.lay (o := .lst (cutV ws lo hi)) hp2
  exact kq _ C _ _ q ⟨_, ρ, R4.push (.lst upd_same ((all_sis hc).mono L))⟩
/-! ### built-ins -/
def rLn (K : PySem.W.Frag) : List V → Hp → VK → Prop := fun xs H Q => ∃ x n, xs = [x] ∧ LenV K x H n ∧ Q (.int n) H
theorem cr_ln {X : Cx} : CallR X (.builtin "len") (rLn X.K) := call_len
def rAb : List V → Hp → VK → Prop := fun xs H Q => ∃ i, xs = [.int i] ∧ Q (.int (if i < 0 then -i else i)) H
theorem cr_ab {X : Cx} : CallR X (.builtin "abs") rAb := call_abs
def rMx2 : List V → Hp → VK → Prop := fun xs H Q => ∃ i j, xs = [.int i, .int j] ∧ Q (.int (if j > i then j else i)) H
theorem cr_mx2 {X : Cx} (hc : X.calm = true) : CallR X (.builtin "max") rMx2 := call_max2 hc
def rMn2 : List V → Hp → VK → Prop := fun xs H Q => ∃ i j, xs = [.int i, .int j] ∧ Q (.int (if j < i then j else i)) H
theorem cr_mn2 {X : Cx} (hc : X.calm = true) : CallR X (.builtin "min") rMn2 := call_min2 hc
def rIn1 : List V → Hp → VK → Prop := fun xs H Q => (∃ i, xs = [.int i] ∧ Q (.int i) H) ∨ ∃ k, xs = [.bl k] ∧ Q (.int (if k then 1 else 0)) H
theorem cr_in1 {X : Cx} : CallR X (.type "int") rIn1 := call_int1
def rLo (K : PySem.W.Frag) : List V → Hp → VK → Prop := fun xs H Q => ∃ p ys, xs = [.ref p] ∧ (SqL K H p ys ∨ SqT K H p ys) ∧ ∀ l, H l = none → Q (.ref l) (upd H l (.lst ys))
theorem cr_lo {X : Cx} : CallR X (.type "list") (rLo X.K) := call_list_of
def rTo (K : PySem.W.Frag) : List V → Hp → VK → Prop := fun xs H Q => ∃ p ys, xs = [.ref p] ∧ ((SqL K H p ys ∧ ∀ l, H l = none → Q (.ref l) (upd H l (.tup ys))) ∨ (SqT K H p ys ∧ Q (.ref p) H))
theorem cr_to {X : Cx} : CallR X (.type "tuple") (rTo X.K) := call_tuple_of
theorem Rel.one {s : SV} {us : List V} (l : us.length = [s].length) (R : Rel B g ([s].reverse ++ S) C σ (us.reverse ++ vs) H) : ∃ u, us = [u] ∧ Rel B g (s :: S) C σ (u :: vs) H := by
  match us, l with
  | [u], _ => exact ⟨u, rfl, by simpa using R⟩
theorem Rel.two {s t : SV} {us : List V} (l : us.length = [s, t].length) (R : Rel B g ([s, t].reverse ++ S) C σ (us.reverse ++ vs) H) : ∃ u w, us = [u, w] ∧ Rel B g (t :: s :: S) C σ (w :: u :: vs) H := by
  match us, l with
  | [u, w], _ => exact ⟨u, w, rfl, by simpa using R⟩
theorem wc_len {s : SV} {xs : List SV} (l : LV C s xs) (q : k (.dat (.int xs.length)) C) : Wc B (rLn B.K) [s] g S C k := fun σ vs H Q us hl R kq => by
  obtain ⟨u, rfl, R⟩ := R.one hl
  obtain ⟨F, ρ, R1, hx⟩ := R.top
  obtain ⟨a, ws, rfl, ha, hp⟩ := R1.lv hx l
  exact ⟨_, xs.length, rfl, .inl ⟨ws, SqL.of ha, (Paired.length hp).symm⟩, kq _ C _ H q (R.drop1.sc rfl)⟩
theorem wc_lenT {ds : List D} (q : k (.dat (.int ds.length)) C) : Wc B (rLn B.K) [.dat (.tuple ds)] g S C k := fun σ vs H Q us hl R kq => by
  obtain ⟨u, rfl, R⟩ := R.one hl
  obtain ⟨F, ρ, R1, hx⟩ := R.top
  obtain ⟨a, ws, rfl, ha, hp⟩ := R1.tv hx
  have e := Paired.length hp
  rw [List.length_map] at e
  exact ⟨_, ds.length, rfl, .inr ⟨ws, ha, e.symm⟩, kq _ C _ H q (R.drop1.sc rfl)⟩
theorem wc_lenScr {ns : List Int} (q : k (.dat (.int ns.length)) C) : Wc B (rLn B.K) [.scr ns] g S C k := fun σ vs H Q us hl R kq => by
  obtain ⟨u, rfl, R⟩ := R.one hl
  obtain ⟨F, ρ, R1, hx⟩ := R.top
  obtain ⟨a, rfl, ha⟩ := hx
  exact ⟨_, ns.length, rfl, .inl ⟨_, R1.le.sq ha, (List.length_map ..).symm⟩, kq _ C _ H q (R.drop1.sc rfl)⟩
theorem wc_lenS {z : Str} (hz : z.length ≤ sizeLine) (q : k (.dat (.int z.length)) C) : Wc B (rLn B.K) [.dat (.str z)] g S C k := fun σ vs H Q us hl R kq => by
  obtain ⟨u, rfl, R⟩ := R.one hl
  obtain rfl := R.top_str
  exact ⟨_, z.length, rfl, ⟨hz, rfl⟩, kq _ C _ H q (R.drop1.sc rfl)⟩
theorem wc_abs {i : Int} (q : k (.dat (.int (if i < 0 then -i else i))) C) : Wc B rAb [.dat (.int i)] g S C k := fun σ vs H Q us hl R kq => by
  obtain ⟨u, rfl, R⟩ := R.one hl
  obtain rfl := R.top_int
  exact ⟨i, rfl, kq _ C _ H q (R.drop1.sc rfl)⟩
theorem wc_int {i : Int} (q : k (.dat (.int i)) C) : Wc B rIn1 [.dat (.int i)] g S C k := fun σ vs H Q us hl R kq => by
  obtain ⟨u, rfl, R⟩ := R.one hl
  obtain rfl := R.top_int
  exact .inl ⟨i, rfl, kq _ C _ H q R⟩
theorem wc_intB {b : Bool} (q : k (.dat (.int (if b then 1 else 0))) C) : Wc B rIn1 [.dat (.bool b)] g S C k := fun σ vs H Q us hl R kq => by
  obtain ⟨u, rfl, R⟩ := R.one hl
  obtain rfl := R.top_bl
  exact .inr ⟨b, rfl, kq _ C _ H q (R.drop1.sc rfl)⟩
theorem wc_max2 {i j : Int} (q : k (.dat (.int (if j > i then j else i))) C) : Wc B rMx2 [.dat (.int i), .dat (.int j)] g S C k := fun σ vs H Q us hl R kq => by
  obtain ⟨u, w, rfl, R⟩ := R.two hl
  obtain rfl := R.top_int
  obtain rfl := R.drop1.top_int
  exact ⟨i, j, rfl, kq _ C _ H q (R.drop1.drop1.sc rfl)⟩
theorem wc_min2 {i j : Int} (q : k (.dat (.int (if j < i then j else i))) C) : Wc B rMn2 [.dat (.int i), .dat (.int j)] g S C k := fun σ vs H Q us hl R kq => by
  obtain ⟨u, w, rfl, R⟩ := R.two hl
  obtain rfl := R.top_int
  obtain rfl := R.drop1.top_int
  exact ⟨i, j, rfl, kq _ C _ H q (R.drop1.drop1.sc rfl)⟩
/-- list(x), frozen at once -/
theorem wc_list {s : SV} {ds : List D} (l : LV C s (ds.map .dat)) (q : k (.dat (.list ds)) C) : Wc B (rLo B.K) [s] g S C k := fun σ vs H Q us hl R kq => by
  obtain ⟨u, rfl, R⟩ := R.one hl
  obtain ⟨F, ρ, R1, hx⟩ := R.top
  obtain ⟨a, ws, rfl, ha, hp⟩ := R1.lv hx l
  refine ⟨a, ws, rfl, .inl (SqL.of ha), fun p hp2 => ?_⟩
  obtain ⟨R4, L⟩ := R1.lay (o := .lst ws) hp2
  exact kq _ C _ _ q ⟨_, ρ, R4.push (.lst upd_same ((all_sis hp).mono L))⟩
theorem wc_listT {ds : List D} (q : k (.dat (.list ds)) C) : Wc B (rLo B.K) [.dat (.tuple ds)] g S C k := fun σ vs H Q us hl R kq => by
  obtain ⟨u, rfl, R⟩ := R.one hl
  obtain ⟨F, ρ, R1, hx⟩ := R.top
  obtain ⟨a, ws, rfl, ha, hp⟩ := R1.tv hx
  refine ⟨a, ws, rfl, .inr ha, fun p hp2 => ?_⟩
  obtain ⟨R4, L⟩ := R1.lay (o := .lst ws) hp2
  exact kq _ C _ _ q ⟨_, ρ, R4.push (.lst upd_same ((all_sis hp).mono L))⟩
/-- list(x) as a cell -/
theorem wc_listC {s : SV} {xs : List SV} (l : LV C s xs) (q : k (.ref C.length) (C ++ [some (.lst xs)])) : Wc B (rLo B.K) [s] g S C k := fun σ vs H Q us hl R kq => by
  obtain ⟨u, rfl, R⟩ := R.one hl
  obtain ⟨F, ρ, R1, hx⟩ := R.top
  obtain ⟨a, ws, rfl, ha, hp⟩ := R1.lv hx l
  refine ⟨a, ws, rfl, .inl (SqL.of ha), fun p hp2 => ?_⟩
  exact kq _ _ _ _ q ⟨F, _, R1.lay_c hp2 (.lst hp)⟩
theorem wc_tuple {s : SV} {ds : List D} (l : LV C s (ds.map .dat)) (q : k (.dat (.tuple ds)) C) : Wc B (rTo B.K) [s] g S C k := fun σ vs H Q us hl R kq => by
  obtain ⟨u, rfl, R⟩ := R.one hl
  obtain ⟨F, ρ, R1, hx⟩ := R.top
  obtain ⟨a, ws, rfl, ha, hp⟩ := R1.lv hx l
  refine ⟨a, ws, rfl, .inl ⟨SqL.of ha, fun p hp2 => ?_⟩⟩
  obtain ⟨R4, L⟩ := R1.lay (o := .tup ws) hp2
  exact kq _ C _ _ q ⟨_, ρ, R4.push (.tup (SqT.of upd_same) ((all_sis hp).mono L))⟩
theorem bools_of {K : PySem.W.Frag} {F : Hp} {ρ : Nat → Addr} {n : Nat} : ∀ {ws : List V} {bs : List Bool}, Paired (SIs K F ρ n) ws ((bs.map PyData.bool).map SV.dat) → ws = bs.map V.bl
  | [], [], _ => rfl
  | _ :: _, _ :: _, .cons h r => by
    rw [List.map_cons, ← bools_of r]
    congr 1
    exact Is.bl_inv h
  | [], _ :: _, h => nomatch h
  | _ :: _, [], h => nomatch h
theorem ints_of {K : PySem.W.Frag} {F : Hp} {ρ : Nat → Addr} {n : Nat} : ∀ {ws : List V} {bs : List Int}, Paired (SIs K F ρ n) ws ((bs.map PyData.int).map SV.dat) → ws = bs.map V.int
  | [], [], _ => rfl
  | _ :: _, _ :: _, .cons h r => by
    rw [List.map_cons, ← ints_of r]
    congr 1
    exact Is.int_inv h
  | [], _ :: _, h => nomatch h
  | _ :: _, [], h => nomatch h
theorem wc_all {s : SV} {bs : List Bool} (l : LV C s ((bs.map PyData.bool).map .dat)) (q : k (.dat (.bool (bs.all id))) C) : Wc B (rAll B.K) [s] g S C k := fun σ vs H Q us hl R kq => by
  obtain ⟨u, rfl, R⟩ := R.one hl
  obtain ⟨F, ρ, R1, hx⟩ := R.top
  obtain ⟨a, ws, rfl, ha, hp⟩ := R1.lv hx l
  obtain rfl := bools_of hp
  exact ⟨a, bs, rfl, SqL.of ha, kq _ C _ H q (R.drop1.sc rfl)⟩
theorem wc_any {s : SV} {bs : List Bool} (l : LV C s ((bs.map PyData.bool).map .dat)) (q : k (.dat (.bool (bs.any id))) C) : Wc B (rAny B.K) [s] g S C k := fun σ vs H Q us hl R kq => by
  obtain ⟨u, rfl, R⟩ := R.one hl
  obtain ⟨F, ρ, R1, hx⟩ := R.top
  obtain ⟨a, ws, rfl, ha, hp⟩ := R1.lv hx l
  obtain rfl := bools_of hp
  exact ⟨a, bs, rfl, SqL.of ha, kq _ C _ H q (R.drop1.sc rfl)⟩
theorem wc_sum {s : SV} {bs : List Int} (l : LV C s ((bs.map PyData.int).map .dat)) (q : k (.dat (.int bs.sum)) C) : Wc B (rSum B.K) [s] g S C k := fun σ vs H Q us hl R kq => by
  obtain ⟨u, rfl, R⟩ := R.one hl
  obtain ⟨F, ρ, R1, hx⟩ := R.top
  obtain ⟨a, ws, rfl, ha, hp⟩ := R1.lv hx l
  obtain rfl := ints_of hp
  exact ⟨a, bs, rfl, SqL.of ha, kq _ C _ H q (R.drop1.sc rfl)⟩
end
end Sy

set_option Elab.async false
set_option linter.all false
set_option maxRecDepth 100000
set_option maxHeartbeats 400000
namespace Sy
open PySem L2
section
variable {B : Bs} {g : Gs} {S : List SV} {C : Cs} {k : SV → Cs → Prop} {kb : Bool → Cs → Prop} {ka : List SV → Cs → Prop} {te ta tb tc tl : TE} {ta' : TA} {tt tu : TT} {kk : Ks} {tbody : TS}
variable {σ : St} {vs : List V} {H : Hp} {F : Hp} {ρ : Nat → Addr}
/-! ## loops -/
/-- what a turn's body is to reach -/
abbrev turnK (B : Bs) (S : List SV) (kk : Ks) (P : Gs → Cs → Prop) : Ks := { nx := Nx B S P, rt := kk.rt, bk := kk.nx, ct := Nx B S P }
theorem turnD {vs : List V} {D : Ends} {P : Gs → Cs → Prop} {S0 : List SV} {vs0 : List V} (d : Dk B S0 vs0 kk D) (hb : ∀ g C σ H, Rel B g S C σ vs H → Rel B g S0 C σ vs0 H) :
    Dk B S vs (turnK B S kk P) { D with nx := fun σ H => ∃ g C, P g C ∧ Rel B g S C σ vs H, ct := fun σ H => ∃ g C, P g C ∧ Rel B g S C σ vs H, bk := D.nx } :=
  ⟨fun g C σ H n R => n σ vs H R, d.rt, fun g C σ H n R => d.nx g C σ H n (hb _ _ _ _ R), fun g C σ H n R => n σ vs H R⟩
theorem ws_for1 {j : Nat} {ta : TA} (h : Wa B ta g S C fun ss C1 => ∃ n : Int, ss = [.dat (.int n)] ∧ (-(2 ^ 62) ≤ n ∧ n < 2 ^ 62) ∧ ∃ I : Nat → Gs → Cs → Prop, I 0 g C1 ∧
      (∀ (i : Nat) g' C', (i : Int) < n → I i g' C' → Ws B tbody (g'.set j (some (.dat (.int (i : Int))))) S C' (turnK B S kk (I (i + 1)))) ∧ (∀ g' C', I n.toNat g' C' → kk.nx g' C')) :
    Ws B (tFor (iRng1 ta) (gName j) tbody) g S C kk := fun σ vs H D R d => h σ vs H _ R fun ss C1 us H1 ⟨n, e, ⟨b1, b2⟩, I, i0, hs, hd⟩ l R1 => by
  subst e
  obtain ⟨u, rfl, R2⟩ := R1.one l
  obtain rfl := R2.top_int
  refine ⟨n, rfl, b1, b2, for_range (lo := 0) (n := n.toNat) (fun i σ H => ∃ g' C', I i g' C' ∧ Rel B g' S C' σ vs H) ⟨g, C1, i0, R2.drop1⟩ (fun i σ' H' hi q => ?_) fun σ' H' q => ?_⟩
  · obtain ⟨g', C', q, R3⟩ := q
    have e0 : (0 : Int) + (i : Int) = (i : Int) := Int.zero_add _
    show tbody _ (σ'.set j (some (.int ((0 : Int) + (i : Int))))) H'
    rw [e0]
    refine hs i g' C' (by omega) q _ vs H' _ ?_ (turnD d fun _ _ _ _ R => R)
    obtain ⟨F, ρ, R3⟩ := R3
    exact ⟨F, ρ, (R3.push (s := .dat (.int (i : Int))) (.int (i : Int))).set⟩
  · obtain ⟨g', C', q, R3⟩ := q
    exact d.nx g' C' σ' H' (hd g' C' q) R3
theorem ws_for2 {j : Nat} {ta : TA} (h : Wa B ta g S C fun ss C1 => ∃ lo n : Int, ss = [.dat (.int lo), .dat (.int n)] ∧ (-(2 ^ 62) ≤ lo ∧ lo < 2 ^ 62 ∧ -(2 ^ 62) ≤ n ∧ n < 2 ^ 62) ∧ ∃ I : Nat → Gs → Cs → Prop, I 0 g C1 ∧
      (∀ (i : Nat) g' C', lo + (i : Int) < n → I i g' C' → Ws B tbody (g'.set j (some (.dat (.int (lo + (i : Int)))))) S C' (turnK B S kk (I (i + 1)))) ∧ (∀ g' C', I (n - lo).toNat g' C' → kk.nx g' C')) :
    Ws B (tFor (iRng2 ta) (gName j) tbody) g S C kk := fun σ vs H D R d => h σ vs H _ R fun ss C1 us H1 ⟨lo, n, e, b, I, i0, hs, hd⟩ l R1 => by
  subst e
  obtain ⟨u, w, rfl, R2⟩ := R1.two l
  obtain rfl := R2.top_int
  obtain rfl := R2.drop1.top_int
  refine ⟨lo, n, rfl, b, for_range (lo := lo) (n := (n - lo).toNat) (fun i σ H => ∃ g' C', I i g' C' ∧ Rel B g' S C' σ vs H) ⟨g, C1, i0, R2.drop1.drop1⟩ (fun i σ' H' hi q => ?_) fun σ' H' q => ?_⟩
  · obtain ⟨g', C', q, R3⟩ := q
    refine hs i g' C' (by omega) q _ vs H' _ ?_ (turnD d fun _ _ _ _ R => R)
    obtain ⟨F, ρ, R3⟩ := R3
    exact ⟨F, ρ, (R3.push (s := .dat (.int (lo + (i : Int)))) (.int _)).set⟩
  · obtain ⟨g', C', q, R3⟩ := q
    exact d.nx g' C' σ' H' (hd g' C' q) R3
/-- over a list; it stands on the stack meanwhile; the target of any form -/
def Wg (B : Bs) (tg : TG) (x : SV) (g : Gs) (S : List SV) (C : Cs) (k : Gs → Cs → Prop) : Prop :=
  ∀ σ vs v H (Q : St → Hp → Prop), Rel B g (x :: S) C σ (v :: vs) H → (∀ g' C' σ' H', k g' C' → Rel B g' S C' σ' vs H' → Q σ' H') → tg v σ H Q
theorem wg_name {j : Nat} {x : SV} {k : Gs → Cs → Prop} (q : k (g.set j (some x)) C) : Wg B (gName j) x g S C k := fun σ vs v H Q R kq => kq _ C _ H q (let ⟨F, ρ, R⟩ := R; ⟨F, ρ, R.set⟩)
theorem ws_forL {tg : TG} (h : We B tl g S C fun s C1 => ∃ xs : List SV, ∃ I : Nat → Gs → Cs → Prop, I 0 g C1 ∧ (∀ i g' C', i ≤ xs.length → I i g' C' → LV C' s xs) ∧
      (∀ (i : Nat) x g' C', xs[i]? = some x → I i g' C' → Wg B tg x g' (s :: S) C' fun g2 C2 => Ws B tbody g2 (s :: S) C2 (turnK B (s :: S) kk (I (i + 1)))) ∧ (∀ g' C', I xs.length g' C' → kk.nx g' C')) :
    Ws B (tFor (iList B.K tl) tg tbody) g S C kk := fun σ vs H D R d => h σ vs H _ R fun s C1 v H1 ⟨xs, I, i0, hl, hs, hd⟩ R1 => by
  have key : ∀ {i g' C' σ' H'}, i ≤ xs.length → I i g' C' → Rel B g' (s :: S) C' σ' (v :: vs) H' → ∃ a ws, v = .ref a ∧ H' a = some (.lst ws) ∧ ws.length = xs.length ∧ ∃ F ρ, Rl B g' S C' σ' vs H' F ρ ∧ SIs B.K F ρ C'.length v s ∧ Paired (SIs B.K F ρ C'.length) ws xs := by
    intro i g' C' σ' H' hi q R2
    obtain ⟨F, ρ, R3, hx⟩ := R2.top
    obtain ⟨a, ws, e, ha, hp⟩ := R3.lv hx (hl i g' C' hi q)
    exact ⟨a, ws, e, ha, Paired.length hp, F, ρ, R3, hx, hp⟩
  obtain ⟨a, ws, rfl, ha, _⟩ := key (Nat.zero_le _) i0 R1
  refine ⟨a, rfl, ⟨ws, SqL.of ha⟩, ?_⟩
  refine ⟨fun i m σ' H' => m = xs.length - i ∧ i ≤ xs.length ∧ ∃ g' C', I i g' C' ∧ Rel B g' (s :: S) C' σ' (.ref a :: vs) H', ⟨xs.length, by simp, Nat.zero_le _, g, C1, i0, R1⟩, ?_⟩
  rintro i m σ' H' ⟨rfl, hi, g', C', q, R2⟩
  obtain ⟨a2, ws2, e2, ha2, hl2, F, ρ, R3, hx, hp⟩ := key hi q R2
  obtain rfl : a = a2 := by cases e2; rfl
  by_cases hlt : i < xs.length
  · refine .inr ⟨⟨ws2, ws2[i]'(by omega), SqL.of ha2, by simp [hl2, hlt]⟩, fun σ3 H3 => ∃ g3 C3, I (i + 1) g3 C3 ∧ Rel B g3 (s :: S) C3 σ3 (.ref a :: vs) H3, fun σ3 H3 p3 => ⟨xs.length - (i + 1), by omega, rfl, hlt, p3⟩, fun x H3 y => ?_⟩
    obtain ⟨e, y⟩ := y
    subst e
    have ex := y ws2 (SqL.of ha2)
    obtain ⟨sx, ex2, hsx⟩ := paired_at' hp ex
    refine hs i sx g' C' ex2 q σ' (.ref a :: vs) x _ _ ⟨F, ρ, (R3.push hx).push hsx⟩ fun g2 C2 σ2 H2 w R4 => ?_
    exact w σ2 _ H2 _ R4 (turnD d fun _ _ _ _ R => R.drop1)
  · have e : i = xs.length := by omega
    subst e
    exact .inl ⟨⟨ws2, SqL.of ha2, by omega⟩, d.nx g' C' σ' H' (hd g' C' q) R2.drop1⟩
/-- several targets -/
def Wgs (B : Bs) (tg : TGs) (xs : List SV) (g : Gs) (S : List SV) (C : Cs) (k : Gs → Cs → Prop) : Prop :=
  ∀ σ vs us H (Q : St → Hp → Prop), us.length = xs.length → Rel B g (xs ++ S) C σ (us ++ vs) H → (∀ g' C' σ' H', k g' C' → Rel B g' S C' σ' vs H' → Q σ' H') → tg us σ H Q
theorem wgs_nil {k : Gs → Cs → Prop} (q : k g C) : Wgs B gNil [] g S C k := fun σ vs us H Q l R kq => by
  match us, l with
  | [], _ => exact ⟨rfl, kq g C σ H q R⟩
theorem wgs_cons {t : TG} {ts : TGs} {x : SV} {xs : List SV} {k : Gs → Cs → Prop} (h : Wg B t x g (xs ++ S) C fun g1 C1 => Wgs B ts xs g1 S C1 k) : Wgs B (gCons t ts) (x :: xs) g S C k := fun σ vs us H Q l R kq => by
  match us, l with
  | u :: us, l =>
    refine ⟨u, us, rfl, ?_⟩
    exact h σ (us ++ vs) u H _ R fun g1 C1 σ1 H1 q1 R1 => q1 σ1 vs us H1 Q (Nat.succ.inj l) R1 kq
/-- a tuple taken apart -/
theorem wg_tup {ts : TGs} {ds : List D} {n : Nat} {k : Gs → Cs → Prop} (hn : ds.length = n) (h : Wgs B ts (ds.map .dat) g S C k) : Wg B (gTup B.K n ts) (.dat (.tuple ds)) g S C k := fun σ vs v H Q R kq => by
  obtain ⟨F, ρ, R1, hx⟩ := R.top
  obtain ⟨a, ws, rfl, ha, hp⟩ := R1.tv hx
  have hl : ws.length = ds.length := by
    have e := Paired.length hp
    rw [List.length_map] at e
    exact e
  refine ⟨a, ws, rfl, ha, by rw [hl, hn], h σ vs ws H Q (by rw [hl, List.length_map]) ⟨F, ρ, { R1 with stk := paired_app hp R1.stk }⟩ kq⟩
/-- for k, x in enumerate(xs) -/
theorem ws_forE {t1 t2 : TG} {ta : TA} (h : Wa B ta g S C fun ss C1 => ∃ s, ∃ xs : List SV, ∃ I : Nat → Gs → Cs → Prop, ss = [s] ∧ I 0 g C1 ∧ (∀ i g' C', i ≤ xs.length → I i g' C' → LV C' s xs) ∧
      (∀ (i : Nat) x g' C', xs[i]? = some x → I i g' C' → Wg B t1 (.dat (.int i)) g' (x :: s :: S) C' fun g2 C2 => Wg B t2 x g2 (s :: S) C2 fun g3 C3 => Ws B tbody g3 (s :: S) C3 (turnK B (s :: S) kk (I (i + 1)))) ∧ (∀ g' C', I xs.length g' C' → kk.nx g' C')) :
    Ws B (tFor (iEnum B.K ta) (gTup B.K 2 (gCons t1 (gCons t2 gNil))) tbody) g S C kk := fun σ vs H D R d => h σ vs H _ R fun ss C1 us H1 ⟨s, xs, I, e, i0, hl, hs, hd⟩ l R1 => by
  subst e
  obtain ⟨v, rfl, R1⟩ := R1.one l
  have key : ∀ {i g' C' σ' H'}, i ≤ xs.length → I i g' C' → Rel B g' (s :: S) C' σ' (v :: vs) H' → ∃ a ws, v = .ref a ∧ H' a = some (.lst ws) ∧ ws.length = xs.length ∧ ∃ F ρ, Rl B g' S C' σ' vs H' F ρ ∧ SIs B.K F ρ C'.length v s ∧ Paired (SIs B.K F ρ C'.length) ws xs := by
    intro i g' C' σ' H' hi q R2
    obtain ⟨F, ρ, R3, hx⟩ := R2.top
    obtain ⟨a, ws, e, ha, hp⟩ := R3.lv hx (hl i g' C' hi q)
    exact ⟨a, ws, e, ha, Paired.length hp, F, ρ, R3, hx, hp⟩
  obtain ⟨a, ws, rfl, ha, _⟩ := key (Nat.zero_le _) i0 R1
  refine ⟨a, ws, rfl, SqL.of ha, ?_⟩
  refine ⟨fun i m σ' H' => m = xs.length - i ∧ i ≤ xs.length ∧ ∃ g' C', I i g' C' ∧ Rel B g' (s :: S) C' σ' (.ref a :: vs) H', ⟨xs.length, by simp, Nat.zero_le _, g, C1, i0, R1⟩, ?_⟩
  rintro i m σ' H' ⟨rfl, hi, g', C', q, R2⟩
  obtain ⟨a2, ws2, e2, ha2, hl2, F, ρ, R3, hx, hp⟩ := key hi q R2
  obtain rfl : a = a2 := by cases e2; rfl
  by_cases hlt : i < xs.length
  · refine .inr ⟨⟨ws2, ws2[i]'(by omega), SqL.of ha2, by simp [hl2, hlt]⟩, fun σ3 H3 => ∃ g3 C3, I (i + 1) g3 C3 ∧ Rel B g3 (s :: S) C3 σ3 (.ref a :: vs) H3, fun σ3 H3 p3 => ⟨xs.length - (i + 1), by omega, rfl, hlt, p3⟩, fun x H3 y => ?_⟩
    obtain ⟨T, u, e, hT, eH, y⟩ := y
    subst e eH
    have ex := y ws2 (SqL.of ha2)
    obtain ⟨sx, ex2, hsx⟩ := paired_at' hp ex
    obtain ⟨R4, L⟩ := R3.lay (o := .tup [.int (i : Nat), u]) hT
    have hx4 := hx.mono L (Nat.le_refl _) fun _ _ => rfl
    have hs4 := hsx.mono L (Nat.le_refl _) fun _ _ => rfl
    refine ⟨T, [.int (i : Nat), u], rfl, SqT.of upd_same, rfl, .int (i : Nat), [u], rfl, ?_⟩
    refine hs i sx g' C' ex2 q σ' (u :: .ref a :: vs) (.int (i : Nat)) _ _ ⟨_, ρ, ((R4.push hx4).push hs4).push (s := .dat (.int (i : Nat))) (.int _)⟩ fun g2 C2 σ2 H2 w R5 => ?_
    refine ⟨u, [], rfl, ?_⟩
    refine w σ2 (.ref a :: vs) u H2 _ R5 fun g3 C3 σ3 H3 w3 R6 => ?_
    exact ⟨rfl, w3 σ3 _ H3 _ R6 (turnD d fun _ _ _ _ R => R.drop1)⟩
  · have e : i = xs.length := by omega
    subst e
    exact .inl ⟨⟨ws2, SqL.of ha2, by omega⟩, d.nx g' C' σ' H' (hd g' C' q) R2.drop1⟩
/-! ## what is walked -/
def Src (B : Bs) (J : It) (T : List SV) (tv : List V) (xs : List SV) (ok : Cs → Prop) : Prop := ∀ (i : Nat) g S C σ vs H, ok C → Rel B g (T ++ S) C σ (tv ++ vs) H →
  (i < xs.length → J.go i H ∧ ∀ x H', J.yld i H x H' → ∃ s, xs[i]? = some s ∧ Rel B g (s :: (T ++ S)) C σ (x :: (tv ++ vs)) H') ∧ (xs.length ≤ i → J.stop i H)
def Wi (B : Bs) (wi : TI) (g : Gs) (S : List SV) (C : Cs) (k : List SV → List SV → (Cs → Prop) → Cs → Prop) : Prop :=
  ∀ σ vs H (R : It → Hp → Prop), Rel B g S C σ vs H → (∀ J T tv xs ok C' H', k T xs ok C' → tv.length = T.length → Src B J T tv xs ok → Rel B g (T ++ S) C' σ (tv ++ vs) H' → R J H') → wi σ H R
theorem wi_list {k : List SV → List SV → (Cs → Prop) → Cs → Prop} (h : We B tl g S C fun s C1 => ∃ xs, LV C1 s xs ∧ k [s] xs (fun C' => LV C' s xs) C1) : Wi B (iList B.K tl) g S C k := fun σ vs H R0 R kq =>
  h σ vs H _ R fun s C1 v H1 ⟨xs, lv, q⟩ R1 => by
    obtain ⟨F, ρ, R2, hx⟩ := R1.top
    obtain ⟨a, ws, rfl, ha, hp⟩ := R2.lv hx lv
    refine ⟨a, rfl, ⟨ws, SqL.of ha⟩, kq (Itl B.K a) [s] [.ref a] xs (fun C' => LV C' s xs) C1 H1 q rfl (fun i g' S' C' σ' vs' H' lv' R3 => ?_) R1⟩
    obtain ⟨F3, ρ3, R4, hx4⟩ := Rel.top (S := S') (vs := vs') R3
    obtain ⟨a4, ws4, e4, ha4, hp4⟩ := R4.lv hx4 lv'
    cases e4
    have hl := Paired.length hp4
    refine ⟨fun hi => ⟨⟨ws4, ws4[i]'(by omega), SqL.of ha4, by simp [hl, hi]⟩, fun x H2 y => ?_⟩, fun hi => ⟨ws4, SqL.of ha4, by omega⟩⟩
    obtain ⟨e, y⟩ := y
    subst e
    obtain ⟨sx, ex, hsx⟩ := paired_at' hp4 (y ws4 (SqL.of ha4))
    exact ⟨sx, ex, F3, ρ3, (R4.push hx4).push hsx⟩
/-- lo, lo + 1, .. -/
def rngS (lo : Int) (n : Nat) : List SV := (List.range n).map fun (i : Nat) => .dat (.int (lo + (i : Int)))
theorem rngS_at {lo : Int} {n i : Nat} (h : i < n) : (rngS lo n)[i]? = some (.dat (.int (lo + (i : Int)))) := by
  unfold rngS
  rw [List.getElem?_map, List.getElem?_range h]
  rfl
theorem src_rng (lo : Int) (n : Nat) : Src B (Itr lo n) [] [] (rngS lo n) (fun _ => True) := fun i g S C σ vs H _ R => by
  have hl : (rngS lo n).length = n := by simp [rngS]
  rw [hl]
  refine ⟨fun hi => ⟨hi, fun x H' y => ?_⟩, fun hi => hi⟩
  obtain ⟨e1, e2⟩ := y
  subst e1 e2
  exact ⟨_, rngS_at hi, R.sc rfl⟩
theorem wi_rng1 {k : List SV → List SV → (Cs → Prop) → Cs → Prop} (h : Wa B ta' g S C fun ss C1 => ∃ n : Int, ss = [.dat (.int n)] ∧ (-(2 ^ 62) ≤ n ∧ n < 2 ^ 62) ∧ k [] (rngS 0 n.toNat) (fun _ => True) C1) : Wi B (iRng1 ta') g S C k := fun σ vs H R0 R kq =>
  h σ vs H _ R fun ss C1 us H1 ⟨n, e, ⟨b1, b2⟩, q⟩ l R1 => by
    subst e
    obtain ⟨u, rfl, R2⟩ := R1.one l
    obtain rfl := R2.top_int
    exact ⟨n, rfl, b1, b2, kq _ [] [] _ _ C1 H1 q rfl (src_rng 0 n.toNat) R2.drop1⟩
theorem wi_rng2 {k : List SV → List SV → (Cs → Prop) → Cs → Prop} (h : Wa B ta' g S C fun ss C1 => ∃ lo n : Int, ss = [.dat (.int lo), .dat (.int n)] ∧ (-(2 ^ 62) ≤ lo ∧ lo < 2 ^ 62 ∧ -(2 ^ 62) ≤ n ∧ n < 2 ^ 62) ∧ k [] (rngS lo (n - lo).toNat) (fun _ => True) C1) : Wi B (iRng2 ta') g S C k := fun σ vs H R0 R kq =>
  h σ vs H _ R fun ss C1 us H1 ⟨lo, n, e, b, q⟩ l R1 => by
    subst e
    obtain ⟨u, w, rfl, R2⟩ := R1.two l
    obtain rfl := R2.top_int
    obtain rfl := R2.drop1.top_int
    exact ⟨lo, n, rfl, b, kq _ [] [] _ _ C1 H1 q rfl (src_rng lo (n - lo).toNat) R2.drop1.drop1⟩
/-- k, x of a list of data -/
def enumD (ds : List D) : List D := ds.zipIdx.map fun p => .tuple [.int (p.2 : Int), p.1]
theorem wi_enum {k : List SV → List SV → (Cs → Prop) → Cs → Prop} (h : Wa B ta' g S C fun ss C1 => ∃ s, ∃ ds : List D, ss = [s] ∧ LV C1 s (ds.map .dat) ∧ k [s] ((enumD ds).map .dat) (fun C' => LV C' s (ds.map .dat)) C1) : Wi B (iEnum B.K ta') g S C k := fun σ vs H R0 R kq =>
  h σ vs H _ R fun ss C1 us H1 ⟨s, ds, e, lv, q⟩ l R1 => by
    subst e
    obtain ⟨v, rfl, R1⟩ := R1.one l
    obtain ⟨F, ρ, R2, hx⟩ := R1.top
    obtain ⟨a, ws, rfl, ha, hp⟩ := R2.lv hx lv
    refine ⟨a, ws, rfl, SqL.of ha, kq (Ite B.K a) [s] [.ref a] _ (fun C' => LV C' s (ds.map .dat)) C1 H1 q rfl (fun i g' S' C' σ' vs' H' lv' R3 => ?_) R1⟩
    obtain ⟨F3, ρ3, R4, hx4⟩ := Rel.top (S := S') (vs := vs') R3
    obtain ⟨a4, ws4, e4, ha4, hp4⟩ := R4.lv hx4 lv'
    cases e4
    have hl := Paired.length hp4
    rw [List.length_map] at hl
    have hl2 : ((enumD ds).map SV.dat).length = ds.length := by simp [enumD]
    rw [hl2]
    refine ⟨fun hi => ⟨⟨ws4, ws4[i]'(by omega), SqL.of ha4, by simp [hl, hi]⟩, fun x H2 y => ?_⟩, fun hi => ⟨ws4, SqL.of ha4, by omega⟩⟩
    obtain ⟨T, u, e, hT, eH, y⟩ := y
    subst e eH
    obtain ⟨sx, ex, hsx⟩ := paired_at' hp4 (y ws4 (SqL.of ha4))
    rw [List.getElem?_map, List.getElem?_eq_getElem hi] at ex
    obtain rfl : SV.dat ds[i] = sx := by simpa using ex
    obtain ⟨R5, L⟩ := R4.lay (o := .tup [.int (i : Nat), u]) hT
    have hx5 := hx4.mono L (Nat.le_refl _) fun _ _ => rfl
    refine ⟨.dat (.tuple [.int (i : Int), ds[i]]), ?_, _, ρ3, (R5.push hx5).push (.tup (SqT.of upd_same) (.cons (.int _) (.cons (Is.mono L hsx) .nil)))⟩
    simp [enumD, hi]
/-- a loop over anything -/
theorem ws_for {wi : TI} {tg : TG} (h : Wi B wi g S C fun T xs ok C1 => ∃ I : Nat → Gs → Cs → Prop, I 0 g C1 ∧ (∀ i g' C', I i g' C' → ok C') ∧
      (∀ (i : Nat) x g' C', xs[i]? = some x → I i g' C' → Wg B tg x g' (T ++ S) C' fun g2 C2 => Ws B tbody g2 (T ++ S) C2 (turnK B (T ++ S) kk (I (i + 1)))) ∧ (∀ g' C', I xs.length g' C' → kk.nx g' C')) :
    Ws B (tFor wi tg tbody) g S C kk := fun σ vs H D R d => h σ vs H _ R fun J T tv xs ok C1 H1 ⟨I, i0, hok, hs, hd⟩ hT src R1 => by
  have dropT : ∀ {g C σ H}, Rel B g (T ++ S) C σ (tv ++ vs) H → Rel B g S C σ vs H := fun {g C σ H} R => by
    obtain ⟨F, ρ, R⟩ := R
    exact ⟨F, ρ, { R with stk := (paired_append hT R.stk).2 }⟩
  refine ⟨fun i m σ' H' => m = xs.length - i ∧ i ≤ xs.length ∧ ∃ g' C', I i g' C' ∧ Rel B g' (T ++ S) C' σ' (tv ++ vs) H', ⟨xs.length, by simp, Nat.zero_le _, g, C1, i0, R1⟩, ?_⟩
  rintro i m σ' H' ⟨rfl, hi, g', C', q, R2⟩
  have z := src i g' S C' σ' vs H' (hok i g' C' q) R2
  by_cases hlt : i < xs.length
  · refine .inr ⟨(z.1 hlt).1, fun σ3 H3 => ∃ g3 C3, I (i + 1) g3 C3 ∧ Rel B g3 (T ++ S) C3 σ3 (tv ++ vs) H3, fun σ3 H3 p3 => ⟨xs.length - (i + 1), by omega, rfl, hlt, p3⟩, fun x H3 y => ?_⟩
    obtain ⟨s, es, R3⟩ := (z.1 hlt).2 x H3 y
    refine hs i s g' C' es q σ' (tv ++ vs) x H3 _ R3 fun g2 C2 σ2 H2 w R4 => ?_
    exact w σ2 _ H2 _ R4 (turnD d fun _ _ _ _ R => dropT R)
  · have e : i = xs.length := by omega
    subst e
    exact .inl ⟨z.2 (Nat.le_refl _), d.nx g' C' σ' H' (hd g' C' q) (dropT R2)⟩
/-! ## comprehensions -/
abbrev wipeG (g : Gs) (is : List Nat) : Gs := is.foldr (fun i g => g.set i none) g
/-- what the block's names hold ahead of it: kept on the stack -/
def keptS (g : Gs) : List Nat → List SV
  | [] => []
  | i :: is => (match g[i]? with
    | some (some s) => [s]
    | _ => []) ++ keptS g is
def keptV (g : Gs) (σ : St) : List Nat → List V
  | [] => []
  | i :: is => (match g[i]? with
    | some (some _) => (match σ[i]? with
      | some (some v) => [v]
      | _ => [])
    | _ => []) ++ keptV g σ is
theorem Rl.kept (R : Rl B g S C σ vs H F ρ) : ∀ is : List Nat, Paired (SIs B.K F ρ C.length) (keptV g σ is) (keptS g is)
  | [] => .nil
  | i :: is => by
    have ih := Rl.kept R is
    unfold keptV keptS
    cases e : g[i]? with
    | none => exact ih
    | some o =>
      cases o with
      | none => exact ih
      | some s =>
        obtain ⟨v, ev, hv⟩ := R.slot i s e
        rw [ev]
        exact .cons hv ih
theorem wipe_at {α : Type} (l : List (Option α)) : ∀ (is : List Nat) (j : Nat), (is.foldr (fun i g => g.set i none) l)[j]? = if j ∈ is then (if j < l.length then some none else none) else l[j]?
  | [], j => by simp
  | i :: is, j => by
    have ih := wipe_at l is j
    have hl : ∀ (js : List Nat), (js.foldr (fun i g => g.set i none) l).length = l.length := fun js => by
      induction js with
      | nil => rfl
      | cons a r h => simpa using h
    show ((is.foldr (fun i g => g.set i none) l).set i none)[j]? = _
    by_cases hj : i = j
    · subst hj
      rw [if_pos List.mem_cons_self]
      by_cases hi : i < l.length
      · rw [List.getElem?_set_self (by rw [hl]; exact hi), if_pos hi]
      · rw [List.getElem?_eq_none (by rw [List.length_set, hl]; omega), if_neg hi]
    · rw [List.getElem?_set_ne hj, ih]
      have e : (j ∈ i :: is) = (j ∈ is) := by simp [Ne.symm hj]
      simp only [e]
theorem wipe_eq (σ : St) : ∀ is : List Nat, L2.wipe σ is = is.foldr (fun i g => g.set i none) σ
  | [] => rfl
  | i :: is => by
    show (L2.wipe σ is).set i none = _
    rw [wipe_eq σ is]
    rfl
theorem wipe_len {α : Type} (l : List (Option α)) (is : List Nat) : (is.foldr (fun i g => g.set i none) l).length = l.length := by
  induction is with
  | nil => rfl
  | cons a r h => simpa using h
theorem Rel.wiped (R : Rel B g S C σ vs H) (is : List Nat) : Rel B (wipeG g is) (keptS g is ++ S) C (L2.wipe σ is) (keptV g σ is ++ vs) H := by
  obtain ⟨F, ρ, R⟩ := R
  refine ⟨F, ρ, { R with len := ?_, slot := fun j t e => ?_, stk := paired_app (R.kept is) R.stk }⟩
  · rw [wipe_eq, wipe_len, wipe_len]; exact R.len
  · rw [wipe_at] at e
    rw [wipe_eq, wipe_at]
    by_cases hj : j ∈ is
    · rw [if_pos hj] at e
      by_cases hl : j < g.length
      · rw [if_pos hl] at e; cases e
      · rw [if_neg hl] at e; cases e
    · rw [if_neg hj] at e ⊢
      exact R.slot j t e
theorem kept_at {P : V → SV → Prop} {i : Nat} {s : SV} (e : g[i]? = some (some s)) (hs : ∀ (i : Nat) (s : SV), g[i]? = some (some s) → ∃ v, σ[i]? = some (some v)) : ∀ {is : List Nat}, i ∈ is → Paired P (keptV g σ is) (keptS g is) → ∃ v, σ[i]? = some (some v) ∧ P v s
  | [], hi, _ => by cases hi
  | a :: is, hi, hp => by
    unfold keptV keptS at hp
    by_cases ha : i = a
    · subst ha
      obtain ⟨v, ev⟩ := hs i s e
      rw [e, ev] at hp
      cases hp with
      | cons h _ => exact ⟨v, ev, h⟩
    · have hm : i ∈ is := by simpa [ha] using hi
      cases e2 : g[a]? with
      | none =>
        rw [e2] at hp
        exact kept_at e hs hm hp
      | some o =>
        cases o with
        | none =>
          rw [e2] at hp
          exact kept_at e hs hm hp
        | some s2 =>
          obtain ⟨v, ev⟩ := hs a s2 e2
          rw [e2, ev] at hp
          cases hp with
          | cons _ r => exact kept_at e hs hm r
/-- back: the names as they were -/
theorem Rel.unwipe {C0 : Cs} {H0 : Hp} {S0 : List SV} {vs0 : List V} (R0 : Rel B g S0 C0 σ vs0 H0) {is : List Nat} (R : Rel B (wipeG g is) (keptS g is ++ S) C (L2.wipe σ is) (keptV g σ is ++ vs) H) : Rel B g S C σ vs H := by
  obtain ⟨F0, ρ0, R0⟩ := R0
  obtain ⟨F, ρ, R⟩ := R
  obtain ⟨h1, h2⟩ := paired_append (Paired.length (R0.kept is)) R.stk
  refine ⟨F, ρ, { R with len := R0.len, slot := fun j t e => ?_, stk := h2 }⟩
  by_cases hj : j ∈ is
  · exact kept_at e (fun i s e => let ⟨v, ev, _⟩ := R0.slot i s e; ⟨v, ev⟩) hj h1
  · have e2 : (wipeG g is)[j]? = some (some t) := by rw [wipe_at, if_neg hj]; exact e
    obtain ⟨v, q, r⟩ := R.slot j t e2
    rw [wipe_eq, wipe_at, if_neg hj] at q
    exact ⟨v, q, r⟩
/-- targets of a comprehension's block: only the block's names change -/
def Wgw (B : Bs) (tg : TG) (is : List Nat) (x : SV) (g : Gs) (S : List SV) (C : Cs) (k : Gs → Cs → Prop) : Prop :=
  ∀ σ vs v H (Q : St → Hp → Prop), Rel B g (x :: S) C σ (v :: vs) H → (∀ g' C' σ' H', k g' C' → L2.wipe σ' is = L2.wipe σ is → (∀ j : Nat, j ∉ is → g'[j]? = g[j]?) → Rel B g' S C' σ' vs H' → Q σ' H') → tg v σ H Q
theorem wipe_set_in (σ : St) (x : Option V) {j : Nat} {is : List Nat} (h : j ∈ is) : L2.wipe (σ.set j x) is = L2.wipe σ is := by
  rw [wipe_eq, wipe_eq]
  refine List.ext_getElem? fun i => ?_
  rw [wipe_at, wipe_at, List.length_set]
  by_cases hi : i ∈ is
  · rw [if_pos hi, if_pos hi]
  · rw [if_neg hi, if_neg hi, List.getElem?_set_ne (fun e => hi (by rw [← e]; exact h))]
theorem wipe_wipe (σ : St) (is : List Nat) : L2.wipe (L2.wipe σ is) is = L2.wipe σ is := by
  rw [wipe_eq (L2.wipe σ is), wipe_eq σ]
  refine List.ext_getElem? fun i => ?_
  rw [wipe_at, wipe_len, wipe_at]
  by_cases hi : i ∈ is
  · rw [if_pos hi, if_pos hi]
  · rw [if_neg hi, if_neg hi]
theorem wgw_name {j : Nat} {is : List Nat} {x : SV} {k : Gs → Cs → Prop} (hj : j ∈ is) (q : k (g.set j (some x)) C) : Wgw B (gName j) is x g S C k := fun σ vs v H Q R kq => kq _ C _ H q (wipe_set_in σ _ hj) (fun i hi => List.getElem?_set_ne fun e => hi (by rw [← e]; exact hj)) (let ⟨F, ρ, R⟩ := R; ⟨F, ρ, R.set⟩)
def Wgsw (B : Bs) (tg : TGs) (is : List Nat) (xs : List SV) (g : Gs) (S : List SV) (C : Cs) (k : Gs → Cs → Prop) : Prop :=
  ∀ σ vs us H (Q : St → Hp → Prop), us.length = xs.length → Rel B g (xs ++ S) C σ (us ++ vs) H → (∀ g' C' σ' H', k g' C' → L2.wipe σ' is = L2.wipe σ is → (∀ j : Nat, j ∉ is → g'[j]? = g[j]?) → Rel B g' S C' σ' vs H' → Q σ' H') → tg us σ H Q
theorem wgsw_nil {is : List Nat} {k : Gs → Cs → Prop} (q : k g C) : Wgsw B gNil is [] g S C k := fun σ vs us H Q l R kq => by
  match us, l with
  | [], _ => exact ⟨rfl, kq g C σ H q rfl (fun _ _ => rfl) R⟩
theorem wgsw_cons {is : List Nat} {t : TG} {ts : TGs} {x : SV} {xs : List SV} {k : Gs → Cs → Prop} (h : Wgw B t is x g (xs ++ S) C fun g1 C1 => Wgsw B ts is xs g1 S C1 k) : Wgsw B (gCons t ts) is (x :: xs) g S C k := fun σ vs us H Q l R kq => by
  match us, l with
  | u :: us, l =>
    refine ⟨u, us, rfl, ?_⟩
    exact h σ (us ++ vs) u H _ R fun g1 C1 σ1 H1 q1 e1 w1 R1 => q1 σ1 vs us H1 Q (Nat.succ.inj l) R1 fun g2 C2 σ2 H2 q2 e2 w2 R2 => kq g2 C2 σ2 H2 q2 (e2.trans e1) (fun j hj => (w2 j hj).trans (w1 j hj)) R2
theorem wgw_tup {is : List Nat} {ts : TGs} {ds : List D} {n : Nat} {k : Gs → Cs → Prop} (hn : ds.length = n) (h : Wgsw B ts is (ds.map .dat) g S C k) : Wgw B (gTup B.K n ts) is (.dat (.tuple ds)) g S C k := fun σ vs v H Q R kq => by
  obtain ⟨F, ρ, R1, hx⟩ := R.top
  obtain ⟨a, ws, rfl, ha, hp⟩ := R1.tv hx
  have hl : ws.length = ds.length := by
    have e := Paired.length hp
    rw [List.length_map] at e
    exact e
  refine ⟨a, ws, rfl, ha, by rw [hl, hn], h σ vs ws H Q (by rw [hl, List.length_map]) ⟨F, ρ, { R1 with stk := paired_app hp R1.stk }⟩ kq⟩
/-- what a cell stands for once it is frozen -/
def Fzn (c : Cell) (d : D) : Prop := ∀ (K : PySem.W.Frag) (F : Hp) (ρ : Nat → Addr) (n : Nat) (o : HO) (p : Addr), F p = some o → CIs K F ρ n o c → Is K F (.ref p) d
theorem fzn_lst (ds : List D) : Fzn (.lst (ds.map .dat)) (.list ds) := fun K F ρ n o p e h => by
  cases h with
  | lst h => exact .lst e (all_sis h)
theorem kv_sis {K : PySem.W.Frag} {F : Hp} {ρ : Nat → Addr} {n : Nat} : ∀ {ws : List (Key × V)} {ds : List (Key × D)}, Paired (fun p q => p.1 = q.1 ∧ SIs K F ρ n p.2 q.2) ws (ds.map fun q => (q.1, SV.dat q.2)) → IsKv K F ws (ds.map fun q => (keyD q.1, q.2))
  | [], [], _ => .nil
  | (k, v) :: _, _ :: _, .cons h r => by
    obtain ⟨h1, h2⟩ := h
    have h1' : k = _ := h1
    subst h1'
    exact .cons h2 (kv_sis r)
  | [], _ :: _, h => nomatch h
  | _ :: _, [], h => nomatch h
theorem fzn_dct (ds : List (Key × D)) : Fzn (.dct (ds.map fun q => (q.1, SV.dat q.2))) (.dict (ds.map fun q => (keyD q.1, q.2))) := fun K F ρ n o p e h => by
  cases h with
  | dct h => exact .dct e (kv_sis h)
/-- the cell at the end is taken off, frozen -/
theorem Rl.frzE {c0 : Cell} {d0 : D} {p : Addr} (hf : Fzn c0 d0) (R : Rl B g (.ref C.length :: S) (C ++ [some c0]) σ (.ref p :: vs) H F ρ)
    (wg : ∀ (i : Nat) (j : Nat), g[i]? = some (some (.ref j)) → j < C.length) (ws : ∀ j, SV.ref j ∈ S → j < C.length) (wc : ∀ (i : Nat) (c : Cell), C[i]? = some (some c) → ∀ (o : HO) F ρ n, CIs B.K F ρ n o c → CIs B.K F ρ C.length o c) (wn : B.n0 ≤ C.length) :
    ∃ F', Rl B g (.dat d0 :: S) C σ (.ref p :: vs) H F' ρ := by
  obtain ⟨R1, h1, h2⟩ := R.pop
  have ep : p = ρ C.length := by cases h2; rfl
  obtain ⟨n1, ⟨u, e1, h3⟩, h4⟩ := R.cell C.length c0 (by simp)
  have L : Le F (upd F (ρ C.length) u) := fun b u e => by rw [upd_ne (ne_of_none e n1)]; exact e
  have lt : ∀ {i : Nat} {c : Cell}, C[i]? = some (some c) → i < C.length := fun e => (List.getElem?_eq_some_iff.mp e).1
  have up : ∀ {i : Nat} {c : Cell}, C[i]? = some (some c) → (C ++ [some c0])[i]? = some (some c) := fun e => by rw [List.getElem?_append_left (lt e)]; exact e
  have dn : ∀ {v : V} {s : SV}, (∀ j, s = .ref j → j < C.length) → SIs B.K F ρ (C ++ [some c0]).length v s → SIs B.K (upd F (ρ C.length) u) ρ C.length v s := fun {v s} hr q => by
    cases s with
    | dat d => exact Is.mono L q
    | ref j => exact ⟨hr j rfl, q.2⟩
    | scr ns => exact let ⟨a, e, z⟩ := q; ⟨a, e, L.sq z⟩
  refine ⟨_, ⟨fun b u e => ?_, R.sub.tr L, R.keep, R.there, fun b u e => ?_, R.rho, wn, fun i j c d a b => R.inj i j c d (up a) (up b), fun i c e => ?_, R.len, fun i s e => ?_, ?_⟩⟩
  · by_cases hb : b = ρ C.length
    · subst hb; rw [upd_same] at e; cases e; exact e1
    · rw [upd_ne hb] at e; exact R.le b u e
  · by_cases hb : b = ρ C.length
    · rcases h4 with h4 | h4
      · omega
      · rw [hb]; exact .inr (.inl h4)
    · rw [upd_ne hb] at e; exact R.frz b u e
  · obtain ⟨q1, ⟨o, q2, q3⟩, q4⟩ := R.cell i c (up e)
    have ne : ρ i ≠ ρ C.length := fun z => absurd (R.inj i C.length c c0 (up e) (by simp) z) (Nat.ne_of_lt (lt e))
    exact ⟨by rw [upd_ne ne]; exact q1, ⟨o, q2, (wc i c e o F ρ _ q3).mono L (Nat.le_refl _) fun _ _ => rfl⟩, q4⟩
  · obtain ⟨v, q, r⟩ := R.slot i s e
    exact ⟨v, q, dn (fun j ej => by subst ej; exact wg i j e) r⟩
  · refine .cons ?_ ?_
    · rw [ep]
      exact hf _ _ ρ _ _ _ upd_same (h3.mono L (Nat.le_refl _) fun _ _ => rfl)
    · have h5 := R1.stk
      clear R R1 h1 h2 h4
      induction S generalizing vs with
      | nil => cases h5; exact .nil
      | cons s S ih =>
        cases h5 with
        | cons a b => exact .cons (dn (fun j ej => ws j (by rw [ej]; exact List.mem_cons_self)) a) (ih (fun j hj => ws j (List.mem_cons_of_mem _ hj)) b)
theorem SIs.lt {K : PySem.W.Frag} {F F0 : Hp} {ρ ρ0 : Nat → Addr} {n n0 : Nat} {v v0 : V} : ∀ {s : SV}, SIs K F0 ρ0 n0 v0 s → SIs K F ρ n v s → SIs K F ρ n0 v s
  | .dat _, _, h => h
  | .ref _, a, h => ⟨a.1, h.2⟩
  | .scr _, _, h => h
theorem paired_lt {α : Type} {P Q R : α → SV → Prop} (h : ∀ v0 v s, P v0 s → Q v s → R v s) : ∀ {xs0 xs : List α} {ys : List SV}, Paired P xs0 ys → Paired Q xs ys → Paired R xs ys
  | _, _, _, .nil, .nil => .nil
  | _, _, _, .cons a r, .cons b t => .cons (h _ _ _ a b) (paired_lt h r t)
theorem paired_lt2 {κ : Type} {P Q R : κ × V → κ × SV → Prop} (h : ∀ v0 v s, P v0 s → Q v s → R v s) : ∀ {xs0 xs : List (κ × V)} {ys : List (κ × SV)}, Paired P xs0 ys → Paired Q xs ys → Paired R xs ys
  | _, _, _, .nil, .nil => .nil
  | _, _, _, .cons a r, .cons b t => .cons (h _ _ _ a b) (paired_lt2 h r t)
theorem CIs.lt {K : PySem.W.Frag} {F F0 : Hp} {ρ ρ0 : Nat → Addr} {n n0 : Nat} {o o0 : HO} {c : Cell} (h0 : CIs K F0 ρ0 n0 o0 c) (h : CIs K F ρ n o c) : CIs K F ρ n0 o c := by
  cases h0 with
  | lst h0 => cases h with
    | lst h => exact .lst (paired_lt (fun _ _ _ a b => a.lt b) h0 h)
  | dct h0 => cases h with
    | dct h => exact .dct (paired_lt2 (fun _ _ _ a b => ⟨b.1, a.2.lt b.2⟩) h0 h)
  | ins h0 => cases h with
    | ins h => exact .ins (paired_lt2 (fun _ _ _ a b => ⟨b.1, a.2.lt b.2⟩) h0 h)
theorem mem_ref {S : List SV} {vs : List V} {K : PySem.W.Frag} {F : Hp} {ρ : Nat → Addr} {n : Nat} (h : Paired (SIs K F ρ n) vs S) {j : Nat} (hj : SV.ref j ∈ S) : j < n := by
  induction h with
  | nil => cases hj
  | cons a r ih =>
    rcases List.mem_cons.mp hj with e | e
    · subst e; exact a.1
    · exact ih e
/-- a cell made on the way, at the end, is frozen -/
theorem Rel.frzE {S0 : List SV} {σ0 : St} {vs0 : List V} {H0 : Hp} {c0 : Cell} {d0 : D} {p : Addr} (hf : Fzn c0 d0) (R0 : Rel B g S0 C σ0 vs0 H0) (hS : ∀ s ∈ S, s ∈ S0) (R : Rel B g (.ref C.length :: S) (C ++ [some c0]) σ (.ref p :: vs) H) : Rel B g (.dat d0 :: S) C σ (.ref p :: vs) H := by
  obtain ⟨F0, ρ0, R0⟩ := R0
  obtain ⟨F, ρ, R⟩ := R
  obtain ⟨F', RG⟩ := R.frzE hf (fun i j e => by
      obtain ⟨v, _, q⟩ := R0.slot i _ e
      exact q.1) (fun j hj => mem_ref R0.stk (hS _ hj)) (fun i c e o F ρ n q => by
      obtain ⟨_, ⟨o0, _, q0⟩, _⟩ := R0.cell i c e
      exact q0.lt q) R0.nc
  exact ⟨F', ρ, RG⟩
theorem kept_len {C0 : Cs} {H0 : Hp} {S0 : List SV} {vs0 : List V} (R : Rel B g S0 C0 σ vs0 H0) (is : List Nat) : (keptV g σ is).length = (keptS g is).length := let ⟨_, _, R⟩ := R; Paired.length (R.kept is)
theorem Rel.wlen (R : Rel B g S C σ vs H) : σ.length = g.length := let ⟨_, _, R⟩ := R; R.len
/-- the block's names forgotten again -/
theorem Rel.rewipe {g2 : Gs} {σ2 : St} {is : List Nat} (R : Rel B g2 S C σ2 vs H) (ew : L2.wipe σ2 is = L2.wipe σ is) (wg : ∀ j : Nat, j ∉ is → g2[j]? = (wipeG g is)[j]?) (hn : (L2.wipe σ is).length = (wipeG g is).length) : Rel B (wipeG g is) S C (L2.wipe σ is) vs H := by
  obtain ⟨F, ρ, R⟩ := R
  refine ⟨F, ρ, { R with len := ?_, slot := fun j t e => ?_ }⟩
  · exact hn
  · have hj : j ∉ is := fun h => by
      rw [wipe_at, if_pos h] at e
      by_cases hl : j < g.length
      · rw [if_pos hl] at e; cases e
      · rw [if_neg hl] at e; cases e
    rw [← wg j hj] at e
    obtain ⟨v, q, r⟩ := R.slot j t e
    refine ⟨v, ?_, r⟩
    rw [← ew, wipe_eq, wipe_at, if_neg hj]
    exact q
/-- [e for x in xs if t] -/
theorem we_lc {wi : TI} {tg : TG} {is : List Nat} {α : Type} (as : List α) (enc : α → SV) (p : α → Bool) (f : α → D) (hl : as.length ≤ sizeLine)
    (h : Wi B wi g S C fun T xs ok C1 => xs = as.map enc ∧ (∀ acc, ok (C1 ++ [some (.lst acc)])) ∧ (∀ (i : Nat) a acc, as[i]? = some a → Wgw B tg is (enc a) (wipeG g is) (.ref C1.length :: (T ++ (keptS g is ++ S))) (C1 ++ [some (.lst acc)]) fun g2 C2 => C2 = C1 ++ [some (.lst acc)] ∧
        Wt B tt g2 (.ref C1.length :: (T ++ (keptS g is ++ S))) (C1 ++ [some (.lst acc)]) fun b C3 => C3 = C1 ++ [some (.lst acc)] ∧ b = p a ∧ (b = true → We B te g2 (.ref C1.length :: (T ++ (keptS g is ++ S))) (C1 ++ [some (.lst acc)]) fun y C4 => C4 = C1 ++ [some (.lst acc)] ∧ y = .dat (f a))) ∧
      k (.dat (.list ((as.filter p).map f))) C1) : We B (tLc wi tg tt te is) g S C k := fun σ vs H Q R kq =>
  h σ vs H _ R fun J T tv xs ok C1 H1 ⟨exs, hok, hs, hk⟩ hT src R1 D hD => by
    subst exs
    have R1' : Rel B g (T ++ S) C1 σ (tv ++ vs) H1 := R1
    -- ahead: the names' values on the stack, the new list a cell
    have RS : Rel B (wipeG g is) (T ++ (keptS g is ++ S)) C1 (L2.wipe σ is) (tv ++ (keptV g σ is ++ vs)) H1 := by
      obtain ⟨F, ρ, R2⟩ := R1'.wiped is
      obtain ⟨F0, ρ0, R0⟩ := R1'
      have hk := Paired.length (R0.kept is)
      obtain ⟨a, b⟩ := paired_append hk R2.stk
      obtain ⟨c, d⟩ := paired_append hT b
      exact ⟨F, ρ, { R2 with stk := paired_app c (paired_app a d) }⟩
    have RD : Rel B (wipeG g is) (.ref C1.length :: (T ++ (keptS g is ++ S))) (C1 ++ [some (.lst [])]) (L2.wipe σ is) (.ref D :: (tv ++ (keptV g σ is ++ vs))) (upd H1 D (.lst [])) := by
      obtain ⟨F, ρ, R2⟩ := RS
      exact ⟨F, _, R2.lay_c hD (.lst .nil)⟩
    have outs : ∀ i, ((as.take i).filter p).length ≤ i := fun i => Nat.le_trans (List.length_filter_le _ _) (by rw [List.length_take]; omega)
    let Iv : Nat → Hp → Prop := fun i H' => Rel B (wipeG g is) (.ref C1.length :: (T ++ (keptS g is ++ S))) (C1 ++ [some (.lst ((((as.take i).filter p).map f).map .dat))]) (L2.wipe σ is) (.ref D :: (tv ++ (keptV g σ is ++ vs))) H'
    refine ⟨fun i m H' => m = as.length - i ∧ i ≤ as.length ∧ Iv i H', ⟨as.length, by simp, Nat.zero_le _, by show Rel _ _ _ _ _ _ _; simpa using RD⟩, ?_⟩
    rintro i m H' ⟨rfl, hi, RI⟩
    have RI' : Rel B (wipeG g is) (T ++ (.ref C1.length :: (keptS g is ++ S))) (C1 ++ [some (.lst ((((as.take i).filter p).map f).map .dat))]) (L2.wipe σ is) (tv ++ (.ref D :: (keptV g σ is ++ vs))) H' := by
      obtain ⟨F, ρ, R2⟩ := (RI : Rel _ _ _ _ _ _ _)
      cases e : R2.stk with
      | cons a b =>
        obtain ⟨c, d⟩ := paired_append hT b
        exact ⟨F, ρ, { R2 with stk := paired_app c (.cons a d) }⟩
    have z := src i _ _ _ _ _ H' (hok _) RI'
    rw [List.length_map] at z
    by_cases hlt : i < as.length
    · refine .inr ⟨(z.1 hlt).1, Iv (i + 1), fun H3 p3 => ⟨as.length - (i + 1), by omega, rfl, hlt, p3⟩, fun x H3 y => ?_⟩
      obtain ⟨s, es, R3⟩ := (z.1 hlt).2 x H3 y
      have ea : as[i]? = some as[i] := List.getElem?_eq_getElem hlt
      rw [List.getElem?_map, ea] at es
      obtain rfl : enc as[i] = s := by simpa using es
      have R4 : Rel B (wipeG g is) (enc as[i] :: .ref C1.length :: (T ++ (keptS g is ++ S))) (C1 ++ [some (.lst ((((as.take i).filter p).map f).map .dat))]) (L2.wipe σ is) (x :: .ref D :: (tv ++ (keptV g σ is ++ vs))) H3 := by
        obtain ⟨F, ρ, R2⟩ := R3
        cases e : R2.stk with
        | cons a b =>
          obtain ⟨c, d⟩ := paired_append hT b
          cases d with
          | cons d1 d2 => exact ⟨F, ρ, { R2 with stk := .cons a (.cons d1 (paired_app c d2)) }⟩
      have et : as.take (i + 1) = as.take i ++ [as[i]] := by rw [List.take_succ, ea]; rfl
      refine hs i as[i] _ ea (L2.wipe σ is) _ x H3 _ R4 fun g2 C2 σ2 H4 ⟨e2, q2⟩ ew wg R5 => ?_
      subst e2
      refine ⟨by rw [ew, wipe_wipe], q2 σ2 _ H4 _ R5 fun b C3 H5 ⟨e3, eb, q3⟩ R6 => ?_⟩
      subst e3
      cases b with
      | true =>
        show te σ2 H5 _
        refine q3 rfl σ2 _ H5 _ R6 fun y C4 v H6 ⟨e4, ey⟩ R7 => ?_
        subst e4 ey
        obtain ⟨F, ρ, R7⟩ := R7
        obtain ⟨R8, hv⟩ := R7.pop
        obtain ⟨R9, hr1, hr2⟩ := R8.pop
        have hD2 : D = ρ C1.length := by cases hr2; rfl
        obtain ⟨n1, ⟨u, e1, h3⟩, h4⟩ := R8.cell C1.length (.lst ((((as.take i).filter p).map f).map .dat)) (by simp)
        cases h3 with
        | @lst ws' _ h3 =>
          refine ⟨ws', by rw [hD2]; exact e1, ?_, ?_⟩
          · rw [Paired.length h3, List.length_map, List.length_map]
            exact Nat.lt_of_le_of_lt (outs i) (Nat.lt_of_lt_of_le hlt hl)
          · have R10 := R8.wr (i := C1.length) (c := .lst ((((as.take i).filter p).map f).map .dat)) (c' := .lst (((((as.take i).filter p).map f).map .dat) ++ [.dat (f as[i])])) (o := .lst (ws' ++ [v])) (by simp) (.lst (Paired.snoc h3 hv))
            rw [← hD2] at R10
            have ec : (C1 ++ [some (Cell.lst ((((as.take i).filter p).map f).map .dat))]).set C1.length (some (.lst (((((as.take i).filter p).map f).map .dat) ++ [.dat (f as[i])]))) = C1 ++ [some (Cell.lst ((((as.take (i + 1)).filter p).map f).map .dat))] := by
              rw [et, List.filter_append, List.filter_cons, ← eb]
              simp
            rw [ec] at R10
            exact Rel.rewipe ⟨F, ρ, R10⟩ (by rw [ew, wipe_wipe]) wg RI.wlen
      | false =>
        show Iv (i + 1) H5
        have ec : ((as.take (i + 1)).filter p) = ((as.take i).filter p) := by
          rw [et, List.filter_append, List.filter_cons, ← eb]
          simp
        show Rel _ _ _ _ _ _ _
        rw [ec]
        exact Rel.rewipe R6 (by rw [ew, wipe_wipe]) wg RI.wlen
    · have e : i = as.length := by omega
      subst e
      refine .inl ⟨z.2 (Nat.le_refl _), ?_⟩
      have RF : Rel B (wipeG g is) (.ref C1.length :: (T ++ (keptS g is ++ S))) (C1 ++ [some (.lst ((((as.take as.length).filter p).map f).map .dat))]) (L2.wipe σ is) (.ref D :: (tv ++ (keptV g σ is ++ vs))) H' := RI
      rw [List.take_length] at RF
      obtain ⟨F0, ρ0, R0⟩ := RS
      obtain ⟨F, ρ, RF⟩ := RF
      obtain ⟨F', RG⟩ := RF.frzE (fzn_lst _) (fun i j e => by
          obtain ⟨v, _, q⟩ := R0.slot i _ e
          exact q.1) (fun j hj => mem_ref R0.stk hj) (fun i c e o F ρ n q => by
          obtain ⟨_, ⟨o0, _, q0⟩, _⟩ := R0.cell i c e
          exact q0.lt q) R0.nc
      refine kq _ C1 (.ref D) H' hk (Rel.unwipe (is := is) (S := .dat (.list ((as.filter p).map f)) :: S) (vs := .ref D :: vs) R1 ⟨F', ρ, { RG with stk := ?_ }⟩)
      cases e : RG.stk with
      | cons a b =>
        obtain ⟨c, d⟩ := paired_append hT b
        obtain ⟨c2, d2⟩ := paired_append (kept_len R1 is) d
        exact paired_app c2 (.cons a d2)
end
end Sy

set_option Elab.async false
set_option linter.all false
set_option maxRecDepth 100000
set_option maxHeartbeats 400000
namespace Sy
open PySem L2
section
variable {B : Bs} {g : Gs} {S : List SV} {C : Cs} {k : SV → Cs → Prop} {kb : Bool → Cs → Prop} {ka : List SV → Cs → Prop} {te ta tb tc tl : TE} {t' : TA} {tt tu : TT} {kk : Ks} {tbody : TS}
variable {σ : St} {vs : List V} {H : Hp} {F : Hp} {ρ : Nat → Addr}
/-! ## defs without cells -/
/-- what a def keeps: its arguments closed, what it hands back data; ex: what it may raise (the class, the number) -/
structure Cp where
  ι : Type
  pre : ι → Prop
  args : ι → List SV
  post : ι → D → Prop
  exc : ι → Addr → Int → Prop := fun _ _ _ => False
def Cp.sp (K : PySem.W.Frag) (c : Cp) : Sp := fun vs H Q E => ∃ (i : c.ι) (F : Hp), c.pre i ∧ Le F H ∧ (c.args i).all SV.cl = true ∧ Paired (SIs K F (fun _ => 0) 0) vs (c.args i) ∧
  (∀ d v F' H', c.post i d → Le F F' → Le F' H' → Le H H' → (∀ b o, F' b = some o → F b = some o ∨ H b = none) → Is K F' v d → Q v H') ∧
  (∀ cls n dd fs H', c.exc i cls n → Le H H' → H' dd = some (.xd fs) → fs.lookup ("at" : Str) = some (.int n) → E (.ref cls) (some dd) H')
/-- E may be reached by what ex tells -/
def Xk (B : Bs) (E : XK) (ex : Addr → Int → Prop) : Prop := ∀ cls n dd fs H', ex cls n → (∀ b o, B.H0 b = some o → (∀ i, i < B.n0 → B.r0 i ≠ b) → H' b = some o) → H' dd = some (.xd fs) → fs.lookup ("at" : Str) = some (.int n) → E (.ref cls) (some dd) H'
theorem start_slot {P : V → SV → Prop} {m m' : Nat} : ∀ {vs : List V} {ss : List SV}, Paired P vs ss → ∀ {i : Nat} {s : SV}, (ss.map some ++ List.replicate m none)[i]? = some (some s) → ∃ v, (vs.map some ++ List.replicate m' none)[i]? = some (some v) ∧ P v s
  | _, _, .nil, i, s, e => by
    have e2 : (List.replicate m (none : Option SV))[i]? = some (some s) := e
    rw [List.getElem?_replicate] at e2
    split at e2 <;> cases e2
  | _, _, .cons a r, 0, s, e => by
    have e2 : some (some _) = some (some s) := e
    cases e2
    exact ⟨_, rfl, a⟩
  | _, _, .cons a r, i + 1, s, e => start_slot r (i := i) e
/-- the body of such a def -/
theorem Cp.body {K : PySem.W.Frag} {c : Cp} {vs : List V} {H : Hp} {Q : VK} {E : XK} {N : List Str} {t : TS} (h : c.sp K vs H Q E)
    (hb : ∀ (B : Bs) (i : c.ι), B.K = K → c.pre i → Xk B E (c.exc i) →
      B.n0 = 0 → Ws B t ((c.args i).map some ++ List.replicate (N.length - (c.args i).length) none) [] [] ⟨fun _ _ => c.post i .none, fun s _ => ∃ d, s = .dat d ∧ c.post i d, fun _ _ => False, fun _ _ => False⟩) :
    t { nx := fun _ H' => Q .non H', rt := Q } (L2.start N vs) H := by
  obtain ⟨i, F, hp, hF, hc, ha, hq, he⟩ := h
  have hl := Paired.length ha
  refine hb ⟨K, H, F, 0, fun _ => 0⟩ i rfl hp (fun cls n dd fs H' x k a b => he cls n dd fs H' x (fun b o e => k b o e fun j hj => absurd hj (Nat.not_lt_zero j)) a b) rfl (L2.start N vs) [] H _ ⟨F, fun _ => 0, hF, fun _ _ e => e, fun b o e _ => e, fun b e => e, fun b o e => .inl e, fun i hi => absurd hi (Nat.not_lt_zero i), Nat.zero_le _, fun i j c d e => by simp at e, fun i c e => by simp at e, ?_, fun i s e => ?_, .nil⟩ ⟨fun g C σ H' q R => ?_, fun s C v H' q R => ?_, fun _ _ _ _ q _ => q.elim, fun _ _ _ _ q _ => q.elim⟩
  · unfold L2.start
    rw [List.length_append, List.length_append, List.length_map, List.length_map, hl, List.length_replicate, List.length_replicate]
  · exact start_slot ha e
  · obtain ⟨F', ρ', R⟩ := R
    exact hq .none .non F' H' q R.sub R.le (fun b o e => R.keep b o e fun j hj => absurd hj (Nat.not_lt_zero j)) (fun b o e => by
      rcases R.frz b o e with z | z | ⟨j, hj, _⟩
      · exact .inl z
      · exact .inr z
      · exact absurd hj (Nat.not_lt_zero j)) .non
  · obtain ⟨d, e, q⟩ := q
    subst e
    obtain ⟨F', ρ', R, hd⟩ := R.top
    exact hq d v F' H' q R.sub R.le (fun b o e => R.keep b o e fun j hj => absurd hj (Nat.not_lt_zero j)) (fun b o e => by
      rcases R.frz b o e with z | z | ⟨j, hj, _⟩
      · exact .inl z
      · exact .inr z
      · exact absurd hj (Nat.not_lt_zero j)) hd
/-- behind a call that laid new things alone -/
theorem Rl.grown {F' H' : Hp} (R : Rl B g S C σ vs H F ρ) (h1 : Le F F') (h2 : Le F' H') (h3 : Le H H') (h4 : ∀ b o, F' b = some o → F b = some o ∨ H b = none) : Rl B g S C σ vs H' F' ρ := by
  refine ⟨h2, R.sub.tr h1, fun b o e k => h3 b o (R.keep b o e k), fun b e => R.there b ?_, fun b o e => ?_, R.rho, R.nc, R.inj, fun i c e => ?_, R.len, fun i s e => ?_, ?_⟩
  · cases q : H b with
    | none => rfl
    | some o => rw [h3 b o q] at e; cases e
  · rcases h4 b o e with z | z
    · exact R.frz b o z
    · exact .inr (.inl (R.there b z))
  · obtain ⟨q1, ⟨o, q2, q3⟩, q4⟩ := R.cell i c e
    refine ⟨?_, ⟨o, h3 _ _ q2, q3.mono h1 (Nat.le_refl _) fun _ _ => rfl⟩, q4⟩
    cases q : F' (ρ i) with
    | none => rfl
    | some u =>
      rcases h4 _ u q with z | z
      · rw [q1] at z; cases z
      · rw [q2] at z; cases z
  · obtain ⟨v, q, r⟩ := R.slot i s e
    exact ⟨v, q, r.mono h1 (Nat.le_refl _) fun _ _ => rfl⟩
  · exact Paired.mapP R.stk fun _ _ q => q.mono h1 (Nat.le_refl _) fun _ _ => rfl
theorem sis_cl {K : PySem.W.Frag} {F : Hp} {ρ ρ' : Nat → Addr} {n n' : Nat} : ∀ {ws : List V} {ss : List SV}, ss.all SV.cl = true → Paired (SIs K F ρ n) ws ss → Paired (SIs K F ρ' n') ws ss
  | _, _, _, .nil => .nil
  | _, _, h, .cons a r => by
    rw [List.all_cons, Bool.and_eq_true] at h
    exact .cons (SIs.cl h.1 a) (sis_cl h.2 r)
/-- a call of such a def -/
theorem we_call {c : Cp} {E : XK} {ex : Addr → Int → Prop} (hX : Xk B E ex) (h : Wa B t' g S C fun ss C1 => ∃ i, ss = c.args i ∧ (c.args i).all SV.cl = true ∧ c.pre i ∧ (∀ d, c.post i d → k (.dat d) C1) ∧ (∀ cls n, c.exc i cls n → ex cls n)) :
    We B (tCall (c.sp B.K) [] E t') g S C k := fun σ vs H Q R kq => h σ vs H _ R fun ss C1 us H1 ⟨i, e, hc, hp, hk, he⟩ l R1 => by
  subst e
  obtain ⟨F, ρ, R1⟩ := R1
  obtain ⟨R2, hu⟩ := popN R1 l
  show c.sp B.K (us ++ []) H1 Q E
  rw [List.append_nil]
  refine ⟨i, F, hp, R2.le, hc, sis_cl hc hu, fun d v F' H' q h1 h2 h3 h4 hd => ?_, fun cls n dd fs H' x h3 a b => ?_⟩
  · exact kq (.dat d) C1 v H' (hk d q) ⟨F', ρ, (R2.grown h1 h2 h3 h4).push hd⟩
  · exact hX cls n dd fs H' (he cls n x) (fun b o e k => h3 b o (R2.keep b o e k)) a b
theorem Cp.len {K : PySem.W.Frag} {c : Cp} {n : Nat} (h : ∀ i, (c.args i).length = n) (vs : List V) (H : Hp) (Q : VK) (E : XK) (p : c.sp K vs H Q E) : vs.length = n := let ⟨i, _, _, _, _, hp, _⟩ := p; (Paired.length hp).trans (h i)
theorem xk0 {ex : Addr → Int → Prop} (h : ∀ cls n, ¬ ex cls n) : Xk B E0 ex := fun cls n _ _ _ x _ _ _ => absurd x (h cls n)
theorem xk0' : Xk B E0 (fun _ _ => False) := fun _ _ _ _ _ x _ _ _ => x.elim
end
end Sy

set_option Elab.async false
set_option linter.all false
set_option maxRecDepth 100000
set_option maxHeartbeats 400000
namespace Sy
open PySem L2
section
variable {B : Bs} {g : Gs} {S : List SV} {C : Cs} {k : SV → Cs → Prop} {kb : Bool → Cs → Prop} {ka : List SV → Cs → Prop} {te ta tb tc tl : TE} {t' : TA} {tt tu : TT} {kk : Ks} {tbody : TS}
variable {σ : St} {vs : List V} {H : Hp} {F : Hp} {ρ : Nat → Addr}
/-! ## dicts -/
theorem keyD_inj {a b : Key} (h : keyD a = keyD b) : a = b := by
  cases a <;> cases b <;> simp only [keyD, PyData.int.injEq, PyData.str.injEq, reduceCtorEq] at h <;> rw [h]
/-- the value at a key -/
inductive DL : List (D × D) → Key → D → Prop
  | here {k : Key} {d : D} {r : List (D × D)} : DL ((keyD k, d) :: r) k d
  | next {k k' : Key} {d d' : D} {r : List (D × D)} : k' ≠ k → DL r k d → DL ((keyD k', d') :: r) k d
inductive KL : List (Key × SV) → Key → SV → Prop
  | here {k : Key} {d : SV} {r : List (Key × SV)} : KL ((k, d) :: r) k d
  | next {k k' : Key} {d d' : SV} {r : List (Key × SV)} : k' ≠ k → KL r k d → KL ((k', d') :: r) k d
theorem DL.val {K : PySem.W.Frag} {F : Hp} : ∀ {ds : List (D × D)} {k : Key} {d : D}, DL ds k d → ∀ {ks : List (Key × V)}, IsKv K F ks ds → ∃ v, valV ks k = some v ∧ Is K F v d
  | _, _, _, .here, _, h => by
    generalize e : (keyD _, _) :: _ = l at h
    cases h with
    | nil => cases e
    | cons a r =>
      simp only [List.cons.injEq, Prod.mk.injEq] at e
      obtain ⟨⟨e1, e2⟩, _⟩ := e
      rw [← e2] at a
      exact ⟨_, valV_pos (keyD_inj e1).symm, a⟩
  | _, _, _, .next n l, _, h => by
    generalize e : (keyD _, _) :: _ = l' at h
    cases h with
    | nil => cases e
    | cons a r =>
      simp only [List.cons.injEq, Prod.mk.injEq] at e
      obtain ⟨⟨e1, e2⟩, e3⟩ := e
      rw [← e3] at r
      obtain ⟨v, q, i⟩ := DL.val l r
      exact ⟨v, by rw [valV_neg (by rw [← keyD_inj e1]; exact n)]; exact q, i⟩
theorem KL.val {P : V → SV → Prop} : ∀ {ds : List (Key × SV)} {k : Key} {d : SV}, KL ds k d → ∀ {ks : List (Key × V)}, Paired (fun p q => p.1 = q.1 ∧ P p.2 q.2) ks ds → ∃ v, valV ks k = some v ∧ P v d
  | _, _, _, .here, _, .cons a r => ⟨_, valV_pos a.1, a.2⟩
  | _, _, _, .next n l, _, .cons a r => by
    obtain ⟨v, q, i⟩ := KL.val l r
    exact ⟨v, by rw [valV_neg (by rw [a.1]; exact n)]; exact q, i⟩
/-- what a dict has at a key -/
inductive DV (C : Cs) : SV → Key → SV → Prop
  | dat {ds : List (D × D)} {k : Key} {d : D} : DL ds k d → DV C (.dat (.dict ds)) k (.dat d)
  | cell {i : Nat} {ks : List (Key × SV)} {k : Key} {s : SV} : C[i]? = some (some (.dct ks)) → KL ks k s → DV C (.ref i) k s
def keyS : Key → SV := fun k => .dat (keyD k)
theorem is_key {K : PySem.W.Frag} {F : Hp} {v : V} {k : Key} (h : Is K F v (keyD k)) : v = kV k := by
  cases k with
  | inl i => exact Is.int_inv h
  | inr x => exact Is.str_inv h
theorem we_dget (h : We B ta g S C fun x C1 => We B tb g (x :: S) C1 fun y C2 => ∃ key s, y = keyS key ∧ DV C2 x key s ∧ k s C2) : We B (tDGet ta tb) g S C k := fun σ vs H Q R kq =>
  h σ vs H _ R fun x C1 v H1 h1 R1 => h1 σ (v :: vs) H1 _ R1 fun y C2 w H2 ⟨key, s, ey, dv, q⟩ R2 => by
    subst ey
    obtain ⟨F, ρ, R3, hy⟩ := R2.top
    obtain ⟨R4, hx⟩ := R3.pop
    obtain rfl := is_key hy
    cases dv with
    | dat l =>
      cases hx with
      | dct e r =>
        obtain ⟨u, q1, q2⟩ := l.val r
        exact ⟨_, u, rfl, by rw [← q1]; exact DGet.k (R4.le _ _ e), kq _ C2 u H2 q ⟨F, ρ, R4.push q2⟩⟩
    | cell e l =>
      obtain ⟨_, ⟨o, e2, q3⟩, _⟩ := R4.cell _ _ e
      obtain ⟨_, ev⟩ := hx
      cases q3 with
      | dct q3 =>
        obtain ⟨u, q1, q2⟩ := l.val q3
        exact ⟨_, u, ev, by rw [← q1]; exact DGet.k e2, kq _ C2 u H2 q ⟨F, ρ, R4.push q2⟩⟩
/-- the pairs of a display -/
def Wps (B : Bs) (g : Gs) : List (TE × TE) → List SV → Cs → (List (Key × SV) → List SV → Cs → Prop) → Prop
  | [], S, C, k => k [] S C
  | (tk, tv) :: r, S, C, k => We B tk g S C fun x C1 => ∃ key, x = keyS key ∧ We B tv g (x :: S) C1 fun y C2 => Wps B g r (y :: x :: S) C2 fun ps S3 C3 => k ((key, y) :: ps) S3 C3
theorem wps_run {trs : List (TE × TE)} : ∀ {S : List SV} {C : Cs} {kp : List (Key × SV) → List SV → Cs → Prop}, Wps B g trs S C kp → ∀ (σ : St) (vs : List V) (H : Hp) (Q : List (V × V) → Hp → Prop), Rel B g S C σ vs H →
    (∀ ps S' C' (ws : List V) (us : List V) H', kp ps S' C' → us.length = ps.length → Rel B g (ps.map (·.2) ++ S) C' σ (us ++ vs) H' → Q ((ps.map (·.1)).zipWith (fun k u => (kV k, u)) us) H') → tPairs trs σ H Q := by
  induction trs with
  | nil =>
    intro S C kp h σ vs H Q R kq
    exact kq [] S C [] [] H h rfl R
  | cons tr r ih =>
    intro S C kp h σ vs H Q R kq
    obtain ⟨tk, tv⟩ := tr
    refine h σ vs H _ R fun x C1 v H1 ⟨key, e, h1⟩ R1 => ?_
    subst e
    refine h1 σ (v :: vs) H1 _ R1 fun y C2 w H2 h2 R2 => ?_
    refine ih h2 σ (w :: v :: vs) H2 _ R2 fun ps S' C' ws us H3 q l R3 => ?_
    obtain ⟨F, ρ, R2⟩ := R2
    obtain ⟨F3, ρ3, R3⟩ := R3
    obtain ⟨a, b⟩ := paired_append (by rw [List.length_map]; exact l) R3.stk
    cases b with
    | cons b1 b =>
      cases b with
      | cons b2 b =>
        obtain rfl := is_key b2
        exact kq ((key, y) :: ps) S' C' ws (w :: us) H3 q (by simp [l]) ⟨F3, ρ3, { R3 with stk := .cons b1 (paired_app a b) }⟩
/-- {..}, the keys unlike, frozen at once -/
theorem we_disp {trs : List (TE × TE)} (h : Wps B g trs (.ref C.length :: S) (C ++ [some (.dct [])]) fun ps _ C1 => C1 = C ++ [some (.dct [])] ∧ ∃ ds : List (Key × D), ps = ds.map (fun q => (q.1, .dat q.2)) ∧ ds.length ≤ 15 ∧ (ds.map (·.1)).Nodup ∧ k (.dat (.dict (ds.map fun q => (keyD q.1, q.2)))) C) :
    We B (tDisp trs) g S C k := fun σ vs H Q R kq p hp => by
  have R0 : Rel B g (.ref C.length :: S) (C ++ [some (.dct [])]) σ (.ref p :: vs) (upd H p (.dK [])) := by
    obtain ⟨F, ρ, R⟩ := R
    exact ⟨F, _, R.lay_c hp (.dct .nil)⟩
  refine wps_run h σ _ _ _ R0 fun ps S' C1 ws us H1 ⟨e, ds, eps, hl, hn, q⟩ l R1 => ?_
  subst e eps
  obtain ⟨F, ρ, R1⟩ := R1
  obtain ⟨a, b⟩ := paired_append (by rw [List.length_map]; exact l) R1.stk
  have R2 : Rl B g (.ref C.length :: S) (C ++ [some (.dct [])]) σ (.ref p :: vs) H1 F ρ := { R1 with stk := b }
  obtain ⟨R3, hp1, hp2⟩ := R2.pop
  have ep : p = ρ C.length := by cases hp2; rfl
  obtain ⟨n1, ⟨u, e1, h3⟩, h4⟩ := R2.cell C.length (.dct []) (by simp)
  have eu : u = .dK [] := by
    cases h3 with
    | dct h3 => cases h3; rfl
  subst eu
  rw [List.map_map] at a
  have key : ∀ {ds : List (Key × D)} {us : List V}, Paired (SIs B.K F ρ (C ++ [some (Cell.dct [])]).length) us (ds.map ((fun q : Key × SV => q.2) ∘ fun q : Key × D => (q.1, SV.dat q.2))) →
      Paired (fun (p : Key × V) (q : Key × SV) => p.1 = q.1 ∧ SIs B.K F ρ (C ++ [some (Cell.dct [])]).length p.2 q.2) ((ds.map (·.1)).zipWith (fun k u => (k, u)) us) (ds.map fun q => (q.1, SV.dat q.2)) := by
    intro ds
    induction ds with
    | nil => intro us h; cases h; exact .nil
    | cons q r ih => intro us h; cases h with
      | cons x y => exact .cons ⟨rfl, x⟩ (ih y)
  have hz := key a
  have hlen : us.length = ds.length := by simpa using l
  have mk : ∀ (ls : List (Key × V)), (ls.map (·.1)).Nodup → mergeK [] ls = ls := fun ls hn => by
    unfold mergeK
    have gen : ∀ (ls acc : List (Key × V)), ((acc ++ ls).map (·.1)).Nodup → ls.foldl (fun acc kv => putK acc kv.1 kv.2) acc = acc ++ ls := by
      intro ls
      induction ls with
      | nil => intro acc _; simp
      | cons x r ih =>
        intro acc hn
        have hx : valV acc x.1 = none := by
          have h1 : x.1 ∉ acc.map (·.1) := by
            rw [List.map_append, List.map_cons] at hn
            intro hm
            have := (List.nodup_append.mp hn).2.2 _ hm x.1 List.mem_cons_self
            exact this rfl
          have h2 := valV_any x.1 acc
          cases e : valV acc x.1 with
          | none => rfl
          | some v =>
            rw [e] at h2
            obtain ⟨y, hy, ey⟩ := List.any_eq_true.mp (h2.trans rfl)
            exact absurd (List.mem_map.mpr ⟨y, hy, of_decide_eq_true ey⟩) h1
        rw [List.foldl_cons, putK_new _ hx, ih _ (by simpa using hn)]
        simp
    simpa using gen ls [] (by simpa using hn)
  have hk1 : (((ds.map (·.1)).zipWith (fun k u => (k, u)) us).map (·.1)) = ds.map (·.1) := by
    have gen : ∀ (ds : List (Key × D)) (us : List V), us.length = ds.length → (((ds.map (·.1)).zipWith (fun k u => (k, u)) us).map (·.1)) = ds.map (·.1) := by
      intro ds
      induction ds with
      | nil => intro us _; simp
      | cons q r ih => intro us h; match us, h with
        | u :: us, h => simpa using ih us (by simpa using h)
    exact gen ds us hlen
  refine ⟨by rw [ep]; exact e1, (ds.map (·.1)).zipWith (fun k u => (k, u)) us, ?_, by rw [List.length_zipWith, List.length_map]; omega, ?_⟩
  · rw [List.map_map, List.map_zipWith]
    rfl
  · rw [mk _ (by rw [hk1]; exact hn), ep]
    have R4 := R2.wr (i := C.length) (c := .dct []) (c' := .dct (ds.map fun q => (q.1, .dat q.2))) (o := .dK ((ds.map (·.1)).zipWith (fun k u => (k, u)) us)) (by simp) (.dct hz)
    have ec : (C ++ [some (Cell.dct [])]).set C.length (some (.dct (ds.map fun q => (q.1, .dat q.2)))) = C ++ [some (Cell.dct (ds.map fun q => (q.1, .dat q.2)))] := by simp
    rw [ec] at R4
    have R5 := Rel.frzE (fzn_dct ds) R (fun s hs => hs) ⟨F, ρ, R4⟩
    rw [ep] at R5
    exact kq _ C _ _ q R5
end
end Sy

set_option Elab.async false
set_option linter.all false
set_option maxRecDepth 100000
set_option maxHeartbeats 400000
namespace Sy
open PySem L2
section
variable {B : Bs} {g : Gs} {S : List SV} {C : Cs} {k : SV → Cs → Prop} {kb : Bool → Cs → Prop} {ka : List SV → Cs → Prop} {te ta tb tc tl : TE} {t' : TA} {tt tu : TT} {kk : Ks} {tbody : TS}
variable {σ : St} {vs : List V} {H : Hp} {F : Hp} {ρ : Nat → Addr}
/-! ## attributes -/
inductive FL : List (Str × SV) → Str → SV → Prop
  | here {k : Str} {d : SV} {r : List (Str × SV)} : FL ((k, d) :: r) k d
  | next {k k' : Str} {d d' : SV} {r : List (Str × SV)} : k' ≠ k → FL r k d → FL ((k', d') :: r) k d
inductive PF : List (Str × SV) → Str → SV → List (Str × SV) → Prop
  | here {k : Str} {d e : SV} {r : List (Str × SV)} : PF ((k, e) :: r) k d ((k, d) :: r)
  | new {k : Str} {d : SV} : PF [] k d [(k, d)]
  | next {k k' : Str} {d d' : SV} {r r' : List (Str × SV)} : k' ≠ k → PF r k d r' → PF ((k', d') :: r) k d ((k', d') :: r')
/-- no attribute of that name -/
inductive FN : List (Str × SV) → Str → Prop
  | nil {k : Str} : FN [] k
  | next {k k' : Str} {d' : SV} {r : List (Str × SV)} : k' ≠ k → FN r k → FN ((k', d') :: r) k
theorem lookup_pos {f : Str} {v : V} {r : List (Str × V)} : List.lookup f ((f, v) :: r) = some v := by simp [List.lookup]
theorem lookup_neg {f f' : Str} {v : V} {r : List (Str × V)} (h : f' ≠ f) : List.lookup f ((f', v) :: r) = List.lookup f r := by
  have e : (f == f') = false := by simpa using Ne.symm h
  simp [List.lookup, e]
theorem FL.look {P : V → SV → Prop} : ∀ {ds : List (Str × SV)} {f : Str} {s : SV}, FL ds f s → ∀ {fs : List (Str × V)}, Paired (fun p q => p.1 = q.1 ∧ P p.2 q.2) fs ds → ∃ v, fs.lookup f = some v ∧ P v s
  | _, _, _, .here, (f, v) :: _, .cons a r => by
    obtain ⟨a1, a2⟩ := a
    have e : f = _ := a1
    subst e
    exact ⟨v, lookup_pos, a2⟩
  | _, _, _, .next n l, (f, v) :: _, .cons a r => by
    obtain ⟨w, q, i⟩ := FL.look l r
    have e : f = _ := a.1
    subst e
    exact ⟨w, by rw [lookup_neg n]; exact q, i⟩
theorem FN.look {P : V → SV → Prop} : ∀ {ds : List (Str × SV)} {f : Str}, FN ds f → ∀ {fs : List (Str × V)}, Paired (fun p q => p.1 = q.1 ∧ P p.2 q.2) fs ds → fs.lookup f = none
  | _, _, .nil, _, .nil => rfl
  | _, _, .next n l, (f, v) :: _, .cons a r => by
    have e : f = _ := a.1
    subst e
    rw [lookup_neg n]
    exact FN.look l r
theorem PF.put {P : V → SV → Prop} {v : V} : ∀ {ds ds' : List (Str × SV)} {f : Str} {s : SV}, PF ds f s ds' → P v s → ∀ {fs : List (Str × V)}, Paired (fun p q => p.1 = q.1 ∧ P p.2 q.2) fs ds → Paired (fun p q => p.1 = q.1 ∧ P p.2 q.2) (putF f v fs) ds'
  | _, _, _, _, .here, hv, (f, _) :: r0, .cons a r => by
    have e : f = _ := a.1
    subst e
    show Paired _ (if f = f then _ else _) _
    rw [if_pos rfl]
    exact .cons ⟨rfl, hv⟩ r
  | _, _, _, _, .new, hv, _, .nil => .cons ⟨rfl, hv⟩ .nil
  | _, _, _, _, .next n l, hv, (f, w) :: r0, .cons a r => by
    have e : f = _ := a.1
    subst e
    show Paired _ (if f = _ then _ else _) _
    rw [if_neg n]
    exact .cons a (PF.put l hv r)
theorem we_fld {CC : Addr} {f : Str} (hc : Cls B.K CC) (hn : NoAttr B.K CC f) (h : We B ta g S C fun x C1 => ∃ i fs s, x = .ref i ∧ C1[i]? = some (some (.ins CC fs)) ∧ FL fs f s ∧ k s C1) : We B (tFld B.K ta f) g S C k := fun σ vs H Q R kq =>
  h σ vs H _ R fun x C1 v H1 ⟨i, fs, s, e, ei, fl, q⟩ R1 => by
    subst e
    obtain ⟨F, ρ, R2, hx⟩ := R1.top
    obtain ⟨_, ⟨o, e2, q3⟩, _⟩ := R2.cell _ _ ei
    cases q3 with
    | @ins _ dx ws _ q3 =>
      obtain ⟨u, q1, q2⟩ := fl.look q3
      exact ⟨_, CC, dx, ws, u, hx.2, e2, hc, hn, q1, kq s C1 u H1 q ⟨F, ρ, R2.push q2⟩⟩
theorem ws_sfld {CC : Addr} {f : Str} (hc : Cls B.K CC) (hn : NoAttr B.K CC f) (h : We B tb g S C fun y C1 => We B ta g (y :: S) C1 fun x C2 => ∃ i fs fs', x = .ref i ∧ C2[i]? = some (some (.ins CC fs)) ∧ PF fs f y fs' ∧ fs.length < 1000 ∧ kk.nx g (C2.set i (some (.ins CC fs')))) :
    Ws B (sFld B.K ta tb f) g S C kk := fun σ vs H D R d =>
  h σ vs H _ R fun y C1 w H1 h1 R1 => h1 σ (w :: vs) H1 _ R1 fun x C2 v H2 ⟨i, fs, fs', e, ei, pf, hl, q⟩ R2 => by
    subst e
    obtain ⟨F, ρ, R3, hx⟩ := R2.top
    obtain ⟨R4, hy⟩ := R3.pop
    obtain ⟨_, ⟨o, e2, q3⟩, _⟩ := R4.cell _ _ ei
    cases q3 with
    | @ins _ dx ws _ q3 =>
      refine ⟨_, CC, dx, ws, hx.2, e2, hc, hn, by rw [Paired.length q3]; exact hl, d.nx _ _ _ _ q ⟨F, ρ, R4.wr ei (.ins (pf.put hy q3))⟩⟩
/-! ## lists written -/
theorem we_app (h : We B ta g S C fun x C1 => ∃ i xs0, x = .ref i ∧ C1[i]? = some (some (.lst xs0)) ∧ Wa B t' g (x :: S) C1 fun ss C2 => ∃ y xs, ss = [y] ∧ C2[i]? = some (some (.lst xs)) ∧ xs.length < sizeLine ∧ k (.dat .none) (C2.set i (some (.lst (xs ++ [y]))))) :
    We B (tBM B.K "list" rAppend ta t') g S C k := fun σ vs H Q R kq =>
  h σ vs H _ R fun x C1 v H1 ⟨i, xs0, e, ei, h1⟩ R1 => by
    subst e
    obtain ⟨F, ρ, R2, hx⟩ := R1.top
    obtain ⟨_, ⟨o, e2, q3⟩, _⟩ := R2.cell _ _ ei
    cases q3 with
    | @lst ws0 _ q3 =>
      have ev := hx.2
      subst ev
      refine ⟨.inl ⟨rfl, _, SqL.of e2⟩, ?_⟩
      refine h1 σ _ H1 _ R1 fun ss C2 us H2 ⟨y, xs, ess, ei2, hl, q⟩ l R3 => ?_
      subst ess
      obtain ⟨u, rfl, R3⟩ := R3.one l
      obtain ⟨F2, ρ2, R4, hy⟩ := R3.top
      obtain ⟨R5, hx2⟩ := R4.pop
      obtain ⟨_, ⟨o2, e3, q4⟩, _⟩ := R5.cell _ _ ei2
      cases q4 with
      | @lst ws _ q4 =>
        have er : ρ i = ρ2 i := by
          exact V.ref.inj hx2.2
        refine ⟨ρ i, ws, u, rfl, rfl, by rw [er]; exact e3, by rw [Paired.length q4]; exact hl, ?_⟩
        rw [er]
        exact kq _ _ _ _ q ⟨F2, ρ2, (R5.wr ei2 (.lst (Paired.snoc q4 hy))).push .non⟩
theorem pset {α β : Type} {P : α → β → Prop} {x : α} {y : β} : ∀ {xs : List α} {ys : List β}, Paired P xs ys → P x y → ∀ j : Nat, Paired P (xs.set j x) (ys.set j y)
  | _, _, .nil, _, _ => .nil
  | _, _, .cons _ t, h, 0 => .cons h t
  | _, _, .cons a t, h, j + 1 => .cons a (pset t h j)
/-- o[i] = v, a list -/
theorem wg_sub {to ti : TE} {x : SV} {k : Gs → Cs → Prop} (h : We B to g (x :: S) C fun o C1 => We B ti g (o :: x :: S) C1 fun y C2 => ∃ i xs n j, o = .ref i ∧ y = .dat (.int n) ∧ C2[i]? = some (some (.lst xs)) ∧ ixN xs.length n = some j ∧ k g (C2.set i (some (.lst (xs.set j x))))) :
    Wg B (gSub to ti rSetL) x g S C k := fun σ vs v H Q R kq =>
  h σ (v :: vs) H _ R fun o C1 w H1 h1 R1 => h1 σ (w :: v :: vs) H1 _ R1 fun y C2 u H2 ⟨i, xs, n, j, eo, ey, ei, ej, q⟩ R2 => by
    subst eo ey
    obtain rfl := R2.top_int
    obtain ⟨F, ρ, R3, ho⟩ := R2.drop1.top
    obtain ⟨R4, hx⟩ := R3.pop
    obtain ⟨_, ⟨ob, e2, q3⟩, _⟩ := R4.cell _ _ ei
    cases q3 with
    | @lst ws _ q3 =>
      refine ⟨ρ i, ws, n, j, ho.2, rfl, e2, by rw [Paired.length q3]; exact ej, kq _ _ _ _ q ⟨F, ρ, R4.wr ei (.lst (pset q3 hx j))⟩⟩
theorem ws_asgG {tg : TG} (h : We B te g S C fun s C1 => Wg B tg s g S C1 kk.nx) : Ws B (tAsg te tg) g S C kk := fun σ vs H D R d =>
  h σ vs H _ R fun s C1 v H1 q R1 => q σ vs v H1 _ R1 fun g2 C2 σ2 H2 q2 R2 => d.nx _ _ _ _ q2 R2
/-! ## list + list, list * int -/
theorem wr_cat {x y : SV} {xs ys : List D} (lx : LV C x (xs.map .dat)) (ly : LV C y (ys.map .dat)) (hl : xs.length + ys.length ≤ sizeLine) (q : k (.dat (.list (xs ++ ys))) C) : Wr B rCat x y g S C k := fun σ vs H Q v w R kq => by
  obtain ⟨F, ρ, R1, hy⟩ := R.top
  obtain ⟨R2, hx⟩ := R1.pop
  obtain ⟨a, ws, rfl, ha, hp⟩ := R2.lv hx lx
  obtain ⟨b, us, rfl, hb, hp2⟩ := R2.lv hy ly
  have l1 := Paired.length hp
  have l2 := Paired.length hp2
  rw [List.length_map] at l1 l2
  refine ⟨a, b, ws, us, rfl, rfl, ha, hb, by omega, fun p hp3 => ?_⟩
  obtain ⟨R4, L⟩ := R2.lay (o := .lst (ws ++ us)) hp3
  have ap : IsAll B.K F (ws ++ us) (xs ++ ys) := all_sis (ρ := ρ) (n := C.length) (by rw [List.map_append]; exact paired_app hp hp2)
  exact kq _ C _ _ q ⟨_, ρ, R4.push (.lst upd_same (ap.mono L))⟩
theorem wr_rep {x : SV} {xs : List D} {n : Int} (lx : LV C x (xs.map .dat)) (h0 : -(2 ^ 63) ≤ n) (h1 : n < 2 ^ 63) (hl : xs.length * n.toNat ≤ sizeLine) (q : k (.dat (.list (List.replicate n.toNat xs).flatten)) C) : Wr B rRep x (.dat (.int n)) g S C k := fun σ vs H Q v w R kq => by
  obtain rfl := R.top_int
  obtain ⟨F, ρ, R2, hx⟩ := R.drop1.top
  obtain ⟨a, ws, rfl, ha, hp⟩ := R2.lv hx lx
  have l1 := Paired.length hp
  rw [List.length_map] at l1
  refine ⟨a, n, ws, rfl, rfl, ha, h0, h1, by rw [l1]; exact hl, fun p hp3 => ?_⟩
  obtain ⟨R4, L⟩ := R2.lay (o := .lst (List.replicate n.toNat ws).flatten) hp3
  have ap : ∀ m : Nat, IsAll B.K F (List.replicate m ws).flatten (List.replicate m xs).flatten := fun m => by
    induction m with
    | zero => exact .nil
    | succ m ih =>
      rw [List.replicate_succ, List.replicate_succ, List.flatten_cons, List.flatten_cons]
      refine all_sis (ρ := ρ) (n := C.length) ?_
      rw [List.map_append]
      exact paired_app hp (sis_all ih)
  exact kq _ C _ _ q ⟨_, ρ, R4.push (.lst upd_same ((ap n.toNat).mono L))⟩
/-! ## in -/
def flatD : D → Option V
  | .none => some .non
  | .bool b => some (.bl b)
  | .int i => some (.int i)
  | .str x => some (.str x)
  | _ => none
theorem flat_is {K : PySem.W.Frag} {F : Hp} {v u : V} {d : D} (h : Is K F v d) (e : flatD d = some u) : v = u ∧ flatV v = true := by
  cases h <;> simp only [flatD, Option.some.injEq, reduceCtorEq] at e
  all_goals (subst e; exact ⟨rfl, rfl⟩)
theorem flats_is {K : PySem.W.Frag} {F : Hp} {ρ : Nat → Addr} {n : Nat} : ∀ {ds : List D} {us ws : List V}, Paired (SIs K F ρ n) ws (ds.map .dat) → ds.map flatD = us.map some → ws = us ∧ ws.all flatV = true
  | [], [], _, .nil, _ => ⟨rfl, rfl⟩
  | _ :: _, _ :: _, _ :: _, .cons a r, e => by
    simp only [List.map_cons, List.cons.injEq] at e
    obtain ⟨h1, h2⟩ := flat_is a e.1
    obtain ⟨h3, h4⟩ := flats_is r e.2
    exact ⟨by rw [h1, h3], by rw [List.all_cons, h2, h4]; rfl⟩
  | [], _ :: _, _, _, e => by simp at e
  | _ :: _, [], _, _, e => by simp at e
theorem wr_inL {x y : SV} {neg : Bool} {d : D} {u : V} {ds : List D} {us : List V} (ex : x = .dat d) (eu : flatD d = some u) (ly : LV C y (ds.map .dat)) (es : ds.map flatD = us.map some) (q : k (.dat (.bool (if neg then !inV u us else inV u us))) C) : Wr B (rIn B.K neg) x y g S C k := fun σ vs H Q v w R kq => by
  subst ex
  obtain ⟨F, ρ, R1, hy⟩ := R.top
  obtain ⟨R2, hx⟩ := R1.pop
  obtain ⟨b, ws, rfl, hb, hp⟩ := R2.lv hy ly
  obtain ⟨rfl, h2⟩ := flat_is hx eu
  obtain ⟨rfl, h4⟩ := flats_is hp es
  exact ⟨b, ws, rfl, .inl (SqL.of hb), h2, h4, kq _ C _ H q (R.drop1.drop1.sc rfl)⟩
theorem wr_inT {x : SV} {neg : Bool} {d : D} {u : V} {ds : List D} {us : List V} (ex : x = .dat d) (eu : flatD d = some u) (es : ds.map flatD = us.map some) (q : k (.dat (.bool (if neg then !inV u us else inV u us))) C) : Wr B (rIn B.K neg) x (.dat (.tuple ds)) g S C k := fun σ vs H Q v w R kq => by
  subst ex
  obtain ⟨F, ρ, R1, hy⟩ := R.top
  obtain ⟨R2, hx⟩ := R1.pop
  obtain ⟨b, ws, rfl, hb, hp⟩ := R2.tv hy
  obtain ⟨rfl, h2⟩ := flat_is hx eu
  obtain ⟨rfl, h4⟩ := flats_is hp es
  exact ⟨b, ws, rfl, .inr hb, h2, h4, kq _ C _ H q (R.drop1.drop1.sc rfl)⟩
/-! ## == -/
mutual
theorem Is.dp {K : PySem.W.Frag} {F H : Hp} (e : Le F H) : ∀ {v : V} {d : D}, d.canLay0 = true → Is K F v d → Dp K H v d
  | _, _, _, .non => .non
  | _, _, _, .bl b => .bl b
  | _, _, _, .int i => .int i
  | _, _, _, .str x => .str x
  | _, _, c, .lst h r => .lst (SqL.of (e _ _ h)) (IsAll.dp e (by simpa [PyData.canLay0] using c) r)
  | _, _, c, .tup h r => .tup (e.sqt h) (IsAll.dp e (by simpa [PyData.canLay0] using c) r)
  | _, _, c, .dct h r => by simp [PyData.canLay0] at c
theorem IsAll.dp {K : PySem.W.Frag} {F H : Hp} (e : Le F H) : ∀ {v : List V} {d : List D}, PyData.canLayAll0 d = true → IsAll K F v d → DpAll K H v d
  | _, _, _, .nil => .nil
  | _, _, c, .cons h r => by
    simp only [PyData.canLayAll0, Bool.and_eq_true] at c
    exact .cons (Is.dp e c.1 h) (IsAll.dp e c.2 r)
end
/-- == of ints, of texts, of anything that has no dict -/
def rEqQ (K : PySem.W.Frag) : R2 := fun x y H Q => rEq x y H Q ∨ rEqD K x y H Q
def rNeQ (K : PySem.W.Frag) : R2 := fun x y H Q => rNe x y H Q ∨ rNeD K x y H Q
theorem op_eqQ {X : Cx} (hu : X.A.units + 64 < cLine) : OpR X (compareOp .Eq) (rEqQ X.K) := op_eq.or (op_eqD hu)
theorem op_neQ {X : Cx} (hu : X.A.units + 64 < cLine) : OpR X (compareOp .NotEq) (rNeQ X.K) := op_ne.or (op_neD hu)
theorem wr_eqI {i j : Int} (q : k (.dat (.bool (decide (i = j)))) C) : Wr B (rEqQ B.K) (.dat (.int i)) (.dat (.int j)) g S C k := fun σ vs H Q v w R kq => by
  obtain rfl := R.top_int
  obtain rfl := R.drop1.top_int
  refine .inl ⟨rfl, ?_⟩
  rw [dec_int, Bool.beq_eq_decide_eq]
  exact kq _ C _ H q (R.drop1.drop1.sc rfl)
theorem wr_neI {i j : Int} (q : k (.dat (.bool (!decide (i = j)))) C) : Wr B (rNeQ B.K) (.dat (.int i)) (.dat (.int j)) g S C k := fun σ vs H Q v w R kq => by
  obtain rfl := R.top_int
  obtain rfl := R.drop1.top_int
  refine .inl ⟨rfl, ?_⟩
  rw [dec_int, Bool.beq_eq_decide_eq]
  exact kq _ C _ H q (R.drop1.drop1.sc rfl)
theorem wr_eqS {i j : Str} (q : k (.dat (.bool (decide (i = j)))) C) : Wr B (rEqQ B.K) (.dat (.str i)) (.dat (.str j)) g S C k := fun σ vs H Q v w R kq => by
  obtain rfl := R.top_str
  obtain rfl := R.drop1.top_str
  refine .inl ⟨rfl, ?_⟩
  rw [dec_str, Bool.beq_eq_decide_eq]
  exact kq _ C _ H q (R.drop1.drop1.sc rfl)
theorem wr_neS {i j : Str} (q : k (.dat (.bool (!decide (i = j)))) C) : Wr B (rNeQ B.K) (.dat (.str i)) (.dat (.str j)) g S C k := fun σ vs H Q v w R kq => by
  obtain rfl := R.top_str
  obtain rfl := R.drop1.top_str
  refine .inl ⟨rfl, ?_⟩
  rw [dec_str, Bool.beq_eq_decide_eq]
  exact kq _ C _ H q (R.drop1.drop1.sc rfl)
theorem wr_eqB {i j : Bool} (q : k (.dat (.bool (decide (i = j)))) C) : Wr B (rEqQ B.K) (.dat (.bool i)) (.dat (.bool j)) g S C k := fun σ vs H Q v w R kq => by
  obtain rfl := R.top_bl
  obtain rfl := R.drop1.top_bl
  refine .inl ⟨rfl, ?_⟩
  rw [dec_bl, Bool.beq_eq_decide_eq]
  exact kq _ C _ H q (R.drop1.drop1.sc rfl)
theorem wr_eqD {d e : D} (sd : SeqAt.shaped d = true) (se : SeqAt.shaped e = true) (q : k (.dat (.bool (PyData.eqv d e))) C) : Wr B (rEqQ B.K) (.dat d) (.dat e) g S C k := fun σ vs H Q v w R kq => by
  obtain ⟨F, ρ, R1, hy⟩ := R.top
  obtain ⟨R2, hx⟩ := R1.pop
  have c1 : d.canLay0 = true := by unfold SeqAt.shaped at sd; rw [Bool.and_eq_true] at sd; exact sd.1
  have c2 : e.canLay0 = true := by unfold SeqAt.shaped at se; rw [Bool.and_eq_true] at se; exact se.1
  exact .inr ⟨d, e, Is.dp R2.le c1 hx, Is.dp R2.le c2 hy, sd, se, kq _ C _ H q (R.drop1.drop1.sc rfl)⟩
theorem wr_neD {d e : D} (sd : SeqAt.shaped d = true) (se : SeqAt.shaped e = true) (q : k (.dat (.bool (!PyData.eqv d e))) C) : Wr B (rNeQ B.K) (.dat d) (.dat e) g S C k := fun σ vs H Q v w R kq => by
  obtain ⟨F, ρ, R1, hy⟩ := R.top
  obtain ⟨R2, hx⟩ := R1.pop
  have c1 : d.canLay0 = true := by unfold SeqAt.shaped at sd; rw [Bool.and_eq_true] at sd; exact sd.1
  have c2 : e.canLay0 = true := by unfold SeqAt.shaped at se; rw [Bool.and_eq_true] at se; exact se.1
  exact .inr ⟨d, e, Is.dp R2.le c1 hx, Is.dp R2.le c2 hy, sd, se, kq _ C _ H q (R.drop1.drop1.sc rfl)⟩
/-- is None -/
def rIsNn : R2 := fun x y H Q => y = .non ∧ Q (.bl (decide (x = .non))) H
def rNotNn : R2 := fun x y H Q => y = .non ∧ Q (.bl (!decide (x = .non))) H
theorem op_isNn {X : Cx} : OpR X (compareOp .Is) rIsNn := op_isN
theorem op_notNn {X : Cx} : OpR X (compareOp .IsNot) rNotNn := op_notN
def isNoneD : D → Bool
  | .none => true
  | _ => false
theorem is_none {K : PySem.W.Frag} {F : Hp} {v : V} {d : D} (h : Is K F v d) : decide (v = .non) = isNoneD d := by
  cases h <;> first | rfl | exact decide_eq_false (by intro e; cases e)
theorem wr_isN {d : D} (q : k (.dat (.bool (isNoneD d))) C) : Wr B rIsNn (.dat d) (.dat .none) g S C k := fun σ vs H Q v w R kq => by
  obtain ⟨F, ρ, R1, hy⟩ := R.top
  obtain ⟨R2, hx⟩ := R1.pop
  have e : w = .non := Is.non_inv hy
  subst e
  refine ⟨rfl, ?_⟩
  rw [is_none hx]
  exact kq _ C _ H q (R.drop1.drop1.sc rfl)
theorem wr_notN {d : D} (q : k (.dat (.bool (!isNoneD d))) C) : Wr B rNotNn (.dat d) (.dat .none) g S C k := fun σ vs H Q v w R kq => by
  obtain ⟨F, ρ, R1, hy⟩ := R.top
  obtain ⟨R2, hx⟩ := R1.pop
  have e : w = .non := Is.non_inv hy
  subst e
  refine ⟨rfl, ?_⟩
  rw [is_none hx]
  exact kq _ C _ H q (R.drop1.drop1.sc rfl)
end
end Sy

set_option Elab.async false
set_option linter.all false
set_option maxRecDepth 100000
set_option maxHeartbeats 400000
namespace Sy
open PySem L2
/-! ## the walk's rules, in short -/
/-- a def that may be called -/
def Cl (P : Program) (w : World) (K : PySem.W.Frag) (mg : Str → Option Value) (base : Heap) (k : Nat) (f : Addr) (ps : List Str) (sp : Sp) : Prop :=
  ∃ fd, FnOk P w K mg base (L2.CX P w) k f fd ps sp ∧ Binds K fd ps [] ∧ PySem.W.keepIn K (.ref f) = true
section
variable {X : Cx} {k : Nat} {f CC : Addr} {ps : List Str} {sp : Sp} {E : XK} {x m : Str} {p pos apos : Pos} {e o : Expr} {es : List Expr} {ta : TE} {t : TA}
theorem pe_callC (h : Cl X.prog X.w X.K X.mg X.base k f ps sp) (hr : Room k X.A) (hg : Gl X x) (hm : X.mg x = some (.ref f)) (hx : Passes (L2.CX X.prog X.w) X E)
    (ha : PA X (e :: es) t) (hdb : (x == ("__debug__" : Str)) = false := by decide) (he : starEach (e :: es) X.env = (false, eval e X.env) :: starEach es X.env := by rfl) (hpl : (backTo pos (starEach es X.env)).any (·.1) = false := by rfl) :
    PE X (.Call (.Name x p) (e :: es) [] pos) (tCall sp [] E t) := by
  obtain ⟨fd, F, b, kp⟩ := h
  exact pe_call F hr hg hm kp b .nil hx ha hdb he hpl
theorem pe_call0C (h : Cl X.prog X.w X.K X.mg X.base k f ps sp) (hr : Room k X.A) (hg : Gl X x) (hm : X.mg x = some (.ref f)) (hx : Passes (L2.CX X.prog X.w) X E)
    (hdb : (x == ("__debug__" : Str)) = false := by decide) :
    PE X (.Call (.Name x p) [] [] pos) (tCall sp [] E tNil) := by
  obtain ⟨fd, F, b, kp⟩ := h
  exact pe_call0 F hr hg hm kp b .nil hx hdb
/-- a def lets its callees' errors out -/
theorem passE {W : WX} (tk : Takes X W) (hW : ∀ cls d σ H, E cls d H → W cls d σ H) : Passes (L2.CX X.prog X.w) X E := passes_call tk hW
/-- within a try's body -/
def XA (n : Nat) (W : WX) : XK := fun cls d H => ∀ σ : St, σ.length = n → W cls d σ H
theorem passT {W : WX} (tk : Takes X W) : Passes (L2.CX X.prog X.w) X (XA X.N.length W) := fun pins σ H s e s' I c => tk e s' (XE.of_call I (fun cls d H' h => h σ I.len) c)
/-- an int of the module -/
theorem pe_gi {i : Int} (hg : Gl X x) (h : ∃ t, X.mg x = some (.int i t)) (hd : (x == ("__debug__" : Str)) = false := by decide) : PE X (.Name x pos) (tC (.int i)) := by
  obtain ⟨t, h⟩ := h
  exact pe_glob hg h ⟨_, rfl⟩ hd
theorem pe_gs {i : Str} (hg : Gl X x) (h : ∃ t, X.mg x = some (.str i t)) (hd : (x == ("__debug__" : Str)) = false := by decide) : PE X (.Name x pos) (tC (.str i)) := by
  obtain ⟨t, h⟩ := h
  exact pe_glob hg h ⟨_, rfl⟩ hd
theorem pe_gr {a : Addr} (hg : Gl X x) (h : X.mg x = some (.ref a)) (hd : (x == ("__debug__" : Str)) = false := by decide) : PE X (.Name x pos) (tC (.ref a)) := pe_glob hg h rfl hd
/-! operators -/
def rPlus (K : PySem.W.Frag) : R2 := fun x y H Q => (rI0 fun i j => .int (i + j)) x y H Q ∨ (∃ i j, x = .str i ∧ y = .str j ∧ i.length + j.length ≤ sizeLine ∧ Q (.str (i ++ j)) H) ∨ rCat x y H Q ∨ rCatT K x y H Q
theorem op_plus : OpR X (binaryOp .Add) (rPlus X.K) := op_add.or (op_add_str.or (op_cat.or op_catT))
def rTimes : R2 := fun x y H Q => (rI CMul fun i j => .int (i * j)) x y H Q ∨ rRep x y H Q
theorem op_times : OpR X (binaryOp .Mult) rTimes := op_mul.or op_rep
abbrev rSb : R2 := rI0 fun i j => .int (i - j)
abbrev rDv : R2 := rI CDiv fun i j => .int (i / j)
abbrev rMd : R2 := rI (fun _ j => 0 < j) fun i j => .int (i % j)
abbrev rPw : R2 := rI CPow fun i j => .int (i ^ j.toNat)
abbrev rLt : R2 := rI0 fun i j => .bl (decide (i < j))
abbrev rLe : R2 := rI0 fun i j => .bl (decide (i ≤ j))
abbrev rGt : R2 := rI0 fun i j => .bl (decide (j < i))
abbrev rGe : R2 := rI0 fun i j => .bl (decide (j ≤ i))
def rNg : V → Hp → VK → Prop := rU fun i => .int (-i)
theorem un_ng : UnR X (unaryOp .USub) rNg := un_neg
def rSlQ (K : PySem.W.Frag) : V → Option Int → Option Int → Hp → VK → Prop := fun x lo hi H Q => rSlL K x lo hi H Q ∨ (rSlT K x lo hi H Q ∨ rSlS x lo hi H Q)
theorem sl_q : SlR X (rSlQ X.K) := sl_list.or (sl_tup.or sl_str)
end
section
variable {B : Bs} {g : Gs} {S : List SV} {C : Cs} {k : SV → Cs → Prop} {kb : Bool → Cs → Prop} {ka : List SV → Cs → Prop} {te ta tb tc tl : TE} {t' : TA} {tt tu : TT} {kk : Ks} {tbody : TS}
theorem wr_plus {i j : Int} (q : k (.dat (.int (i + j))) C) : Wr B (rPlus B.K) (.dat (.int i)) (.dat (.int j)) g S C k := fun σ vs H Q v w R kq => .inl (wr_ii q σ vs H Q v w R kq)
theorem wr_plusS {i j : Str} (hl : i.length + j.length ≤ sizeLine) (q : k (.dat (.str (i ++ j))) C) : Wr B (rPlus B.K) (.dat (.str i)) (.dat (.str j)) g S C k := fun σ vs H Q v w R kq => .inr (.inl (we_op_str hl q σ vs H Q v w R kq))
theorem wr_plusL {x y : SV} {xs ys : List D} (lx : LV C x (xs.map .dat)) (ly : LV C y (ys.map .dat)) (hl : xs.length + ys.length ≤ sizeLine) (q : k (.dat (.list (xs ++ ys))) C) : Wr B (rPlus B.K) x y g S C k := fun σ vs H Q v w R kq => .inr (.inr (.inl (wr_cat lx ly hl q σ vs H Q v w R kq)))
theorem wr_times {i j : Int} (c : CMul i j) (q : k (.dat (.int (i * j))) C) : Wr B rTimes (.dat (.int i)) (.dat (.int j)) g S C k := fun σ vs H Q v w R kq => .inl (wr_iC c q σ vs H Q v w R kq)
theorem wr_timesL {x : SV} {xs : List D} {n : Int} (lx : LV C x (xs.map .dat)) (h0 : -(2 ^ 63) ≤ n) (h1 : n < 2 ^ 63) (hl : xs.length * n.toNat ≤ sizeLine) (q : k (.dat (.list (List.replicate n.toNat xs).flatten)) C) : Wr B rTimes x (.dat (.int n)) g S C k := fun σ vs H Q v w R kq => .inr (wr_rep lx h0 h1 hl q σ vs H Q v w R kq)
theorem wl_q {x : SV} {ds : List D} {lo hi : Option Int} (l : LV C x (ds.map .dat)) (q : k (.dat (.list (cutL ds lo hi))) C) : Wl B (rSlQ B.K) x lo hi g S C k := fun σ vs H Q v R kq => .inl (wl_list l q σ vs H Q v R kq)
theorem we_ng {ta : TE} (h : We B ta g S C fun x C1 => ∃ i, x = .dat (.int i) ∧ k (.dat (.int (-i))) C1) : We B (tUn rNg ta) g S C k := we_un h
theorem cmul_r {i j : Int} (h0 : -(2 ^ 64) < j) (h1 : j < 2 ^ 64) : CMul i j := .inr ⟨h0, h1⟩
theorem cmul_l {i j : Int} (h0 : -(2 ^ 64) < i) (h1 : i < 2 ^ 64) : CMul i j := .inl ⟨h0, h1⟩
/-- a tuple of the module -/
theorem we_kt {a : Addr} {ws : List V} {ds : List D} (h : ∀ H, SqT B.K H a ws) (hs : ws.map scS = ds.map some) (q : k (.dat (.tuple ds)) C) : We B (tC (.ref a)) g S C k := fun σ vs H Q ⟨F, ρ, R⟩ kq => by
  refine kq _ C _ H q ⟨F, ρ, R.push (.tup (h F) ?_)⟩
  clear q h
  induction ws generalizing ds with
  | nil => cases ds with
    | nil => exact .nil
    | cons d r => cases hs
  | cons w r ih => cases ds with
    | nil => cases hs
    | cons d t =>
      simp only [List.map_cons, List.cons.injEq] at hs
      exact .cons (scS_is hs.1) (ih hs.2)
end
end Sy

set_option Elab.async false
set_option linter.all false
set_option maxRecDepth 100000
set_option maxHeartbeats 400000
namespace Sy
open PySem L2
section
variable {B : Bs} {g : Gs} {S : List SV} {C : Cs} {k : SV → Cs → Prop} {kb : Bool → Cs → Prop} {ka : List SV → Cs → Prop} {te ta tb tc tl : TE} {t' : TA} {tt tu : TT} {kk : Ks} {tbody : TS}
theorem wr_sb {i j : Int} (q : k (.dat (.int (i - j))) C) : Wr B rSb (.dat (.int i)) (.dat (.int j)) g S C k := wr_ii (f := fun i j => i - j) q
theorem wr_dv {i j : Int} (h : CDiv i j) (q : k (.dat (.int (i / j))) C) : Wr B rDv (.dat (.int i)) (.dat (.int j)) g S C k := wr_iC (f := fun i j => i / j) h q
theorem wr_md {i j : Int} (h : 0 < j) (q : k (.dat (.int (i % j))) C) : Wr B rMd (.dat (.int i)) (.dat (.int j)) g S C k := wr_iC (P := fun _ j => 0 < j) (f := fun i j => i % j) h q
theorem wr_pw {i j : Int} (h : CPow i j) (q : k (.dat (.int (i ^ j.toNat))) C) : Wr B rPw (.dat (.int i)) (.dat (.int j)) g S C k := wr_iC (f := fun i j => i ^ j.toNat) h q
theorem wr_lt {i j : Int} (q : k (.dat (.bool (decide (i < j)))) C) : Wr B rLt (.dat (.int i)) (.dat (.int j)) g S C k := wr_ib (f := fun i j => decide (i < j)) q
theorem wr_le {i j : Int} (q : k (.dat (.bool (decide (i ≤ j)))) C) : Wr B rLe (.dat (.int i)) (.dat (.int j)) g S C k := wr_ib (f := fun i j => decide (i ≤ j)) q
theorem wr_gt {i j : Int} (q : k (.dat (.bool (decide (j < i)))) C) : Wr B rGt (.dat (.int i)) (.dat (.int j)) g S C k := wr_ib (f := fun i j => decide (j < i)) q
theorem wr_ge {i j : Int} (q : k (.dat (.bool (decide (j ≤ i)))) C) : Wr B rGe (.dat (.int i)) (.dat (.int j)) g S C k := wr_ib (f := fun i j => decide (j ≤ i)) q
/-- 0 <= x < n and its kin -/
theorem we_chLL (h : We B ta g S C fun x C1 => We B tb g (x :: S) C1 fun y C2 => ∃ i j l, x = .dat (.int i) ∧ y = .dat (.int j) ∧ (We B tc g (.dat (.int j) :: S) C2 fun z C3 => C3 = C2 ∧ z = .dat (.int l)) ∧ k (.dat (.bool (decide (i ≤ j) && decide (j < l)))) C2) :
    We B (tChain rLe rLt ta tb tc) g S C k := we_chain (p := fun i j => decide (i ≤ j)) (p' := fun i j => decide (i < j)) (h.imp fun s C' h => h.imp fun s' C'' ⟨i, j, l, a, b, c, d⟩ => ⟨i, j, l, a, b, fun _ => c, d⟩)
theorem we_chLE (h : We B ta g S C fun x C1 => We B tb g (x :: S) C1 fun y C2 => ∃ i j l, x = .dat (.int i) ∧ y = .dat (.int j) ∧ (We B tc g (.dat (.int j) :: S) C2 fun z C3 => C3 = C2 ∧ z = .dat (.int l)) ∧ k (.dat (.bool (decide (i ≤ j) && decide (j ≤ l)))) C2) :
    We B (tChain rLe rLe ta tb tc) g S C k := we_chain (p := fun i j => decide (i ≤ j)) (p' := fun i j => decide (i ≤ j)) (h.imp fun s C' h => h.imp fun s' C'' ⟨i, j, l, a, b, c, d⟩ => ⟨i, j, l, a, b, fun _ => c, d⟩)
theorem atI_map {α β : Type} (f : α → β) {xs : List α} {i : Int} {x : α} (h : atI xs i = some x) : atI (xs.map f) i = some (f x) := by
  unfold atI at h ⊢
  rw [List.length_map]
  cases q : ixN xs.length i with
  | none => rw [q] at h; cases h
  | some j =>
    rw [q] at h
    have h' : xs[j]? = some x := h
    show (xs.map f)[j]? = _
    rw [List.getElem?_map, h']
    rfl
theorem atI_getD {α : Type} {xs : List α} {i : Int} (d : α) (h0 : 0 ≤ i) (h1 : i < xs.length) : atI xs i = some (xs.getD i.toNat d) := by
  rw [at_nn h0 h1, List.getD_eq_getElem?_getD, List.getElem?_eq_getElem (by omega)]
  rfl
/-- a cell of our own is frozen; its names stay -/
theorem Rl.frzC {σ : St} {vs : List V} {H F : Hp} {ρ : Nat → Addr} {i : Nat} {c : Cell} {d : D} (R : Rl B g S C σ vs H F ρ) (hi : C[i]? = some (some c)) (hf : Fzn c d) (hn : B.n0 ≤ i) :
    ∃ F', Rl B g S (C.set i none) σ vs H F' ρ ∧ Is B.K F' (.ref (ρ i)) d := by
  obtain ⟨n1, ⟨u, e1, h3⟩, h4⟩ := R.cell i c hi
  have L : Le F (upd F (ρ i) u) := fun b u e => by rw [upd_ne (ne_of_none e n1)]; exact e
  have lt : i < C.length := (List.getElem?_eq_some_iff.mp hi).1
  have old : ∀ {j : Nat} {d : Cell}, (C.set i none)[j]? = some (some d) → j ≠ i ∧ C[j]? = some (some d) := fun {j d} e => by
    by_cases h : i = j
    · subst h
      rw [List.getElem?_set_self lt] at e
      cases e
    · rw [List.getElem?_set_ne h] at e
      exact ⟨Ne.symm h, e⟩
  have hl : (C.set i none).length = C.length := by simp
  refine ⟨_, ⟨fun b u e => ?_, R.sub.tr L, R.keep, R.there, fun b u e => ?_, R.rho, by rw [hl]; exact R.nc, fun a j c d p q => R.inj a j c d (old p).2 (old q).2, fun j c e => ?_, R.len, fun j s e => ?_, ?_⟩, hf _ _ ρ _ _ _ upd_same (h3.mono L (Nat.le_refl _) fun _ _ => rfl)⟩
  · by_cases hb : b = ρ i
    · subst hb; rw [upd_same] at e; cases e; exact e1
    · rw [upd_ne hb] at e; exact R.le b u e
  · by_cases hb : b = ρ i
    · rcases h4 with h4 | h4
      · omega
      · rw [hb]; exact .inr (.inl h4)
    · rw [upd_ne hb] at e; exact R.frz b u e
  · obtain ⟨hj, e⟩ := old e
    obtain ⟨q1, ⟨o, q2, q3⟩, q4⟩ := R.cell j _ e
    have ne : ρ j ≠ ρ i := fun z => hj (R.inj j i _ _ e hi z)
    rw [hl]
    exact ⟨by rw [upd_ne ne]; exact q1, ⟨o, q2, q3.mono L (Nat.le_refl _) fun _ _ => rfl⟩, q4⟩
  · obtain ⟨v, q, r⟩ := R.slot j s e
    rw [hl]
    exact ⟨v, q, r.mono L (Nat.le_refl _) fun _ _ => rfl⟩
  · rw [hl]
    exact Paired.mapP R.stk fun _ _ q => q.mono L (Nat.le_refl _) fun _ _ => rfl
/-- a cell at the top frozen, as what is returned -/
theorem rx_frz {P : SV → Cs → Prop} {c : Cell} {d : D} {i : Nat} (hi : C[i]? = some (some c)) (hf : Fzn c d) (hn : B.n0 ≤ i) (h : P (.dat d) (C.set i none)) : Rx B P (.ref i) C := fun v H R => by
  obtain ⟨F, ρ, R, hv⟩ := R.top
  obtain ⟨F', R', hd⟩ := R.frzC hi hf hn
  exact ⟨_, _, h, F', ρ, R'.push (by rw [hv.2]; exact hd)⟩
/-- a cell named by a slot frozen there -/
theorem nx_frz {P : Gs → Cs → Prop} {c : Cell} {d : D} {i j : Nat} (hj : g[j]? = some (some (.ref i))) (hi : C[i]? = some (some c)) (hf : Fzn c d) (hn : B.n0 ≤ i) (h : Nx B S P (g.set j (some (.dat d))) (C.set i none)) : Nx B S P g C := fun σ vs H R => by
  obtain ⟨F, ρ, R⟩ := R
  obtain ⟨v, ev, hv⟩ := R.slot j _ hj
  obtain ⟨F', R', hd⟩ := R.frzC hi hf hn
  have e : σ.set j (some v) = σ := by
    refine List.ext_getElem? fun m => ?_
    by_cases hm : j = m
    · subst hm
      rw [List.getElem?_set_self (List.getElem?_eq_some_iff.mp ev).1, ev]
    · rw [List.getElem?_set_ne hm]
  have R2 := (R'.push (s := .dat d) (v := v) (by rw [hv.2]; exact hd)).set (i := j)
  rw [e] at R2
  exact h σ vs H ⟨F', ρ, R2⟩
/-- .. ahead of a statement -/
theorem ws_frz {t : TS} {c : Cell} {d : D} {i j : Nat} (hj : g[j]? = some (some (.ref i))) (hi : C[i]? = some (some c)) (hf : Fzn c d) (hn : B.n0 ≤ i) (h : Ws B t (g.set j (some (.dat d))) S (C.set i none) kk) : Ws B t g S C kk := fun σ vs H D R dk => by
  obtain ⟨F, ρ, R⟩ := R
  obtain ⟨v, ev, hv⟩ := R.slot j _ hj
  obtain ⟨F', R', hd⟩ := R.frzC hi hf hn
  have e : σ.set j (some v) = σ := by
    refine List.ext_getElem? fun m => ?_
    by_cases hm : j = m
    · subst hm
      rw [List.getElem?_set_self (List.getElem?_eq_some_iff.mp ev).1, ev]
    · rw [List.getElem?_set_ne hm]
  have R2 := (R'.push (s := .dat d) (v := v) (by rw [hv.2]; exact hd)).set (i := j)
  rw [e] at R2
  exact h σ vs H D ⟨F', ρ, R2⟩ dk
/-- dead cells at the end are forgotten -/
theorem fzn_l {xs : List SV} (ds : List D) (e : xs = ds.map .dat) : Fzn (.lst xs) (.list ds) := by subst e; exact fzn_lst ds
/-- x.append(e), x a name -/
theorem ws_app {i j : Nat} (hj : g[j]? = some (some (.ref i))) (h0 : ∃ xs, C[i]? = some (some (.lst xs))) (h : We B te g (.ref i :: S) C fun y C1 => ∃ xs, C1[i]? = some (some (.lst xs)) ∧ xs.length < sizeLine ∧ kk.nx g (C1.set i (some (.lst (xs ++ [y]))))) :
    Ws B (tDrop (tBM B.K "list" rAppend (tVar j) (tCons te tNil))) g S C kk := ws_drop (we_app (we_var hj (let ⟨xs0, h0⟩ := h0; ⟨i, xs0, rfl, h0, wa_cons (h.imp fun y C1 ⟨xs, a, b, c⟩ => wa_nil ⟨y, xs, rfl, a, b, c⟩)⟩)))
end
end Sy

set_option Elab.async false
set_option linter.all false
set_option maxRecDepth 100000
set_option maxHeartbeats 400000
namespace Sy
open PySem L2
/-! ## slices written (reading) -/
section
open PyProof.Rows PySem.Spec
def gSlc (to : TE) (tl th : TO) : TG := fun v σ H Q => to σ H fun o H1 => tl σ H1 fun x H2 => th σ H2 fun y H3 => ∃ l b a c xs ys, o = .ref l ∧ x = some a ∧ y = some c ∧ v = .ref b ∧ H3 l = some (.lst xs) ∧ H3 b = some (.lst ys) ∧ l ≠ b ∧ 0 ≤ a ∧ a ≤ c ∧ c ≤ xs.length ∧ xs.length + ys.length ≤ sizeLine ∧ Q σ (upd H3 l (.lst (xs.take a.toNat ++ ys ++ xs.drop c.toNat)))
theorem pg_slc {X : Cx} {o : Expr} {lo hi : Option Expr} {to : TE} {tl th : TO} {pos p2 : Pos} (ho : PE X o to) (hl : PO X lo tl) (hu : PO X hi th)
    (ha : ∀ v, assign (.Subscript o (.Slice lo hi none p2) pos) X.env v = (do
      let ov ← holding [v] (eval o X.env)
      let iv ← holding [v, ov] (eval (.Slice lo hi none p2) X.env)
      standAt pos
      holding [v, ov, iv] (setItem ov iv v)
      release [iv, v, ov] []) := by intro _; rfl) : PG X (.Subscript o (.Slice lo hi none p2) pos) (gSlc to tl th) := by
  refine ⟨fun pins s σ H v u Q I r h => ?_⟩
  rw [ha]
  refine wpAny_bind (wpAny_holding (thn (ho.run pins s σ H _ I h) fun ov s1 ⟨x, H1, I1, r1, q1⟩ => ?_))
  refine wpAny_bind (wpAny_holding ?_)
  refine wpAny_Slice (thn (hl.run pins s1 σ H1 _ I1 q1) fun vl s2 ⟨l, H2, I2, pl, q2⟩ => thn (hu.run pins s2 σ H2 _ I2 q2) fun vu s3 ⟨w, H3, I3, pu, q3⟩ => ?_)
  rw [evalPart_none]
  refine wpAny_pure ?_
  obtain ⟨a, b, i, j, xs, ys, rfl, rfl, rfl, rfl, ha, hb, hne, h0, hij, hj, hz, q⟩ := q3
  have I4 : Inv X pins σ H3 { s3 with heap := s3.heap.push { cls := .type "slice", data := .fields #[vl, vu, .none] } } := I3.kept (t' := s3.toks) fun b ob q => Heap.get?_push_of_some _ q
  refine wpAny_bind (wpAny_standAt (wpAny_bind (wpAny_holding ?_)))
  obtain rfl : ov = Value.ref a := r1
  obtain rfl : u = Value.ref b := r
  cases pl with
  | int i t =>
    cases pu with
    | int j t' =>
      exact set_slice I4 ha hb hne (Heap.IsSliceOf.new _ _ _ _) ⟨t, rfl⟩ ⟨t', rfl⟩ h0 hij hj hz fun s' I5 => wpAny_release ⟨σ, _, I5, q⟩
end
section
variable {B : Bs} {g : Gs} {S : List SV} {C : Cs} {k : SV → Cs → Prop} {kb : Bool → Cs → Prop} {ka : List SV → Cs → Prop} {te ta tb tc tl td tv ty : TE} {t' : TA} {tt tu : TT} {kk : Ks} {tbody : TS}
variable {σ : St} {vs : List V} {H : Hp} {F : Hp} {ρ : Nat → Addr}
theorem wg_slc {tl th : TO} {x : SV} {k : Gs → Cs → Prop} (h : We B ta g (x :: S) C fun o C1 => Wo B tl g (o :: x :: S) C1 fun lo C2 => Wo B th g (o :: x :: S) C2 fun hi C3 => ∃ i xs a c, ∃ ds : List D, x = .dat (.list ds) ∧ o = .ref i ∧ lo = some a ∧ hi = some c ∧ C3[i]? = some (some (.lst xs)) ∧ 0 ≤ a ∧ a ≤ c ∧ c ≤ xs.length ∧ xs.length + ds.length ≤ sizeLine ∧ k g (C3.set i (some (.lst (xs.take a.toNat ++ ds.map .dat ++ xs.drop c.toNat))))) : Wg B (gSlc ta tl th) x g S C k := fun σ vs v H Q R kq =>
  h σ (v :: vs) H _ R fun o C1 w H1 h1 R1 => h1 σ (w :: v :: vs) H1 _ R1 fun lo C2 H2 h2 R2 => h2 σ (w :: v :: vs) H2 _ R2 fun hi C3 H3 ⟨i, xs, a, c, ds, ex, eo, el, eh, ei, b1, b2, b3, b4, q⟩ R3 => by
    subst ex eo el eh
    obtain ⟨F, ρ, R4, ho⟩ := R3.top
    obtain ⟨R5, hx⟩ := R4.pop
    obtain ⟨n1, ⟨ob, e2, q3⟩, _⟩ := R5.cell _ _ ei
    cases q3 with
    | @lst ws _ q3 =>
      cases hx with
      | @lst b ys _ e3 r3 =>
        have hl := Paired.length q3
        have hl2 := IsAll.length r3
        refine ⟨ρ i, b, a, c, ws, ys, ho.2, rfl, rfl, rfl, e2, R5.le _ _ e3, fun z => ?_, b1, b2, by rw [hl]; exact b3, by rw [hl, hl2]; exact b4, kq _ _ _ _ q ⟨F, ρ, R5.wr ei (.lst ?_)⟩⟩
        · rw [z, e3] at n1; cases n1
        · exact paired_app (paired_app (paired_take _ q3) (sis_all r3)) (paired_drop _ q3)
/-! ## dicts, by their pairs -/
def valA {α : Type} (kvs : List (Key × α)) (k : Key) : Option α := (kvs.find? fun kv => decide (kv.1 = k)).map (·.2)
def putA {α : Type} (kvs : List (Key × α)) (k : Key) (v : α) : List (Key × α) :=
  if (kvs.any fun kv => decide (kv.1 = k)) = true then kvs.map (fun kv => if kv.1 = k then (kv.1, v) else kv) else kvs ++ [(k, v)]
theorem valA_pos {α : Type} {p : Key × α} {r : List (Key × α)} {k : Key} (e : p.1 = k) : valA (p :: r) k = some p.2 := by simp [valA, List.find?_cons, e]
theorem valA_neg {α : Type} {p : Key × α} {r : List (Key × α)} {k : Key} (e : ¬ p.1 = k) : valA (p :: r) k = valA r k := by simp [valA, List.find?_cons, e]
theorem valA_any {α : Type} (k : Key) : ∀ kvs : List (Key × α), (kvs.any fun kv => decide (kv.1 = k)) = (valA kvs k).isSome
  | [] => rfl
  | p :: r => by
    by_cases e : p.1 = k
    · rw [valA_pos e]; simp [e]
    · rw [valA_neg e, List.any_cons, valA_any k r]; simp [e]
theorem valA_map {α : Type} (k j : Key) (y : α) : ∀ kvs : List (Key × α), valA (kvs.map fun kv => if kv.1 = k then (kv.1, y) else kv) j = (valA kvs j).map fun x => if j = k then y else x
  | [] => rfl
  | p :: r => by
    rw [List.map_cons]
    by_cases e : p.1 = j
    · rw [valA_pos e]
      by_cases e2 : p.1 = k
      · rw [if_pos e2, valA_pos (by exact e), Option.map_some, if_pos (e ▸ e2)]
      · rw [if_neg e2, valA_pos (by exact e), Option.map_some, if_neg (e ▸ e2)]
    · rw [valA_neg e]
      by_cases e2 : p.1 = k
      · rw [if_pos e2, valA_neg (by exact e)]; exact valA_map k j y r
      · rw [if_neg e2, valA_neg (by exact e)]; exact valA_map k j y r
theorem valA_snoc {α : Type} (k j : Key) (y : α) : ∀ kvs : List (Key × α), valA kvs k = none → valA (kvs ++ [(k, y)]) j = if j = k then some y else valA kvs j
  | [], _ => by
    by_cases e : k = j
    · subst e; simp [valA]
    · rw [if_neg (Ne.symm e)]; simp [valA, e]
  | p :: r, h => by
    by_cases e : p.1 = k
    · rw [valA_pos e] at h; cases h
    · rw [valA_neg e] at h
      rw [List.cons_append]
      by_cases e2 : p.1 = j
      · rw [valA_pos e2, valA_pos e2, if_neg (fun z => e (e2.trans z))]
      · rw [valA_neg e2, valA_neg e2]; exact valA_snoc k j y r h
theorem valA_put {α : Type} (kvs : List (Key × α)) (k j : Key) (y : α) : valA (putA kvs k y) j = if j = k then some y else valA kvs j := by
  unfold putA
  rw [valA_any]
  cases e : valA kvs k with
  | none => exact valA_snoc k j y kvs e
  | some v =>
    rw [if_pos (by rfl), valA_map]
    by_cases e2 : j = k
    · rw [if_pos e2, e2, e]; simp
    · rw [if_neg e2]; simp [e2]
theorem putA_new {α : Type} {kvs : List (Key × α)} {k : Key} (v : α) (h : valA kvs k = none) : putA kvs k v = kvs ++ [(k, v)] := by
  unfold putA
  rw [valA_any, h]; rfl
theorem putA_len {α : Type} (c : List (Key × α)) (k : Key) (x : α) : (putA c k x).length ≤ c.length + 1 := by
  unfold putA
  split <;> simp
theorem valA_mapv {α β : Type} (f : α → β) (k : Key) : ∀ kvs : List (Key × α), valA (kvs.map fun q => (q.1, f q.2)) k = (valA kvs k).map f
  | [] => rfl
  | p :: r => by
    rw [List.map_cons]
    by_cases e : p.1 = k
    · rw [valA_pos e, valA_pos (by exact e)]; rfl
    · rw [valA_neg e, valA_neg (by exact e)]; exact valA_mapv f k r
theorem putA_mapv {α β : Type} (f : α → β) (k : Key) (v : α) (kvs : List (Key × α)) : (putA kvs k v).map (fun q => (q.1, f q.2)) = putA (kvs.map fun q => (q.1, f q.2)) k (f v) := by
  unfold putA
  have e1 : ((kvs.map fun q => (q.1, f q.2)).any fun kv => decide (kv.1 = k)) = kvs.any fun kv => decide (kv.1 = k) := by rw [List.any_map]; rfl
  rw [e1]
  by_cases h : (kvs.any fun kv => decide (kv.1 = k)) = true
  · rw [if_pos h, if_pos h, List.map_map, List.map_map]
    refine List.map_congr_left fun q _ => ?_
    by_cases e : q.1 = k
    · simp [e]
    · simp [e]
  · rw [if_neg h, if_neg h, List.map_append]; rfl
theorem pair_val {P : V → SV → Prop} (k : Key) : ∀ {ws : List (Key × V)} {ds : List (Key × SV)}, Paired (fun p q => p.1 = q.1 ∧ P p.2 q.2) ws ds → (valV ws k = none ∧ valA ds k = none) ∨ ∃ v s, valV ws k = some v ∧ valA ds k = some s ∧ P v s
  | _, _, .nil => .inl ⟨rfl, rfl⟩
  | (k', v) :: ws, (k2, s) :: ds, .cons a r => by
    obtain ⟨a1, a2⟩ := a
    have e : k' = k2 := a1
    subst e
    by_cases e : k' = k
    · exact .inr ⟨v, s, valV_pos e, valA_pos e, a2⟩
    · rw [valV_neg (by exact e), valA_neg (by exact e)]
      exact pair_val k r
theorem pair_any {P : V → SV → Prop} (k : Key) : ∀ {ws : List (Key × V)} {ds : List (Key × SV)}, Paired (fun p q => p.1 = q.1 ∧ P p.2 q.2) ws ds → (ws.any fun kv => decide (kv.1 = k)) = ds.any fun kv => decide (kv.1 = k)
  | _, _, .nil => rfl
  | (k', v) :: ws, (k2, s) :: ds, .cons a r => by
    have e : k' = k2 := a.1
    subst e
    rw [List.any_cons, List.any_cons, pair_any k r]
theorem pair_set {P : V → SV → Prop} (k : Key) {v : V} {s : SV} (hv : P v s) : ∀ {ws : List (Key × V)} {ds : List (Key × SV)}, Paired (fun p q => p.1 = q.1 ∧ P p.2 q.2) ws ds → Paired (fun p q => p.1 = q.1 ∧ P p.2 q.2) (ws.map fun kv => if kv.1 = k then (kv.1, v) else kv) (ds.map fun kv => if kv.1 = k then (kv.1, s) else kv)
  | _, _, .nil => .nil
  | x :: _, y :: _, .cons a r => by
    obtain ⟨a1, a2⟩ := a
    refine .cons ?_ (pair_set k hv r)
    show (if x.1 = k then (x.1, v) else x).1 = (if y.1 = k then (y.1, s) else y).1 ∧ P (if x.1 = k then (x.1, v) else x).2 (if y.1 = k then (y.1, s) else y).2
    by_cases e : y.1 = k
    · rw [if_pos e, if_pos (a1.trans e)]; exact ⟨a1, hv⟩
    · rw [if_neg e, if_neg (fun z => e (a1.symm.trans z))]; exact ⟨a1, a2⟩
theorem pair_put {P : V → SV → Prop} (k : Key) {v : V} {s : SV} (hv : P v s) {ws : List (Key × V)} {ds : List (Key × SV)} (h : Paired (fun p q => p.1 = q.1 ∧ P p.2 q.2) ws ds) : Paired (fun p q => p.1 = q.1 ∧ P p.2 q.2) (putK ws k v) (putA ds k s) := by
  unfold putK putA
  rw [pair_any k h]
  split
  · exact pair_set k hv h
  · exact paired_app h (.cons ⟨rfl, hv⟩ .nil)
theorem kv_pair {K : PySem.W.Frag} {F : Hp} {ρ : Nat → Addr} {n : Nat} : ∀ {ds : List (Key × D)} {ws : List (Key × V)}, IsKv K F ws (ds.map fun q => (keyD q.1, q.2)) → Paired (fun p q => p.1 = q.1 ∧ SIs K F ρ n p.2 q.2) ws (ds.map fun q => (q.1, SV.dat q.2))
  | [], _, h => by
    generalize e : (List.map (fun q : Key × D => (keyD q.1, q.2)) []) = l at h
    cases h with
    | nil => exact .nil
    | cons a r => cases e
  | (k, d) :: ds, _, h => by
    generalize e : (List.map (fun q : Key × D => (keyD q.1, q.2)) ((k, d) :: ds)) = l at h
    cases h with
    | nil => cases e
    | cons a r =>
      simp only [List.map_cons, List.cons.injEq, Prod.mk.injEq] at e
      obtain ⟨⟨e1, e2⟩, e3⟩ := e
      subst e2 e3
      exact .cons ⟨(keyD_inj e1).symm, a⟩ (kv_pair r)
/-- what a dict has at a key, or not -/
inductive DA (C : Cs) : SV → Key → Option SV → Prop
  | dat {kvs : List (Key × D)} {k : Key} {o : Option D} : valA kvs k = o → DA C (.dat (.dict (kvs.map fun q => (keyD q.1, q.2)))) k (o.map .dat)
  | cell {i : Nat} {ks : List (Key × SV)} {k : Key} {o : Option SV} : C[i]? = some (some (.dct ks)) → valA ks k = o → DA C (.ref i) k o
theorem Rl.da {v : V} {s : SV} {key : Key} {o : Option SV} (R : Rl B g S C σ vs H F ρ) (h : SIs B.K F ρ C.length v s) (d : DA C s key o) : ∃ a r, v = .ref a ∧ DGet H a (kV key) r ∧ ((r = none ∧ o = none) ∨ ∃ u t, r = some u ∧ o = some t ∧ SIs B.K F ρ C.length u t) := by
  cases d with
  | @dat kvs _ o hv =>
    generalize e : (PyData.dict (kvs.map fun q => (keyD q.1, q.2))) = dd at h
    cases h with
    | @dct a ks ds e1 r =>
      cases e
      refine ⟨a, _, rfl, DGet.k (R.le _ _ e1), ?_⟩
      have h2 := pair_val (P := SIs B.K F ρ C.length) key (kv_pair r)
      rw [valA_mapv, hv] at h2
      rcases h2 with ⟨a1, a2⟩ | ⟨v, s, a1, a2, a3⟩
      · exact .inl ⟨a1, a2⟩
      · exact .inr ⟨v, s, a1, a2, a3⟩
    | _ => cases e
  | @cell i ks _ o hi hv =>
    obtain ⟨_, ⟨ob, e2, q3⟩, _⟩ := R.cell _ _ hi
    obtain ⟨_, ev⟩ := h
    cases q3 with
    | dct q3 =>
      refine ⟨_, _, ev, DGet.k e2, ?_⟩
      have h2 := pair_val (P := SIs B.K F ρ C.length) key q3
      rw [hv] at h2
      exact h2
theorem we_dgetA (h : We B ta g S C fun x C1 => We B tb g (x :: S) C1 fun y C2 => ∃ key s, y = keyS key ∧ DA C2 x key (some s) ∧ k s C2) : We B (tDGet ta tb) g S C k := fun σ vs H Q R kq =>
  h σ vs H _ R fun x C1 v H1 h1 R1 => h1 σ (v :: vs) H1 _ R1 fun y C2 w H2 ⟨key, s, ey, dv, q⟩ R2 => by
    subst ey
    obtain ⟨F, ρ, R3, hy⟩ := R2.top
    obtain ⟨R4, hx⟩ := R3.pop
    obtain rfl := is_key hy
    obtain ⟨a, r, ev, dg, hr⟩ := R4.da hx dv
    rcases hr with ⟨_, e⟩ | ⟨u, t, e1, e2, e3⟩
    · cases e
    · cases e2
      subst e1
      exact ⟨a, u, ev, dg, kq _ C2 u H2 q ⟨F, ρ, R4.push e3⟩⟩
theorem we_din (h : We B ty g S C fun y C1 => We B td g (y :: S) C1 fun x C2 => ∃ key o, y = keyS key ∧ DA C2 x key o ∧ k (.dat (.bool o.isSome)) C2) : We B (tDIn ty td) g S C k := fun σ vs H Q R kq =>
  h σ vs H _ R fun y C1 v H1 h1 R1 => h1 σ (v :: vs) H1 _ R1 fun x C2 w H2 ⟨key, o, ey, dv, q⟩ R2 => by
    subst ey
    obtain ⟨F, ρ, R3, hx⟩ := R2.top
    obtain ⟨R4, hy⟩ := R3.pop
    obtain rfl := is_key hy
    obtain ⟨a, r, ev, dg, hr⟩ := R4.da hx dv
    refine ⟨a, r, ev, dg, ?_⟩
    have e : r.isSome = o.isSome := by
      rcases hr with ⟨e1, e2⟩ | ⟨u, t, e1, e2, _⟩ <;> rw [e1, e2] <;> rfl
    rw [e]
    exact kq _ C2 _ H2 q ⟨F, ρ, R4.push (.bl _)⟩
theorem we_dnotin (h : We B ty g S C fun y C1 => We B td g (y :: S) C1 fun x C2 => ∃ key o, y = keyS key ∧ DA C2 x key o ∧ k (.dat (.bool (!o.isSome))) C2) : We B (tDNotIn ty td) g S C k := fun σ vs H Q R kq =>
  h σ vs H _ R fun y C1 v H1 h1 R1 => h1 σ (v :: vs) H1 _ R1 fun x C2 w H2 ⟨key, o, ey, dv, q⟩ R2 => by
    subst ey
    obtain ⟨F, ρ, R3, hx⟩ := R2.top
    obtain ⟨R4, hy⟩ := R3.pop
    obtain rfl := is_key hy
    obtain ⟨a, r, ev, dg, hr⟩ := R4.da hx dv
    refine ⟨a, r, ev, dg, ?_⟩
    have e : r.isSome = o.isSome := by
      rcases hr with ⟨e1, e2⟩ | ⟨u, t, e1, e2, _⟩ <;> rw [e1, e2] <;> rfl
    rw [e]
    exact kq _ C2 _ H2 q ⟨F, ρ, R4.push (.bl _)⟩
theorem ws_dput (h : We B tv g S C fun v C1 => We B td g (v :: S) C1 fun x C2 => We B ty g (x :: v :: S) C2 fun y C3 => ∃ i ks key, x = .ref i ∧ y = keyS key ∧ C3[i]? = some (some (.dct ks)) ∧ ks.length < sizeLine ∧ kk.nx g (C3.set i (some (.dct (putA ks key v))))) : Ws B (sDPut td ty tv) g S C kk := fun σ vs H D R d =>
  h σ vs H _ R fun v C1 w1 H1 h1 R1 => h1 σ (w1 :: vs) H1 _ R1 fun x C2 w2 H2 h2 R2 => h2 σ (w2 :: w1 :: vs) H2 _ R2 fun y C3 w3 H3 ⟨i, ks, key, ex, ey, ei, hl, q⟩ R3 => by
    subst ex ey
    obtain ⟨F, ρ, R4, hy⟩ := R3.top
    obtain ⟨R5, hx⟩ := R4.pop
    obtain ⟨R6, hv⟩ := R5.pop
    obtain rfl := is_key hy
    obtain ⟨_, ⟨ob, e2, q3⟩, _⟩ := R6.cell _ _ ei
    cases q3 with
    | @dct ws _ q3 => exact ⟨ρ i, _, hx.2, DPut.k e2 (by rw [Paired.length q3]; exact hl), d.nx _ _ _ _ q ⟨F, ρ, R6.wr ei (.dct (pair_put key hv q3))⟩⟩
theorem we_dnew (q : k (.ref C.length) (C ++ [some (.dct [])])) : We B tDNewK g S C k := fun σ vs H Q R kq p hp => by
  obtain ⟨F, ρ, R⟩ := R
  exact kq _ _ _ _ q ⟨F, _, R.lay_c hp (.dct .nil)⟩
/-! ## extend -/
theorem we_ext (h : We B ta g S C fun x C1 => ∃ i xs0, x = .ref i ∧ C1[i]? = some (some (.lst xs0)) ∧ Wa B t' g (x :: S) C1 fun ss C2 => ∃ xs, ∃ ds : List D, ss = [.dat (.list ds)] ∧ C2[i]? = some (some (.lst xs)) ∧ xs.length + ds.length ≤ sizeLine ∧ k (.dat .none) (C2.set i (some (.lst (xs ++ ds.map .dat))))) :
    We B (tBM B.K "list" rExtend ta t') g S C k := fun σ vs H Q R kq =>
  h σ vs H _ R fun x C1 v H1 ⟨i, xs0, e, ei, h1⟩ R1 => by
    subst e
    obtain ⟨F, ρ, R2, hx⟩ := R1.top
    obtain ⟨_, ⟨o, e2, q3⟩, _⟩ := R2.cell _ _ ei
    cases q3 with
    | @lst ws0 _ q3 =>
      have ev := hx.2
      subst ev
      refine ⟨.inl ⟨rfl, _, SqL.of e2⟩, ?_⟩
      refine h1 σ _ H1 _ R1 fun ss C2 us H2 ⟨xs, ds, ess, ei2, hl, q⟩ l R3 => ?_
      subst ess
      obtain ⟨u, rfl, R3⟩ := R3.one l
      obtain ⟨F2, ρ2, R4, hy⟩ := R3.top
      obtain ⟨R5, hx2⟩ := R4.pop
      obtain ⟨_, ⟨o2, e3, q4⟩, _⟩ := R5.cell _ _ ei2
      cases q4 with
      | @lst ws _ q4 =>
        have er : ρ i = ρ2 i := V.ref.inj hx2.2
        cases hy with
        | @lst b zs _ e4 r4 =>
          refine ⟨ρ i, b, ws, zs, rfl, rfl, by rw [er]; exact e3, R5.le _ _ e4, by rw [Paired.length q4, IsAll.length r4]; exact hl, ?_⟩
          rw [er]
          exact kq _ _ _ _ q ⟨F2, ρ2, (R5.wr ei2 (.lst (paired_app q4 (sis_all r4)))).push .non⟩
theorem ws_ext {i j : Nat} (hj : g[j]? = some (some (.ref i))) (h0 : ∃ xs, C[i]? = some (some (.lst xs))) (h : We B te g (.ref i :: S) C fun y C1 => ∃ xs, ∃ ds : List D, y = .dat (.list ds) ∧ C1[i]? = some (some (.lst xs)) ∧ xs.length + ds.length ≤ sizeLine ∧ kk.nx g (C1.set i (some (.lst (xs ++ ds.map .dat))))) :
    Ws B (tDrop (tBM B.K "list" rExtend (tVar j) (tCons te tNil))) g S C kk := ws_drop (we_ext (we_var hj (let ⟨xs0, h0⟩ := h0; ⟨i, xs0, rfl, h0, wa_cons (h.imp fun y C1 ⟨xs, ds, e, a, b, c⟩ => wa_nil ⟨xs, ds, by rw [e], a, b, c⟩)⟩)))
/-! ## while -/
abbrev whileK (B : Bs) (S : List SV) (kk : Ks) (P : Gs → Cs → Prop) : Ks := { nx := Nx B S P, rt := kk.rt, bk := kk.nx, ct := Nx B S P }
theorem ws_while (I : Nat → Gs → Cs → Prop) {m0 : Nat} (i0 : I m0 g C) (hs : ∀ m g' C', I m g' C' → Wt B tt g' S C' fun b C2 => (b = true → Ws B tbody g' S C2 (turnK B S kk fun g2 C3 => ∃ m', m' < m ∧ I m' g2 C3)) ∧ (b = false → kk.nx g' C2)) :
    Ws B (tWhile tt tbody) g S C kk := fun σ vs H D R d => by
  refine ⟨fun m σ' H' => ∃ g' C', I m g' C' ∧ Rel B g' S C' σ' vs H', ⟨m0, g, C, i0, R⟩, ?_⟩
  rintro m σ1 H1 ⟨g', C', q, R1⟩
  refine hs m g' C' q σ1 vs H1 _ R1 fun b C2 H2 ⟨qt, qf⟩ R2 => ?_
  cases b with
  | true =>
    refine (if_pos rfl).mpr ⟨fun σ3 H3 => ∃ m' g2 C3, (m' < m ∧ I m' g2 C3) ∧ Rel B g2 S C3 σ3 vs H3, fun σ3 H3 ⟨m', g2, C3, a, R3⟩ => ⟨m', a.1, g2, C3, a.2, R3⟩, ?_⟩
    refine qt rfl σ1 vs H2 _ R2 ⟨fun g3 C3 σ3 H3 n R3 => ?_, d.rt, fun g3 C3 σ3 H3 n R3 => d.nx _ _ _ _ n R3, fun g3 C3 σ3 H3 n R3 => ?_⟩
    · obtain ⟨g4, C4, ⟨m', a, b⟩, R4⟩ := n σ3 vs H3 R3
      exact ⟨m', g4, C4, ⟨a, b⟩, R4⟩
    · obtain ⟨g4, C4, ⟨m', a, b⟩, R4⟩ := n σ3 vs H3 R3
      exact ⟨m', g4, C4, ⟨a, b⟩, R4⟩
  | false => exact (if_neg Bool.false_ne_true).mpr (d.nx _ _ _ _ (qf rfl) R2)
/-! ## tuple + tuple -/
theorem wr_plusT {xs ys : List D} (h0 : xs ≠ []) (hl : xs.length + ys.length ≤ sizeLine) (q : k (.dat (.tuple (xs ++ ys))) C) : Wr B (rPlus B.K) (.dat (.tuple xs)) (.dat (.tuple ys)) g S C k := fun σ vs H Q v w R kq => .inr (.inr (.inr (by
  obtain ⟨F, ρ, R1, hy⟩ := R.top
  obtain ⟨R2, hx⟩ := R1.pop
  have hx0 := hx
  obtain ⟨a, ws, rfl, ha, hp⟩ := R2.tv hx
  obtain ⟨b, us, rfl, hb, hq⟩ := R2.tv hy
  have l1 := Paired.length hp
  have l2 := Paired.length hq
  rw [List.length_map] at l1 l2
  refine ⟨a, b, ws, us, rfl, rfl, ha, hb, fun z => h0 (List.length_eq_zero_iff.mp (by rw [← l1, z]; rfl)), by omega, fun z => ?_, fun z p hp3 => ?_⟩
  · have e : ys = [] := List.length_eq_zero_iff.mp (by rw [← l2, z]; rfl)
    subst e
    rw [List.append_nil] at q
    exact kq _ C _ _ q ⟨F, ρ, R2.push hx0⟩
  · obtain ⟨R4, L⟩ := R2.lay (o := .tup (ws ++ us)) hp3
    have ap : IsAll B.K F (ws ++ us) (xs ++ ys) := all_sis (ρ := ρ) (n := C.length) (by rw [List.map_append]; exact paired_app hp hq)
    exact kq _ C _ _ q ⟨_, ρ, R4.push (.tup (SqT.of upd_same) (ap.mono L))⟩)))
/-! ## data that may be compared -/
def Shp (n : Nat) (d : D) : Prop := d.canLay0 = true ∧ d.depth ≤ n
theorem shp_int {n : Nat} {i : Int} : Shp n (.int i) := ⟨rfl, Nat.zero_le _⟩
theorem shp_bool {n : Nat} {i : Bool} : Shp n (.bool i) := ⟨rfl, Nat.zero_le _⟩
theorem shp_none {n : Nat} : Shp n .none := ⟨rfl, Nat.zero_le _⟩
theorem shp_all {n : Nat} : ∀ {xs : List D}, (∀ x ∈ xs, Shp n x) → PyData.canLayAll0 xs = true ∧ PyData.depthAll xs ≤ n
  | [], _ => ⟨rfl, Nat.zero_le _⟩
  | x :: xs, h => by
    obtain ⟨a, b⟩ := shp_all fun y hy => h y (List.mem_cons_of_mem _ hy)
    obtain ⟨c, d⟩ := h x List.mem_cons_self
    exact ⟨by rw [PyData.canLayAll0, c, a]; rfl, by rw [PyData.depthAll]; exact Nat.max_le.mpr ⟨d, b⟩⟩
theorem shp_list {n : Nat} {xs : List D} (h : ∀ x ∈ xs, Shp n x) : Shp (n + 1) (.list xs) := ⟨by rw [PyData.canLay0]; exact (shp_all h).1, by rw [PyData.depth]; exact Nat.succ_le_succ (shp_all h).2⟩
theorem shp_tuple {n : Nat} {xs : List D} (h : ∀ x ∈ xs, Shp n x) : Shp (n + 1) (.tuple xs) := ⟨by rw [PyData.canLay0]; exact (shp_all h).1, by rw [PyData.depth]; exact Nat.succ_le_succ (shp_all h).2⟩
theorem shp_map {n : Nat} {α : Type} {f : α → D} {xs : List α} (h : ∀ x, Shp n (f x)) : ∀ y ∈ xs.map f, Shp n y := fun y hy => by
  obtain ⟨x, _, e⟩ := List.mem_map.mp hy
  rw [← e]; exact h x
theorem shp_nil {n : Nat} : ∀ y ∈ ([] : List D), Shp n y := fun y hy => by cases hy
theorem shp_cons {n : Nat} {x : D} {xs : List D} (h : Shp n x) (r : ∀ y ∈ xs, Shp n y) : ∀ y ∈ x :: xs, Shp n y := fun y hy => by
  rcases List.mem_cons.mp hy with e | e
  · rw [e]; exact h
  · exact r y e
theorem shaped_of {n : Nat} {d : D} (h : Shp n d) (hn : n ≤ 64) : SeqAt.shaped d = true := by
  unfold SeqAt.shaped
  rw [h.1, Bool.true_and]
  exact decide_eq_true (Nat.le_trans h.2 hn)
mutual
theorem eqv_self : ∀ {d : D}, d.canLay0 = true → PyData.eqv d d = true
  | .none, _ => by rw [PyData.eqv]
  | .bool _, _ => by rw [PyData.eqv]; exact beq_self_eq_true _
  | .int _, _ => by rw [PyData.eqv]; exact beq_self_eq_true _
  | .str _, _ => by rw [PyData.eqv]; exact beq_self_eq_true _
  | .list xs, h => by rw [PyData.eqv]; exact eqv_selfs (by rw [PyData.canLay0] at h; exact h)
  | .tuple xs, h => by rw [PyData.eqv]; exact eqv_selfs (by rw [PyData.canLay0] at h; exact h)
  | .dict _, h => by rw [PyData.canLay0] at h; cases h
theorem eqv_selfs : ∀ {xs : List D}, PyData.canLayAll0 xs = true → PyData.eqvAll xs xs = true
  | [], _ => by rw [PyData.eqvAll]
  | x :: xs, h => by
    rw [PyData.canLayAll0, Bool.and_eq_true] at h
    rw [PyData.eqvAll, eqv_self h.1, eqv_selfs h.2]; rfl
end
/-- alike: == True, != False -/
theorem wr_eqSame {d e : D} (n : Nat) (hs : Shp n d) (he : e = d) (hn : n ≤ 64) (q : k (.dat (.bool true)) C) : Wr B (rEqQ B.K) (.dat d) (.dat e) g S C k := by
  subst he
  exact wr_eqD (shaped_of hs hn) (shaped_of hs hn) (by rw [eqv_self hs.1]; exact q)
theorem wr_neSame {d e : D} (n : Nat) (hs : Shp n d) (he : e = d) (hn : n ≤ 64) (q : k (.dat (.bool false)) C) : Wr B (rNeQ B.K) (.dat d) (.dat e) g S C k := by
  subst he
  exact wr_neD (shaped_of hs hn) (shaped_of hs hn) (by rw [eqv_self hs.1]; exact q)
end
end Sy

set_option Elab.async false
set_option linter.all false
set_option maxRecDepth 100000
set_option maxHeartbeats 400000
namespace Sy
open PySem L2
section
variable {B : Bs} {g : Gs} {S : List SV} {C : Cs} {k : SV → Cs → Prop} {t' : TA} {te ta tb tc : TE} {tt : TT}
/-- a call whose arguments stand -/
def Wk (c : Cp) (ex : Addr → Int → Prop) (ss : List SV) (k : SV → Cs → Prop) (C : Cs) : Prop := ∃ i, ss = c.args i ∧ (c.args i).all SV.cl = true ∧ c.pre i ∧ (∀ d, c.post i d → k (.dat d) C) ∧ (∀ cls n, c.exc i cls n → ex cls n)
theorem we_callW {c : Cp} {E : XK} {ex : Addr → Int → Prop} (hX : Xk B E ex) (h : Wa B t' g S C fun ss C1 => Wk c ex ss k C1) : We B (tCall (c.sp B.K) [] E t') g S C k := we_call hX h
theorem wk_of {c : Cp} {ex : Addr → Int → Prop} (i : c.ι) (v : D) (hc : (c.args i).all SV.cl = true) (hp : c.pre i) (hv : ∀ d, c.post i d → d = v) (he : ∀ cls n, ¬ c.exc i cls n) (q : k (.dat v) C) : Wk c ex (c.args i) k C :=
  ⟨i, rfl, hc, hp, fun d h => by rw [hv d h]; exact q, fun cls n h => absurd h (he cls n)⟩
theorem xkN {E : XK} : Xk B E (fun _ _ => False) := fun _ _ _ _ _ x _ _ _ => x.elim
theorem we_callN {c : Cp} {E : XK} (h : Wa B t' g S C fun ss C1 => Wk c (fun _ _ => False) ss k C1) : We B (tCall (c.sp B.K) [] E t') g S C k := we_call xkN h
inductive DS : List SV → List D → Prop
  | nil : DS [] []
  | cons {d : D} {ss : List SV} {ds : List D} : DS ss ds → DS (.dat d :: ss) (d :: ds)
theorem DS.map {ss : List SV} {ds : List D} (h : DS ss ds) : ss = ds.map .dat := by
  induction h with
  | nil => rfl
  | cons _ ih => rw [ih]; rfl
inductive IL : List D → List Int → Prop
  | nil : IL [] []
  | cons {i : Int} {ss : List D} {ds : List Int} : IL ss ds → IL (.int i :: ss) (i :: ds)
theorem IL.map {ss : List D} {ds : List Int} (h : IL ss ds) : ss = ds.map .int := by
  induction h with
  | nil => rfl
  | cons _ ih => rw [ih]; rfl
theorem len_ok {n : Nat} (h : Nat.ble n 100000 = true) : n ≤ sizeLine := Nat.le_trans (Nat.le_of_ble_eq_true h) (by rw [sizeLine_eq]; decide)
theorem we_tupX (h : Wa B t' g S C fun ss C1 => ∃ ds : List D, DS ss ds ∧ ds.length ≤ sizeLine ∧ k (.dat (.tuple ds)) C1) : We B (tTup t') g S C k := we_tup fun σ vs H Q R kq => h σ vs H Q R fun ss C1 us H1 ⟨ds, a, b, c⟩ => kq ss C1 us H1 ⟨ds, a.map, b, c⟩
theorem we_lstX {t0 : TE} (h : Wa B (tCons t0 t') g S C fun ss C1 => ∃ ds : List D, DS ss ds ∧ ds.length ≤ sizeLine ∧ k (.dat (.list ds)) C1) : We B (tLst (tCons t0 t')) g S C k := we_lst fun σ vs H Q R kq => h σ vs H Q R fun ss C1 us H1 ⟨ds, a, b, c⟩ => kq ss C1 us H1 ⟨ds, a.map, b, c⟩
theorem wr_ixI {ds : List D} {ns : List Int} {i : Int} (e : IL ds ns) (h0 : 0 ≤ i) (h1 : i < ns.length) (q : k (.dat (.int (ns.getD i.toNat 0))) C) : Wr B (rIx B.K) (.dat (.list ds)) (.dat (.int i)) g S C k := by
  rw [e.map]
  exact wr_ixl .dat (atI_map _ (atI_map _ (atI_getD 0 h0 h1))) q
theorem wr_ixM {α : Type} {f : α → D} {ns : List α} {i : Int} (d : α) (h0 : 0 ≤ i) (h1 : i < ns.length) (q : k (.dat (f (ns.getD i.toNat d))) C) : Wr B (rIx B.K) (.dat (.list (ns.map f))) (.dat (.int i)) g S C k :=
  wr_ixl .dat (atI_map _ (atI_map _ (atI_getD d h0 h1))) q
theorem wr_ixD {ds : List D} {i : Int} (h0 : 0 ≤ i) (h1 : i < ds.length) (q : k (.dat (ds.getD i.toNat .none)) C) : Wr B (rIx B.K) (.dat (.list ds)) (.dat (.int i)) g S C k :=
  wr_ixl .dat (atI_map _ (atI_getD .none h0 h1)) q
/-- a list's item by a number, the list a literal or not -/
theorem ix_map {α : Type} {f : α → SV} {xs : List α} {i : Int} (d : α) (h0 : 0 ≤ i) (h1 : i < xs.length) : atI (xs.map f) i = some (f (xs.getD i.toNat d)) := atI_map f (atI_getD d h0 h1)
/-! ## comprehensions, in short -/
theorem wt_yes {kb : Bool → Cs → Prop} (q : kb true C) : Wt B tYes g S C kb := fun σ vs H Q R kq => kq true C H q R
theorem LV.more {C' : Cs} {s : SV} {xs : List SV} (h : LV C s xs) : LV (C ++ C') s xs := by
  cases h with
  | dat => exact .dat
  | cell e => exact .cell (by rw [List.getElem?_append_left (List.getElem?_eq_some_iff.mp e).1]; exact e)
def rng (a b : Int) : List Int := (List.range (b - a).toNat).map fun (i : Nat) => a + (i : Int)
theorem rng_len (a b : Int) : (rng a b).length = (b - a).toNat := by simp [rng]
theorem mem_rng {a b x : Int} (h : x ∈ rng a b) : a ≤ x ∧ x < b := by
  obtain ⟨i, hi, e⟩ := List.mem_map.mp h
  have := List.mem_range.mp hi
  omega
theorem rng_at {a b : Int} {i : Nat} (h : i < (b - a).toNat) : (rng a b)[i]? = some (a + i) := by
  unfold rng
  rw [List.getElem?_map, List.getElem?_range h]; rfl
/-- what a comprehension walks -/
def Wsrc (B : Bs) (wi : TI) {α : Type} (as : List α) (enc : α → SV) (g : Gs) (S : List SV) (C : Cs) (k : Cs → Prop) : Prop := Wi B wi g S C fun T xs ok C1 => xs = as.map enc ∧ (∀ acc, ok (C1 ++ [some (.lst acc)])) ∧ k C1
theorem wsrc_list {α : Type} {as : List α} {enc : α → SV} {tl : TE} {k : Cs → Prop} (h : We B tl g S C fun s C1 => LV C1 s (as.map enc) ∧ k C1) : Wsrc B (iList B.K tl) as enc g S C k :=
  wi_list (h.imp fun s C1 ⟨a, b⟩ => ⟨_, a, rfl, fun acc => a.more, b⟩)
theorem wsrc_rng1 {n : Int} {k : Cs → Prop} (h : Wa B t' g S C fun ss C1 => ss = [.dat (.int n)] ∧ (-(2 ^ 62) ≤ n ∧ n < 2 ^ 62) ∧ k C1) : Wsrc B (iRng1 t') (rng 0 n) (fun x => .dat (.int x)) g S C k :=
  wi_rng1 fun σ vs H Q R kq => h σ vs H Q R fun ss C1 us H1 ⟨a, b, c⟩ => kq ss C1 us H1 ⟨n, a, b, by simp [rngS, rng], fun _ => trivial, c⟩
theorem wsrc_rng2 {lo n : Int} {k : Cs → Prop} (h : Wa B t' g S C fun ss C1 => ss = [.dat (.int lo), .dat (.int n)] ∧ (-(2 ^ 62) ≤ lo ∧ lo < 2 ^ 62 ∧ -(2 ^ 62) ≤ n ∧ n < 2 ^ 62) ∧ k C1) : Wsrc B (iRng2 t') (rng lo n) (fun x => .dat (.int x)) g S C k :=
  wi_rng2 fun σ vs H Q R kq => h σ vs H Q R fun ss C1 us H1 ⟨a, b, c⟩ => kq ss C1 us H1 ⟨lo, n, a, b, by simp [rngS, rng], fun _ => trivial, c⟩
theorem we_lcT {wi : TI} {tg : TG} {is : List Nat} {α : Type} (as : List α) (enc : α → SV) (p : α → Bool) (f : α → D) (hl : as.length ≤ sizeLine)
    (h : Wsrc B wi as enc g S C fun C1 => (∀ a, a ∈ as → ∀ S' acc, Wgw B tg is (enc a) (wipeG g is) S' (C1 ++ [some (.lst acc)]) fun g2 C2 => C2 = C1 ++ [some (.lst acc)] ∧
        Wt B tt g2 S' (C1 ++ [some (.lst acc)]) fun b C3 => C3 = C1 ++ [some (.lst acc)] ∧ b = p a ∧ (b = true → We B te g2 S' (C1 ++ [some (.lst acc)]) fun y C4 => C4 = C1 ++ [some (.lst acc)] ∧ y = .dat (f a))) ∧
      k (.dat (.list ((as.filter p).map f))) C1) : We B (tLc wi tg tt te is) g S C k :=
  we_lc as enc p f hl fun σ vs H Q R kq => h σ vs H Q R fun J T tv xs ok C1 H1 ⟨a, b, c, d⟩ => kq J T tv xs ok C1 H1 ⟨a, b, fun i x acc e => c x (List.mem_of_getElem? e) _ acc, d⟩
theorem we_lc1F {wi : TI} {j : Nat} {α : Type} (as : List α) (enc : α → SV) (p : α → Bool) (f : α → D) (hl : as.length ≤ sizeLine)
    (h : Wsrc B wi as enc g S C fun C1 => (∀ a, a ∈ as → ∀ S' acc, Wt B tt ((wipeG g [j]).set j (some (enc a))) S' (C1 ++ [some (.lst acc)]) fun b C3 => C3 = C1 ++ [some (.lst acc)] ∧ b = p a) ∧
      (∀ a, a ∈ as → p a = true → ∀ S' acc, We B te ((wipeG g [j]).set j (some (enc a))) S' (C1 ++ [some (.lst acc)]) fun y C4 => C4 = C1 ++ [some (.lst acc)] ∧ y = .dat (f a)) ∧
      k (.dat (.list ((as.filter p).map f))) C1) : We B (tLc wi (gName j) tt te [j]) g S C k :=
  we_lcT as enc p f hl fun σ vs H Q R kq => h σ vs H Q R fun J T tv xs ok C1 H1 ⟨a, b, c, d, e⟩ => kq J T tv xs ok C1 H1 ⟨a, b, fun x hx S' acc => wgw_name (by simp) ⟨rfl, (c x hx S' acc).imp fun b C3 ⟨e1, e2⟩ => ⟨e1, e2, fun z => d x hx (e2 ▸ z) S' acc⟩⟩, e⟩
theorem we_lc1 {wi : TI} {j : Nat} {α : Type} (as : List α) (enc : α → SV) (f : α → D) (hl : as.length ≤ sizeLine)
    (h : Wsrc B wi as enc g S C fun C1 => (∀ a, a ∈ as → ∀ S' acc, We B te ((wipeG g [j]).set j (some (enc a))) S' (C1 ++ [some (.lst acc)]) fun y C4 => C4 = C1 ++ [some (.lst acc)] ∧ y = .dat (f a)) ∧
      k (.dat (.list (as.map f))) C1) : We B (tLc wi (gName j) tYes te [j]) g S C k :=
  we_lc1F as enc (fun _ => true) f hl fun σ vs H Q R kq => h σ vs H Q R fun J T tv xs ok C1 H1 ⟨a, b, c, d⟩ => kq J T tv xs ok C1 H1 ⟨a, b, fun x hx S' acc => wt_yes ⟨rfl, rfl⟩, fun x hx _ => c x hx, by rw [List.filter_eq_self.mpr fun _ _ => rfl]; exact d⟩
theorem lv_map {α : Type} {as : List α} {f : α → D} : LV C (.dat (.list (as.map f))) (as.map fun x => .dat (f x)) := by
  have h : LV C (.dat (.list (as.map f))) ((as.map f).map .dat) := .dat
  rw [List.map_map] at h
  exact h
theorem wc_allM {α : Type} {as : List α} {f : α → Bool} (q : k (.dat (.bool (as.all f))) C) : Wc B (rAll B.K) [.dat (.list (as.map fun x => .bool (f x)))] g S C k := by
  refine wc_all (bs := as.map f) ?_ ?_
  · rw [List.map_map, List.map_map]; exact lv_map
  · rw [List.all_map]; exact q
theorem wc_anyM {α : Type} {as : List α} {f : α → Bool} (q : k (.dat (.bool (as.any f))) C) : Wc B (rAny B.K) [.dat (.list (as.map fun x => .bool (f x)))] g S C k := by
  refine wc_any (bs := as.map f) ?_ ?_
  · rw [List.map_map, List.map_map]; exact lv_map
  · rw [List.any_map]; exact q
theorem wc_sumM {α : Type} {as : List α} {f : α → Int} (q : k (.dat (.int (as.map f).sum)) C) : Wc B (rSum B.K) [.dat (.list (as.map fun x => .int (f x)))] g S C k := by
  refine wc_sum (bs := as.map f) ?_ q
  rw [List.map_map, List.map_map]; exact lv_map
theorem dec_and {p q : Prop} [Decidable p] [Decidable q] (h : p ∧ q) : (decide p && decide q) = true := by
  rw [decide_eq_true h.1, decide_eq_true h.2]; rfl
theorem cutL_len {α : Type} (xs : List α) (lo hi : Option Int) : (cutL xs lo hi).length ≤ xs.length := by
  unfold cutL
  rw [List.length_take, List.length_drop]
  omega
/-- for over a list of data -/
theorem ws_forD {kk : Ks} {tl : TE} {tg : TG} {tbody : TS} {α : Type} (as : List α) (e : α → D) (h : We B tl g S C fun s C1 => s = .dat (.list (as.map e)) ∧ ∃ I : Nat → Gs → Cs → Prop, I 0 g C1 ∧
      (∀ (i : Nat) a g' C', as[i]? = some a → I i g' C' → Wg B tg (.dat (e a)) g' (s :: S) C' fun g2 C2 => Ws B tbody g2 (s :: S) C2 (turnK B (s :: S) kk (I (i + 1)))) ∧ (∀ g' C', I as.length g' C' → kk.nx g' C')) :
    Ws B (tFor (iList B.K tl) tg tbody) g S C kk := ws_forL (h.imp fun s C1 ⟨es, I, i0, hs, hd⟩ => by
  subst es
  refine ⟨(as.map e).map .dat, I, i0, fun _ _ _ _ _ => .dat, fun i x g' C' hx q => ?_, fun g' C' q => hd g' C' (by simpa using q)⟩
  rw [List.map_map, List.getElem?_map] at hx
  cases ea : as[i]? with
  | none => rw [ea] at hx; cases hx
  | some a =>
    rw [ea] at hx
    cases hx
    exact hs i a g' C' ea q)
theorem ws_forED {kk : Ks} {t1 t2 : TG} {tbody : TS} {α : Type} (as : List α) (e : α → D) (h : Wa B t' g S C fun ss C1 => ss = [.dat (.list (as.map e))] ∧ ∃ I : Nat → Gs → Cs → Prop, I 0 g C1 ∧
      (∀ (i : Nat) a g' C', as[i]? = some a → I i g' C' → Wg B t1 (.dat (.int i)) g' (.dat (e a) :: .dat (.list (as.map e)) :: S) C' fun g2 C2 => Wg B t2 (.dat (e a)) g2 (.dat (.list (as.map e)) :: S) C2 fun g3 C3 => Ws B tbody g3 (.dat (.list (as.map e)) :: S) C3 (turnK B (.dat (.list (as.map e)) :: S) kk (I (i + 1)))) ∧ (∀ g' C', I as.length g' C' → kk.nx g' C')) :
    Ws B (tFor (iEnum B.K t') (gTup B.K 2 (gCons t1 (gCons t2 gNil))) tbody) g S C kk := ws_forE fun σ vs H Q R kq => h σ vs H Q R fun ss C1 us H1 ⟨es, I, i0, hs, hd⟩ => by
  subst es
  refine kq _ _ _ _ ⟨_, (as.map e).map .dat, I, rfl, i0, fun _ _ _ _ _ => .dat, fun i x g' C' hx q => ?_, fun g' C' q => hd g' C' (by simpa using q)⟩
  rw [List.map_map, List.getElem?_map] at hx
  cases ea : as[i]? with
  | none => rw [ea] at hx; cases hx
  | some a =>
    rw [ea] at hx
    cases hx
    exact hs i a g' C' ea q
theorem take_snoc {α : Type} {as : List α} {i : Nat} {a : α} (h : as[i]? = some a) : as.take (i + 1) = as.take i ++ [a] := by rw [List.take_succ, h]; rfl
/-- x if c else y, ints -/
theorem we_ifI (h : Wt B tt g S C fun b C1 => ∃ i1 i2, (b = true → We B ta g S C1 fun y C2 => C2 = C1 ∧ y = .dat (.int i1)) ∧ (b = false → We B tb g S C1 fun y C2 => C2 = C1 ∧ y = .dat (.int i2)) ∧ k (.dat (.int (if b then i1 else i2))) C1) : We B (tIf tt ta tb) g S C k :=
  we_ifJ (h.imp fun b C1 ⟨i1, i2, h1, h2, q⟩ => ⟨.int i1, .int i2, h1, h2, by cases b <;> exact q⟩)
theorem getD_mem {ns : List Int} {i : Int} (h0 : 0 ≤ i) (h1 : i < ns.length) : ns.getD i.toNat 0 ∈ ns := by
  rw [List.getD_eq_getElem?_getD, List.getElem?_eq_getElem (by omega)]
  exact List.getElem_mem _
theorem wr_ixG {ds : List D} {ns : List Int} {i : Int} (e : IL ds ns) (h0 : 0 ≤ i) (h1 : i < ns.length) (q : ∀ v, v ∈ ns → k (.dat (.int v)) C) : Wr B (rIx B.K) (.dat (.list ds)) (.dat (.int i)) g S C k := wr_ixI e h0 h1 (q _ (getD_mem h0 h1))
inductive IS : List D → List Str → Prop
  | nil : IS [] []
  | cons {i : Str} {ss : List D} {ds : List Str} : IS ss ds → IS (.str i :: ss) (i :: ds)
theorem IS.map {ss : List D} {ds : List Str} (h : IS ss ds) : ss = ds.map .str := by
  induction h with
  | nil => rfl
  | cons _ ih => rw [ih]; rfl
theorem wr_ixGS {ds : List D} {ns : List Str} {i : Int} (e : IS ds ns) (h0 : 0 ≤ i) (h1 : i < ns.length) (q : ∀ v, v ∈ ns → k (.dat (.str v)) C) : Wr B (rIx B.K) (.dat (.list ds)) (.dat (.int i)) g S C k := by
  rw [e.map]
  refine wr_ixl .dat (atI_map _ (atI_map _ (atI_getD (⟨#[]⟩ : Str) h0 h1))) (q _ ?_)
  rw [List.getD_eq_getElem?_getD, List.getElem?_eq_getElem (by omega)]
  exact List.getElem_mem _
/-- if c: x = e, x an int ahead -/
theorem ws_ifA {kk : Ks} {i : Nat} (h : Wt B tt g S C fun b C1 => ∃ i1 i0, g[i]? = some (some (.dat (.int i0))) ∧ (b = true → We B te g S C1 fun y C2 => C2 = C1 ∧ y = .dat (.int i1)) ∧ kk.nx (g.set i (some (.dat (.int (if b then i1 else i0))))) C1) :
    Ws B (tIfS tt (tAsg te (gName i)) tNext) g S C kk := ws_if (h.imp fun b C1 ⟨i1, i0, h0, h1, q⟩ => by
  refine ⟨fun hb => ?_, fun hb => ?_⟩
  · subst hb
    refine ws_asg ((h1 rfl).imp fun y C2 ⟨e1, e2⟩ => ?_)
    subst e1 e2
    exact q
  · subst hb
    refine ws_next ?_
    have e : g.set i (some (.dat (.int (if false = true then i1 else i0)))) = g := by
      refine List.ext_getElem? fun m => ?_
      by_cases hm : i = m
      · subst hm
        rw [List.getElem?_set_self (List.getElem?_eq_some_iff.mp h0).1, h0]
        rfl
      · rw [List.getElem?_set_ne hm]
    rw [e] at q
    exact q)
/-! ## forgetting -/
inductive Sub : Gs → Gs → Prop
  | nil : Sub [] []
  | keep {s : SV} {a b : Gs} (hc : s.cl = true) : Sub a b → Sub (some s :: a) (some s :: b)
  | drop {o : Option SV} {a b : Gs} : Sub a b → Sub (none :: a) (o :: b)
theorem Sub.len {a b : Gs} (h : Sub a b) : a.length = b.length := by
  induction h with
  | nil => rfl
  | keep _ _ ih => rw [List.length_cons, List.length_cons, ih]
  | drop _ ih => rw [List.length_cons, List.length_cons, ih]
theorem Sub.at {a b : Gs} (h : Sub a b) : ∀ {i : Nat} {s : SV}, a[i]? = some (some s) → b[i]? = some (some s) ∧ s.cl = true := by
  induction h with
  | nil => intro i s e; simp at e
  | keep hc _ ih =>
    intro i s e
    cases i with
    | zero =>
      simp at e
      subst e
      exact ⟨rfl, hc⟩
    | succ i => exact ih (by simpa using e)
  | drop _ ih =>
    intro i s e
    cases i with
    | zero => simp at e
    | succ i => exact ih (by simpa using e)
/-- the dead cells and slots are forgotten -/
theorem nx_gc {P : Gs → Cs → Prop} (g2 : Gs) (hs : Sub g2 g) (hS : S.all SV.cl = true) (hn : B.n0 = 0) (h : P g2 []) : Nx B S P g C := fun σ vs H R => by
  obtain ⟨F, ρ, R⟩ := R
  refine ⟨g2, [], h, F, ρ, ⟨R.le, R.sub, R.keep, R.there, R.frz, R.rho, by rw [hn]; exact Nat.zero_le _, fun i j c d e => by simp at e, fun i c e => by simp at e, by rw [R.len, hs.len], fun i s e => ?_, sis_cl hS R.stk⟩⟩
  obtain ⟨e2, hc⟩ := hs.at e
  obtain ⟨v, q, r⟩ := R.slot i s e2
  exact ⟨v, q, SIs.cl hc r⟩
theorem eqv_nil (xs : List D) : PyData.eqv (.list xs) (.list []) = xs.isEmpty := by
  rw [PyData.eqv]
  cases xs <;> rw [PyData.eqvAll] <;> rfl
end
end Sy

set_option Elab.async false
set_option linter.all false
set_option maxRecDepth 100000
set_option maxHeartbeats 1000000
namespace Sy
open PySem PySem.Spec PyProof.Rows L2
/-! ## draws -/
abbrev nums (ns : List Int) : D := .list (ns.map PyData.int)
/-- drawn numbers -/
structure Dr (ds : List Int) : Prop where
  lt : ∀ d ∈ ds, 0 ≤ d ∧ d < 65536
  len : ds.length ≤ 4000
def cell (ds : List Int) (k : Int) : Int := if ds.length > 0 then ds.getD (k % (ds.length : Int)).toNat 0 else 0
def mix (ds : List Int) (k many : Int) : Int := if k < (ds.length : Int) then cell ds k % many else ((cell ds k * 7919 + k * 104729) / 3) % many
theorem mix_lt {ds : List Int} {k many : Int} (h : 0 < many) : 0 ≤ mix ds k many ∧ mix ds k many < many := by
  unfold mix
  split
  · exact ⟨Int.emod_nonneg _ (by omega), Int.emod_lt_of_pos _ h⟩
  · exact ⟨Int.emod_nonneg _ (by omega), Int.emod_lt_of_pos _ h⟩
def c_l_law_draws : Cp where
  ι := List Int
  pre ns := ns.length ≤ 63
  args ns := [.scr ns]
  post _ d := ∃ ds, d = nums ds ∧ Dr ds
def c_l_law_mix : Cp where
  ι := List Int × Int × Int
  pre i := Dr i.1 ∧ 0 ≤ i.2.1 ∧ i.2.1 < 1000000 ∧ 0 < i.2.2
  args i := [.dat (nums i.1), .dat (.int i.2.1), .dat (.int i.2.2)]
  post i d := d = .int (mix i.1 i.2.1 i.2.2)
abbrev N_l_law_draws : List Str := ["script", "draws", "k", "rest", "turn", "stirred"]
def t_l_law_draws (K : PySem.W.Frag) (E : XK) : TS :=
  (tSeq (tAsg (tLst tNil) (gName 1))
  (tSeq (tFor (iRng1 (tCons (tCB rMn2 (tCons (tC (.int 63)) (tCons (tCB (rLn K) (tCons (tVar 0) tNil)) tNil))) tNil)) (gName 2)
  (tSeq (tAsg (tCB rAb (tCons (tOp (rIx K) (tVar 0) (tVar 2)) tNil)) (gName 3))
  (tIfS (tTest (tOp rGe (tVar 3) (tOp rPw (tC (.int 10)) (tC (.int 18)))))
  (tFor (iRng1 (tCons (tC (.int 60)) tNil)) (gName 4)
  (tIfS (tTest (tOp rGt (tVar 3) (tC (.int 0))))
  (tSeq (tDrop (tBM K "list" rAppend (tVar 1) (tCons (tOp rMd (tCB rIn1 (tCons (tVar 3) tNil)) (tC (.int 65536))) tNil)))
  (tAsg (tOp rDv (tVar 3) (tC (.int 65536))) (gName 3)))
  tNext))
  (tSeq (tAsg (tOp rMd (tCB rIn1 (tCons (tOp (rPlus K) (tOp rTimes (tVar 3) (tC (.int 48271))) (tOp rTimes (tOp (rPlus K) (tVar 2) (tC (.int 1))) (tC (.int 69621)))) tNil)) (tC (.int 2147483647))) (gName 5))
  (tSeq (tAsg (tOp rMd (tCB rIn1 (tCons (tOp (rPlus K) (tOp (rPlus K) (tOp rTimes (tVar 5) (tC (.int 16807))) (tOp rTimes (tC (.int 11)) (tVar 2))) (tC (.int 5))) tNil)) (tC (.int 2147483629))) (gName 5))
  (tSeq (tDrop (tBM K "list" rAppend (tVar 1) (tCons (tOp rMd (tCB rIn1 (tCons (tVar 5) tNil)) (tC (.int 65536))) tNil)))
  (tDrop (tBM K "list" rAppend (tVar 1) (tCons (tOp rMd (tCB rIn1 (tCons (tOp rDv (tVar 5) (tC (.int 65536))) tNil)) (tC (.int 32768))) tNil)))))))))
  (tRet (tVar 1))))
abbrev N_l_law_mix : List Str := ["draws", "k", "many", "cell"]
def t_l_law_mix (K : PySem.W.Frag) (E : XK) : TS :=
  (tSeq (tAsg (tC (.int 0)) (gName 3))
  (tSeq (tIfS (tTest (tOp rGt (tCB (rLn K) (tCons (tVar 0) tNil)) (tC (.int 0))))
  (tAsg (tOp (rIx K) (tVar 0) (tOp rMd (tCB rIn1 (tCons (tVar 1) tNil)) (tCB (rLn K) (tCons (tVar 0) tNil)))) (gName 3))
  tNext)
  (tSeq (tIfS (tTest (tOp rLt (tVar 1) (tCB (rLn K) (tCons (tVar 0) tNil))))
  (tRet (tOp rMd (tCB rIn1 (tCons (tVar 3) tNil)) (tVar 2)))
  tNext)
  (tRet (tOp rMd (tCB rIn1 (tCons (tOp rDv (tCB rIn1 (tCons (tOp (rPlus K) (tOp rTimes (tVar 3) (tC (.int 7919))) (tOp rTimes (tVar 1) (tC (.int 104729)))) tNil)) (tC (.int 3))) tNil)) (tVar 2))))))
local macro_rules | `(tactic| walk_at "s1") => `(tactic| first
  | ((with_reducible refine' we_var ?hv ?_); (case hv => rfl))
  | with_reducible refine we_int ?_ | with_reducible refine we_op ?_ | with_reducible refine we_cb ?_ | with_reducible refine wa_cons ?_ | with_reducible refine wa_nil ?_
  | with_reducible refine wr_plus ?_ | with_reducible refine wr_sb ?_ | ((with_reducible refine wr_md ?hc ?_); (case hc => decide)) | ((with_reducible refine wr_dv ?hc ?_); (case hc => exact ⟨by decide, by decide⟩))
  | ((with_reducible refine wr_times ?hc ?_); (case hc => first | exact cmul_r (by decide) (by decide) | exact cmul_l (by decide) (by decide)))
  | ((with_reducible refine wr_pw ?hc ?_); (case hc => exact ⟨by decide, by decide, by decide⟩))
  | with_reducible refine wr_lt ?_ | with_reducible refine wr_le ?_ | with_reducible refine wr_gt ?_ | with_reducible refine wr_ge ?_ | with_reducible refine wr_eqI ?_ | with_reducible refine wr_neI ?_ | with_reducible refine wr_eqS ?_ | with_reducible refine wr_neS ?_
  | with_reducible refine we_str ?_ | with_reducible refine we_bl ?_ | with_reducible refine we_non ?_
  | with_reducible refine wc_int ?_ | with_reducible refine wc_intB ?_ | with_reducible refine wc_abs ?_ | with_reducible refine wc_min2 ?_ | with_reducible refine wc_max2 ?_ | with_reducible refine wc_lenScr ?_
  | ((with_reducible refine' wc_len (.cell ?hl) ?_); (case hl => rfl)) | with_reducible refine wc_len .dat ?_ | with_reducible refine wc_lenT ?_
  | with_reducible refine wt_test ?_ | with_reducible refine wt_B ?_ | with_reducible refine wt_not ?_
  | with_reducible refine ws_seq ?_ | with_reducible refine ws_asg ?_ | with_reducible refine ws_ret ?_ | with_reducible refine ws_if ?_ | with_reducible refine ws_par ?_ | with_reducible refine ws_par3 ?_
  | with_reducible refine we_chLL ?_ | with_reducible refine we_chLE ?_ | with_reducible refine we_ng ?_ | with_reducible refine we_notV ?_
  | with_reducible refine ⟨_, rfl, ?_⟩ | with_reducible refine ⟨_, _, rfl, ?_⟩ | with_reducible refine ⟨_, _, _, rfl, ?_⟩ | with_reducible refine ⟨_, _, _, rfl, rfl, ?_⟩)
local macro_rules | `(tactic| walk_at "sx") => `(tactic| repeat (walk_at "s1"))
theorem pure_mix {K : PySem.W.Frag} (vs : List V) (H : Hp) (Q : VK) (E : XK) (h : c_l_law_mix.sp K vs H Q E) : t_l_law_mix K E { nx := fun _ H' => Q .non H', rt := Q } (L2.start N_l_law_mix vs) H := by
  refine Cp.body (N := N_l_law_mix) h fun B i e hp hX hB => ?_
  subst e
  obtain ⟨ds, k, many⟩ := i
  have h0 : 0 ≤ k := hp.2.1
  have h2 : 0 < many := hp.2.2.2
  have hl : ds.length ≤ 4000 := hp.1.len
  unfold t_l_law_mix
  show Ws B _ [some (.dat (nums ds)), some (.dat (.int k)), some (.dat (.int many)), none] [] [] _
  walk_at "sx"
  rw [List.length_map, List.length_map]
  refine ⟨fun hc => ?_, fun hc => ?_⟩
  · have hc := of_decide_eq_true hc
    walk_at "sx"
    rw [List.length_map, List.length_map]
    refine wr_md hc ?_
    have hm := Int.emod_nonneg k (b := (ds.length : Int)) (by omega)
    have hm2 := Int.emod_lt_of_pos k hc
    refine wr_ixl .dat (atI_map _ (atI_map _ (atI_getD 0 hm hm2))) ?_
    have ec : cell ds k = ds.getD (k % (ds.length : Int)).toNat 0 := if_pos (by omega)
    walk_at "sx"
    rw [List.length_map, List.length_map]
    refine ⟨fun h3 => ?_, fun h3 => ?_⟩
    · walk_at "sx"
      refine wr_md h2 (rx_here ⟨_, rfl, ?_⟩)
      show PyData.int _ = PyData.int (mix ds k many)
      rw [mix, if_pos (of_decide_eq_true h3), ec]
    · walk_at "sx"
      refine ws_next ?_
      walk_at "sx"
      refine wr_md h2 (rx_here ⟨_, rfl, ?_⟩)
      show PyData.int _ = PyData.int (mix ds k many)
      rw [mix, if_neg (of_decide_eq_false h3), ec]
  · have hc := of_decide_eq_false hc
    have ec : cell ds k = 0 := if_neg (by omega)
    refine ws_next ?_
    walk_at "sx"
    rw [List.length_map, List.length_map]
    refine ⟨fun h3 => ?_, fun h3 => ?_⟩
    · exact absurd (of_decide_eq_true h3) (by omega)
    · refine ws_next ?_
      walk_at "sx"
      refine wr_md h2 (rx_here ⟨_, rfl, ?_⟩)
      show PyData.int _ = PyData.int (mix ds k many)
      rw [mix, if_neg (of_decide_eq_false h3), ec]
theorem map_snoc (ds : List Int) (z : Int) : (ds.map PyData.int).map SV.dat ++ [.dat (.int z)] = ((ds ++ [z]).map PyData.int).map SV.dat := by simp
theorem mem_snoc {ds : List Int} {z : Int} (h : ∀ d ∈ ds, 0 ≤ d ∧ d < 65536) (hz : 0 ≤ z ∧ z < 65536) : ∀ d ∈ ds ++ [z], 0 ≤ d ∧ d < 65536 := fun d hd => by
  rcases List.mem_append.mp hd with h1 | h1
  · exact h d h1
  · rw [List.mem_singleton.mp h1]; exact hz
theorem line_ge : 100000 ≤ sizeLine := by rw [sizeLine_eq]; decide
theorem pure_draws {K : PySem.W.Frag} (vs : List V) (H : Hp) (Q : VK) (E : XK) (h : c_l_law_draws.sp K vs H Q E) : t_l_law_draws K E { nx := fun _ H' => Q .non H', rt := Q } (L2.start N_l_law_draws vs) H := by
  refine Cp.body (N := N_l_law_draws) h fun B (ns : List Int) e hp hX hB => ?_
  subst e
  have hp : ns.length ≤ 63 := hp
  have LG := line_ge
  unfold t_l_law_draws
  show Ws B _ [some (.scr ns), none, none, none, none, none] [] [] _
  walk_at "sx"
  refine we_lstC (wa_nil ⟨Nat.zero_le _, ?_⟩)
  walk_at "sx"
  refine ws_for1 ?_
  walk_at "sx"
  refine ⟨⟨by split <;> omega, by split <;> omega⟩, fun (i : Nat) (g : Gs) (C : Cs) => ∃ (ds : List Int), ∃ o1 o2 o3 o4, g = [some (.scr ns), some (.ref 0), o1, o2, o3, o4] ∧ C = [some (.lst ((ds.map PyData.int).map .dat))] ∧ (∀ d ∈ ds, 0 ≤ d ∧ d < 65536) ∧ ds.length ≤ 60 * i, ?_, ?_, ?_⟩
  · exact ⟨[], _, _, _, _, rfl, rfl, fun d h => (nomatch h), Nat.zero_le _⟩
  · rintro i g' C' hi ⟨ds, o1, o2, o3, o4, rfl, rfl, hd, hl⟩
    have hi63 : (i : Int) < 63 ∧ (i : Int) < ns.length := by split at hi <;> omega
    walk_at "sx"
    refine wr_ixscr (atI_getD 0 (by omega) (by omega)) ?_
    walk_at "sx"
    generalize ha : (if ns.getD (i : Int).toNat 0 < 0 then -ns.getD (i : Int).toNat 0 else ns.getD (i : Int).toNat 0) = r
    have r0 : 0 ≤ r := by rw [← ha]; split <;> omega
    refine ⟨fun hc => ?_, fun hc => ?_⟩
    · refine ws_for1 ?_
      walk_at "sx"
      refine ⟨⟨by decide, by decide⟩, fun (j : Nat) (g : Gs) (C : Cs) => ∃ (ds : List Int) (r : Int), ∃ o2 o3 o4, g = [some (.scr ns), some (.ref 0), o2, some (.dat (.int r)), o3, o4] ∧ C = [some (.lst ((ds.map PyData.int).map .dat))] ∧ (∀ d ∈ ds, 0 ≤ d ∧ d < 65536) ∧ 0 ≤ r ∧ ds.length ≤ 60 * i + j, ?_, ?_, ?_⟩
      · exact ⟨ds, r, _, _, _, rfl, rfl, hd, r0, by omega⟩
      · rintro j g' C' hj ⟨ds, r, o2, o3, o4, rfl, rfl, hd, r0, hl⟩
        walk_at "sx"
        refine ⟨fun hc => ?_, fun hc => ?_⟩
        · walk_at "sx"
          refine ws_app rfl ⟨_, rfl⟩ ?_
          walk_at "sx"
          refine ⟨by simp only [List.length_map]; omega, ?_⟩
          rw [map_snoc]
          walk_at "sx"
          exact nx_here ⟨_, _, _, _, _, rfl, rfl, mem_snoc hd (by omega), by omega, by rw [List.length_append, List.length_singleton]; omega⟩
        · exact ws_next (nx_here ⟨ds, r, _, _, _, rfl, rfl, hd, r0, by omega⟩)
      · rintro g' C' ⟨ds, r, o2, o3, o4, rfl, rfl, hd, r0, hl⟩
        have hl : ds.length ≤ 60 * i + 60 := hl
        exact nx_here ⟨ds, _, _, _, _, rfl, rfl, hd, by omega⟩
    · walk_at "sx"
      refine ws_app rfl ⟨_, rfl⟩ ?_
      walk_at "sx"
      refine ⟨by simp only [List.length_map]; omega, ?_⟩
      rw [map_snoc]
      walk_at "sx"
      refine ws_app rfl ⟨_, rfl⟩ ?_
      walk_at "sx"
      refine ⟨by simp only [List.length_map, List.length_append, List.length_singleton]; omega, ?_⟩
      rw [map_snoc]
      exact nx_here ⟨_, _, _, _, _, rfl, rfl, mem_snoc (mem_snoc hd (by omega)) (by omega), by simp only [List.length_append, List.length_singleton]; omega⟩
  · rintro g' C' ⟨ds, o1, o2, o3, o4, rfl, rfl, hd, hl⟩
    walk_at "sx"
    refine rx_frz (c := .lst _) rfl (fzn_lst _) (by rw [hB]; exact Nat.zero_le _) ⟨_, rfl, ds, rfl, hd, ?_⟩
    split at hl <;> omega
theorem wk_mix {ex : Addr → Int → Prop} {ds : List Int} {i m : Int} {k : SV → Cs → Prop} {C : Cs} (h1 : Dr ds) (h2 : 0 ≤ i ∧ i < 1000000 ∧ 0 < m) (q : k (.dat (.int (mix ds i m))) C) : Wk c_l_law_mix ex [.dat (nums ds), .dat (.int i), .dat (.int m)] k C :=
  wk_of (c := c_l_law_mix) (ds, i, m) _ rfl ⟨h1, h2.1, h2.2.1, h2.2.2⟩ (fun _ h => h) (fun _ _ h => h) q
theorem wk_mixG {ex : Addr → Int → Prop} {ds : List Int} {i m : Int} {k : SV → Cs → Prop} {C : Cs} (h1 : Dr ds) (h2 : 0 ≤ i ∧ i < 1000000 ∧ 0 < m) (q : ∀ r, 0 ≤ r ∧ r < m → k (.dat (.int r)) C) : Wk c_l_law_mix ex [.dat (nums ds), .dat (.int i), .dat (.int m)] k C :=
  wk_mix h1 h2 (q _ (mix_lt h2.2.2))
theorem wk_draws {ex : Addr → Int → Prop} {ns : List Int} {k : SV → Cs → Prop} {C : Cs} (h : ns.length ≤ 63) (q : ∀ ds, Dr ds → k (.dat (nums ds)) C) : Wk c_l_law_draws ex [.scr ns] k C :=
  ⟨ns, rfl, rfl, h, fun d ⟨ds, e, z⟩ => by rw [e]; exact q ds z, fun _ _ h => absurd h id⟩
end Sy

set_option Elab.async false
set_option linter.all false
set_option maxRecDepth 100000
set_option maxHeartbeats 1000000
namespace K04
open PySem PySem.Spec PyProof.Rows L2 Sy
def top (i : Nat) : Stmt := PySem.Challenge.pw_caughtup_k04_whole_dots_of_any_movers.main.body.getD i (.Pass ⟨0, 0, 0, 0⟩)
abbrev s_BoxErrorU_initU : Stmt := inClass (top 1) 0
abbrev s_check_sheet : Stmt := top 12
abbrev s_bit : Stmt := top 13
abbrev s_pixel_in : Stmt := top 14
abbrev s_pixel : Stmt := top 15
abbrev s_ground_in : Stmt := top 16
abbrev s_ground_at : Stmt := top 17
abbrev s_movers_in : Stmt := top 18
abbrev s_movers_at : Stmt := top 19
abbrev s_mover_pixel : Stmt := top 20
abbrev s_showing : Stmt := top 21
abbrev s_dot_in : Stmt := top 22
abbrev s_dot_at : Stmt := top 23
abbrev s_tile_dots : Stmt := top 27
abbrev s_ground_dots : Stmt := top 28
abbrev s_mover_dots : Stmt := top 29
abbrev s_dots_of : Stmt := top 30
abbrev s_l_law_draws : Stmt := top 32
abbrev s_l_law_mix : Stmt := top 33
abbrev s_l_law_bit : Stmt := top 34
abbrev s_l_law_pixel : Stmt := top 35
abbrev s_l_law_ground : Stmt := top 36
abbrev s_l_law_dot : Stmt := top 37
abbrev s_l_law_movers : Stmt := top 38
abbrev s_law : Stmt := top 39
structure Tx (K : PySem.W.Frag) (mg : Str → Option Value) : Prop where
  g_check_sheet : mg "check_sheet" = some (.ref (He.ga K "check_sheet"))
  g_bit : mg "bit" = some (.ref (He.ga K "bit"))
  g_pixel_in : mg "pixel_in" = some (.ref (He.ga K "pixel_in"))
  g_pixel : mg "pixel" = some (.ref (He.ga K "pixel"))
  g_ground_in : mg "ground_in" = some (.ref (He.ga K "ground_in"))
  g_ground_at : mg "ground_at" = some (.ref (He.ga K "ground_at"))
  g_movers_in : mg "movers_in" = some (.ref (He.ga K "movers_in"))
  g_movers_at : mg "movers_at" = some (.ref (He.ga K "movers_at"))
  g_mover_pixel : mg "mover_pixel" = some (.ref (He.ga K "mover_pixel"))
  g_showing : mg "showing" = some (.ref (He.ga K "showing"))
  g_dot_in : mg "dot_in" = some (.ref (He.ga K "dot_in"))
  g_dot_at : mg "dot_at" = some (.ref (He.ga K "dot_at"))
  g_tile_dots : mg "tile_dots" = some (.ref (He.ga K "tile_dots"))
  g_ground_dots : mg "ground_dots" = some (.ref (He.ga K "ground_dots"))
  g_mover_dots : mg "mover_dots" = some (.ref (He.ga K "mover_dots"))
  g_dots_of : mg "dots_of" = some (.ref (He.ga K "dots_of"))
  g__law_draws : mg "_law_draws" = some (.ref (He.ga K "_law_draws"))
  g__law_mix : mg "_law_mix" = some (.ref (He.ga K "_law_mix"))
  g__law_bit : mg "_law_bit" = some (.ref (He.ga K "_law_bit"))
  g__law_pixel : mg "_law_pixel" = some (.ref (He.ga K "_law_pixel"))
  g__law_ground : mg "_law_ground" = some (.ref (He.ga K "_law_ground"))
  g__law_dot : mg "_law_dot" = some (.ref (He.ga K "_law_dot"))
  g__law_movers : mg "_law_movers" = some (.ref (He.ga K "_law_movers"))
  g_law : mg "law" = some (.ref (He.ga K "law"))
  f_abs : mg "abs" = none
  f_all : mg "all" = none
  f_enumerate : mg "enumerate" = none
  f_int : mg "int" = none
  f_len : mg "len" = none
  f_list : mg "list" = none
  f_max : mg "max" = none
  f_min : mg "min" = none
  f_range : mg "range" = none
  f_super : mg "super" = none
  f_tuple : mg "tuple" = none
  f_ValueError : mg "ValueError" = none
  i_SHEET : ∃ t, mg "SHEET" = some (.int 1024 t)
  i_MOVERS : ∃ t, mg "MOVERS" = some (.int 64 t)
  i_COLOURS : ∃ t, mg "COLOURS" = some (.int 96 t)
  i_MOVER_COLOURS : ∃ t, mg "MOVER_COLOURS" = some (.int 112 t)
  i_TILES : ∃ t, mg "TILES" = some (.int 128 t)
  g_POWERS : mg "POWERS" = some (.ref (He.ga K "POWERS"))
  i_MOST_SHOWN : ∃ t, mg "MOST_SHOWN" = some (.int 4 t)
  i_LINES : ∃ t, mg "LINES" = some (.int 24 t)
  i_TILE : ∃ t, mg "TILE" = some (.int 8 t)
  i_MAP : ∃ t, mg "MAP" = some (.int 64 t)
  g_BoxError : mg "BoxError" = some (.ref (He.ga K "BoxError"))
  g_BadSheet : mg "BadSheet" = some (.ref (He.ga K "BadSheet"))
  t_POWERS : ∀ H, SqT K H (He.ga K "POWERS") [(.int 1), (.int 2), (.int 4), (.int 8), (.int 16), (.int 32), (.int 64), (.int 128)]
end K04

set_option Elab.async false
set_option linter.all false
set_option maxRecDepth 100000
set_option maxHeartbeats 1000000
namespace K04
open PySem PySem.Spec PyProof.Rows L2 Sy
/-! ## pictures -/
def bitI (n k : Int) : Int := n / 2 ^ k.toNat % 2
def gt (s : List Int) (i : Int) : Int := s.getD i.toNat 0
structure Sh (s : List Int) : Prop where
  len : s.length = 1024
  byte : ∀ b ∈ s, 0 ≤ b ∧ b < 256
def pixI (s : List Int) (tile row col : Int) : Int := bitI (gt s (128 + 16 * tile + 2 * row)) (7 - col) + 2 * bitI (gt s (128 + 16 * tile + 2 * row + 1)) (7 - col)
structure St4 where
  (r d t o : Int)
def St4.D (x : St4) : D := .tuple [.int x.r, .int x.d, .int x.t, .int x.o]
def gndI (s : List Int) (x : St4) (col line : Int) : Int × Int :=
  if bitI x.o 0 = 0 then (0, 0) else
    let a := (col + x.r) % 64
    let b := (line + x.d) % 64
    let y := gt s (b / 8 * 8 + a / 8)
    (pixI s (y % 32) (b % 8) (a % 8), y / 32 % 4)
def prD (p : Int × Int) : D := .tuple [.int p.1, .int p.2]
structure Mv where
  (own y tile looks x : Int)
def Mv.D (m : Mv) : D := .tuple [.int m.own, .int m.y, .int m.tile, .int m.looks, .int m.x]
def mpI (s : List Int) (m : Mv) (col line : Int) : Int :=
  pixI s (m.tile % 32) (if bitI m.looks 7 = 1 then 7 - (line - m.y) else line - m.y) (if bitI m.looks 6 = 1 then 7 - (col - m.x) else col - m.x)
def hitB (s : List Int) (col line : Int) (m : Mv) : Bool := decide (m.x ≤ col) && decide (col < m.x + 8) && !decide (mpI s m col line = 0)
def shI (s : List Int) (ms : List Mv) (col line : Int) : Option Mv := ms.find? (hitB s col line)
def shD (s : List Int) (col line : Int) : Option Mv → D
  | none => .none
  | some m => .tuple [m.D, .int (mpI s m col line)]
def colI (s : List Int) (g : Int × Int) (o : Option Mv) (col line : Int) : Int := match o with
  | none => 96 + (if g.1 = 0 then 0 else 4 * g.2 + g.1)
  | some m => if bitI m.looks 5 = 0 ∨ g.1 = 0 then 112 + 4 * (m.looks % 4) + mpI s m col line else 96 + (if g.1 = 0 then 0 else 4 * g.2 + g.1)
def hitI (g : Int × Int) (o : Option Mv) : Bool := match o with
  | none => false
  | some m => decide (m.own = 0) && !decide (g.1 = 0)
def dotI (s : List Int) (x : St4) (ms : List Mv) (line col : Int) : Int × Bool :=
  (gt s (colI s (gndI s x col line) (shI s ms col line) col line) % 64, hitI (gndI s x col line) (shI s ms col line))
def dotD (p : Int × Bool) : D := .tuple [.int p.1, .bool p.2]
/-- the movers that a line may show -/
def Mvs (ms : List Mv) (line : Int) : Prop := ms.length ≤ 8 ∧ ∀ m ∈ ms, (m.y ≤ line ∧ line < m.y + 8) ∧ (0 ≤ m.x ∧ m.x < 1000)
def msD (ms : List Mv) : D := .list (ms.map Mv.D)
def rowsI (s : List Int) (line : Int) : List D :=
  ((List.range 8).filter fun (k : Nat) => decide (gt s (64 + 4 * (k : Int)) ≤ line) && decide (line < gt s (64 + 4 * (k : Int)) + 8)).map fun (k : Nat) => .tuple (.int (k : Int) :: cutL (s.map PyData.int) (some (64 + 4 * (k : Int))) (some (64 + 4 * (k : Int) + 4)))
def mvsD (s : List Int) (x : St4) (line : Int) : D :=
  if bitI x.o 1 = 0 ∨ 24 ≤ line then .tuple [.list [], .bool false] else .tuple [.list (cutL (rowsI s line) none (some 4)), .bool (decide (4 < (rowsI s line).length))]
def c_bit : Cp where
  ι := Int × Int
  pre i := 0 ≤ i.2 ∧ i.2 < 8
  args i := [.dat (.int i.1), .dat (.int i.2)]
  post i d := d = .int (bitI i.1 i.2)
def c_l_law_bit : Cp where
  ι := Int × Int
  pre i := 0 ≤ i.2 ∧ i.2 < 8
  args i := [.dat (.int i.1), .dat (.int i.2)]
  post i d := d = .int (bitI i.1 i.2)
structure Px where
  (s : List Int) (t r c : Int)
def Px.ok (i : Px) : Prop := Sh i.s ∧ (0 ≤ i.t ∧ i.t < 32) ∧ (0 ≤ i.r ∧ i.r < 8) ∧ (0 ≤ i.c ∧ i.c < 8)
def Px.args (i : Px) : List SV := [.dat (nums i.s), .dat (.int i.t), .dat (.int i.r), .dat (.int i.c)]
def c_pixel_in : Cp where
  ι := Px
  pre := Px.ok
  args := Px.args
  post i d := d = .int (pixI i.s i.t i.r i.c)
def c_pixel : Cp where
  ι := Px
  pre := Px.ok
  args := Px.args
  post i d := d = .int (pixI i.s i.t i.r i.c)
def c_l_law_pixel : Cp where
  ι := Px
  pre := Px.ok
  args := Px.args
  post i d := d = .int (pixI i.s i.t i.r i.c)
def c_check_sheet : Cp where
  ι := List Int
  pre := Sh
  args s := [.dat (nums s)]
  post _ d := d = .none
structure Gr where
  (s : List Int) (x : St4) (c l : Int)
def Gr.args (i : Gr) : List SV := [.dat (nums i.s), .dat i.x.D, .dat (.int i.c), .dat (.int i.l)]
def c_ground_in : Cp where
  ι := Gr
  pre i := Sh i.s
  args := Gr.args
  post i d := d = prD (gndI i.s i.x i.c i.l)
def c_ground_at : Cp where
  ι := Gr
  pre i := Sh i.s
  args := Gr.args
  post i d := d = prD (gndI i.s i.x i.c i.l)
def c_l_law_ground : Cp where
  ι := Gr
  pre i := Sh i.s
  args := Gr.args
  post i d := d = prD (gndI i.s i.x i.c i.l)
structure Mr where
  (s : List Int) (x : St4) (l : Int)
def c_movers_in : Cp where
  ι := Mr
  pre i := Sh i.s
  args i := [.dat (nums i.s), .dat i.x.D, .dat (.int i.l)]
  post i d := d = mvsD i.s i.x i.l
def c_movers_at : Cp where
  ι := Mr
  pre i := Sh i.s
  args i := [.dat (nums i.s), .dat i.x.D, .dat (.int i.l)]
  post i d := d = mvsD i.s i.x i.l
structure Mp where
  (s : List Int) (m : Mv) (c l : Int)
def c_mover_pixel : Cp where
  ι := Mp
  pre i := Sh i.s ∧ (i.m.y ≤ i.l ∧ i.l < i.m.y + 8) ∧ (i.m.x ≤ i.c ∧ i.c < i.m.x + 8)
  args i := [.dat (nums i.s), .dat i.m.D, .dat (.int i.c), .dat (.int i.l)]
  post i d := d = .int (mpI i.s i.m i.c i.l)
structure Sw where
  (s : List Int) (ms : List Mv) (c l : Int)
def c_showing : Cp where
  ι := Sw
  pre i := Sh i.s ∧ Mvs i.ms i.l
  args i := [.dat (nums i.s), .dat (msD i.ms), .dat (.int i.c), .dat (.int i.l)]
  post i d := d = shD i.s i.c i.l (shI i.s i.ms i.c i.l)
structure Dt where
  (s : List Int) (x : St4) (ms : List Mv) (c l : Int)
def Dt.args (i : Dt) : List SV := [.dat (nums i.s), .dat i.x.D, .dat (msD i.ms), .dat (.int i.c), .dat (.int i.l)]
def c_dot_in : Cp where
  ι := Dt
  pre i := Sh i.s ∧ Mvs i.ms i.l
  args := Dt.args
  post i d := d = dotD (dotI i.s i.x i.ms i.l i.c)
def c_dot_at : Cp where
  ι := Dt
  pre i := Sh i.s ∧ Mvs i.ms i.l
  args := Dt.args
  post i d := d = dotD (dotI i.s i.x i.ms i.l i.c)
def c_l_law_dot : Cp where
  ι := Dt
  pre i := Sh i.s ∧ Mvs i.ms i.l
  args := Dt.args
  post i d := d = dotD (dotI i.s i.x i.ms i.l i.c)
structure Td where
  (s : List Int) (t r a b : Int)
/-- a run of ints -/
def runI (a b : Int) : List Int := (List.range (b - a).toNat).map fun (k : Nat) => a + (k : Int)
def c_tile_dots : Cp where
  ι := Td
  pre i := Sh i.s ∧ (0 ≤ i.t ∧ i.t < 32) ∧ (0 ≤ i.r ∧ i.r < 8) ∧ (0 ≤ i.a ∧ i.a ≤ i.b ∧ i.b ≤ 8)
  args i := [.dat (nums i.s), .dat (.int i.t), .dat (.int i.r), .dat (.int i.a), .dat (.int i.b)]
  post i d := d = nums ((runI i.a i.b).map fun k => pixI i.s i.t i.r k)
structure Gd where
  (s : List Int) (x : St4) (l a b : Int)
def c_ground_dots : Cp where
  ι := Gd
  pre i := Sh i.s ∧ (0 ≤ i.a ∧ i.a ≤ i.b ∧ i.b ≤ 100)
  args i := [.dat (nums i.s), .dat i.x.D, .dat (.int i.l), .dat (.int i.a), .dat (.int i.b)]
  post i d := d = .list ((runI i.a i.b).map fun c => prD (gndI i.s i.x c i.l))
structure Md where
  (s : List Int) (ms : List Mv) (l a b : Int)
/-- what the dict has -/
def mdV (s : List Int) (ms : List Mv) (l a b c : Int) : Option D := if a ≤ c ∧ c < b then (shI s ms c l).map fun m => .tuple [m.D, .int (mpI s m c l)] else none
def dictD (kvs : List (Key × D)) : D := .dict (kvs.map fun q => (keyD q.1, q.2))
def c_mover_dots : Cp where
  ι := Md
  pre i := Sh i.s ∧ Mvs i.ms i.l ∧ (0 ≤ i.a ∧ i.a ≤ i.b ∧ i.b ≤ 100)
  args i := [.dat (nums i.s), .dat (msD i.ms), .dat (.int i.l), .dat (.int i.a), .dat (.int i.b)]
  post i d := ∃ kvs, d = dictD kvs ∧ ∀ c, valA kvs (.inl c) = mdV i.s i.ms i.l i.a i.b c
structure Ds where
  (s : List Int) (x : St4) (ms : List Mv) (l a b : Int)
def c_dots_of : Cp where
  ι := Ds
  pre i := Sh i.s ∧ Mvs i.ms i.l ∧ (0 ≤ i.a ∧ i.a ≤ i.b ∧ i.b ≤ 100)
  args i := [.dat (nums i.s), .dat i.x.D, .dat (msD i.ms), .dat (.int i.l), .dat (.int i.a), .dat (.int i.b)]
  post i d := d = .tuple [nums ((runI i.a i.b).map fun c => (dotI i.s i.x i.ms i.l c).1), .bool ((runI i.a i.b).any fun c => (dotI i.s i.x i.ms i.l c).2)]
structure Lm where
  (ds : List Int) (k c l : Int)
def c_l_law_movers : Cp where
  ι := Lm
  pre i := Dr i.ds ∧ (0 ≤ i.k ∧ i.k < 10000) ∧ (0 ≤ i.c ∧ i.c < 32) ∧ (0 ≤ i.l ∧ i.l < 24)
  args i := [.dat (nums i.ds), .dat (.int i.k), .dat (.int i.c), .dat (.int i.l)]
  post i d := ∃ ms, d = msD ms ∧ Mvs ms i.l
def c_law : Cp where
  ι := List Int
  pre ns := ns.length ≤ 63
  args ns := [.scr ns]
  post _ d := d = .bool true
/-! rules -/
section
variable {ex : Addr → Int → Prop} {k : SV → Cs → Prop} {C : Cs}
theorem wk_bit {x y : Int} (h : 0 ≤ y ∧ y < 8) (q : k (.dat (.int (bitI x y))) C) : Wk c_bit ex [.dat (.int x), .dat (.int y)] k C := wk_of (c := c_bit) (x, y) _ rfl h (fun _ h => h) (fun _ _ h => h) q
theorem wk_lbit {x y : Int} (h : 0 ≤ y ∧ y < 8) (q : k (.dat (.int (bitI x y))) C) : Wk c_l_law_bit ex [.dat (.int x), .dat (.int y)] k C := wk_of (c := c_l_law_bit) (x, y) _ rfl h (fun _ h => h) (fun _ _ h => h) q
theorem wk_pixin {s : List Int} {t r c : Int} (h : Sh s) (h2 : (0 ≤ t ∧ t < 32) ∧ (0 ≤ r ∧ r < 8) ∧ (0 ≤ c ∧ c < 8)) (q : k (.dat (.int (pixI s t r c))) C) : Wk c_pixel_in ex [.dat (nums s), .dat (.int t), .dat (.int r), .dat (.int c)] k C := wk_of (c := c_pixel_in) ⟨s, t, r, c⟩ _ rfl ⟨h, h2⟩ (fun _ h => h) (fun _ _ h => h) q
theorem wk_pix {s : List Int} {t r c : Int} (h : Sh s) (h2 : (0 ≤ t ∧ t < 32) ∧ (0 ≤ r ∧ r < 8) ∧ (0 ≤ c ∧ c < 8)) (q : k (.dat (.int (pixI s t r c))) C) : Wk c_pixel ex [.dat (nums s), .dat (.int t), .dat (.int r), .dat (.int c)] k C := wk_of (c := c_pixel) ⟨s, t, r, c⟩ _ rfl ⟨h, h2⟩ (fun _ h => h) (fun _ _ h => h) q
theorem wk_lpix {s : List Int} {t r c : Int} (h : Sh s) (h2 : (0 ≤ t ∧ t < 32) ∧ (0 ≤ r ∧ r < 8) ∧ (0 ≤ c ∧ c < 8)) (q : k (.dat (.int (pixI s t r c))) C) : Wk c_l_law_pixel ex [.dat (nums s), .dat (.int t), .dat (.int r), .dat (.int c)] k C := wk_of (c := c_l_law_pixel) ⟨s, t, r, c⟩ _ rfl ⟨h, h2⟩ (fun _ h => h) (fun _ _ h => h) q
theorem wk_chk {s : List Int} (h : Sh s) (q : k (.dat .none) C) : Wk c_check_sheet ex [.dat (nums s)] k C := wk_of (c := c_check_sheet) s _ rfl h (fun _ h => h) (fun _ _ h => h) q
theorem wk_gndin {s : List Int} {x : St4} {c l : Int} (h : Sh s) (q : k (.dat (prD (gndI s x c l))) C) : Wk c_ground_in ex [.dat (nums s), .dat x.D, .dat (.int c), .dat (.int l)] k C := wk_of (c := c_ground_in) ⟨s, x, c, l⟩ _ rfl h (fun _ h => h) (fun _ _ h => h) q
theorem wk_gnd {s : List Int} {x : St4} {c l : Int} (h : Sh s) (q : k (.dat (prD (gndI s x c l))) C) : Wk c_ground_at ex [.dat (nums s), .dat x.D, .dat (.int c), .dat (.int l)] k C := wk_of (c := c_ground_at) ⟨s, x, c, l⟩ _ rfl h (fun _ h => h) (fun _ _ h => h) q
theorem wk_lgnd {s : List Int} {x : St4} {c l : Int} (h : Sh s) (q : k (.dat (prD (gndI s x c l))) C) : Wk c_l_law_ground ex [.dat (nums s), .dat x.D, .dat (.int c), .dat (.int l)] k C := wk_of (c := c_l_law_ground) ⟨s, x, c, l⟩ _ rfl h (fun _ h => h) (fun _ _ h => h) q
theorem wk_mvin {s : List Int} {x : St4} {l : Int} (h : Sh s) (q : k (.dat (mvsD s x l)) C) : Wk c_movers_in ex [.dat (nums s), .dat x.D, .dat (.int l)] k C := wk_of (c := c_movers_in) ⟨s, x, l⟩ _ rfl h (fun _ h => h) (fun _ _ h => h) q
theorem wk_mvat {s : List Int} {x : St4} {l : Int} (h : Sh s) (q : k (.dat (mvsD s x l)) C) : Wk c_movers_at ex [.dat (nums s), .dat x.D, .dat (.int l)] k C := wk_of (c := c_movers_at) ⟨s, x, l⟩ _ rfl h (fun _ h => h) (fun _ _ h => h) q
theorem wk_mp {s : List Int} {m : Mv} {c l : Int} (h : Sh s) (h2 : (m.y ≤ l ∧ l < m.y + 8) ∧ (m.x ≤ c ∧ c < m.x + 8)) (q : k (.dat (.int (mpI s m c l))) C) : Wk c_mover_pixel ex [.dat (nums s), .dat m.D, .dat (.int c), .dat (.int l)] k C := wk_of (c := c_mover_pixel) ⟨s, m, c, l⟩ _ rfl ⟨h, h2⟩ (fun _ h => h) (fun _ _ h => h) q
theorem wk_show {s : List Int} {ms : List Mv} {c l : Int} (h : Sh s) (h2 : Mvs ms l) (q : k (.dat (shD s c l (shI s ms c l))) C) : Wk c_showing ex [.dat (nums s), .dat (msD ms), .dat (.int c), .dat (.int l)] k C := wk_of (c := c_showing) ⟨s, ms, c, l⟩ _ rfl ⟨h, h2⟩ (fun _ h => h) (fun _ _ h => h) q
theorem wk_dotin {s : List Int} {x : St4} {ms : List Mv} {c l : Int} (h : Sh s) (h2 : Mvs ms l) (q : k (.dat (dotD (dotI s x ms l c))) C) : Wk c_dot_in ex [.dat (nums s), .dat x.D, .dat (msD ms), .dat (.int c), .dat (.int l)] k C := wk_of (c := c_dot_in) ⟨s, x, ms, c, l⟩ _ rfl ⟨h, h2⟩ (fun _ h => h) (fun _ _ h => h) q
theorem wk_dot {s : List Int} {x : St4} {ms : List Mv} {c l : Int} (h : Sh s) (h2 : Mvs ms l) (q : k (.dat (dotD (dotI s x ms l c))) C) : Wk c_dot_at ex [.dat (nums s), .dat x.D, .dat (msD ms), .dat (.int c), .dat (.int l)] k C := wk_of (c := c_dot_at) ⟨s, x, ms, c, l⟩ _ rfl ⟨h, h2⟩ (fun _ h => h) (fun _ _ h => h) q
theorem wk_ldot {s : List Int} {x : St4} {ms : List Mv} {c l : Int} (h : Sh s) (h2 : Mvs ms l) (q : k (.dat (dotD (dotI s x ms l c))) C) : Wk c_l_law_dot ex [.dat (nums s), .dat x.D, .dat (msD ms), .dat (.int c), .dat (.int l)] k C := wk_of (c := c_l_law_dot) ⟨s, x, ms, c, l⟩ _ rfl ⟨h, h2⟩ (fun _ h => h) (fun _ _ h => h) q
theorem wk_tile {s : List Int} {t r a b : Int} (h : Sh s) (h2 : (0 ≤ t ∧ t < 32) ∧ (0 ≤ r ∧ r < 8) ∧ (0 ≤ a ∧ a ≤ b ∧ b ≤ 8)) (q : k (.dat (nums ((runI a b).map fun k => pixI s t r k))) C) : Wk c_tile_dots ex [.dat (nums s), .dat (.int t), .dat (.int r), .dat (.int a), .dat (.int b)] k C := wk_of (c := c_tile_dots) ⟨s, t, r, a, b⟩ _ rfl ⟨h, h2⟩ (fun _ h => h) (fun _ _ h => h) q
theorem wk_gdots {s : List Int} {x : St4} {l a b : Int} (h : Sh s) (h2 : 0 ≤ a ∧ a ≤ b ∧ b ≤ 100) (q : k (.dat (.list ((runI a b).map fun c => prD (gndI s x c l)))) C) : Wk c_ground_dots ex [.dat (nums s), .dat x.D, .dat (.int l), .dat (.int a), .dat (.int b)] k C := wk_of (c := c_ground_dots) ⟨s, x, l, a, b⟩ _ rfl ⟨h, h2⟩ (fun _ h => h) (fun _ _ h => h) q
theorem wk_mdots {s : List Int} {ms : List Mv} {l a b : Int} (h : Sh s) (h2 : Mvs ms l ∧ (0 ≤ a ∧ a ≤ b ∧ b ≤ 100)) (q : ∀ kvs, (∀ c, valA kvs (.inl c) = mdV s ms l a b c) → k (.dat (dictD kvs)) C) : Wk c_mover_dots ex [.dat (nums s), .dat (msD ms), .dat (.int l), .dat (.int a), .dat (.int b)] k C :=
  ⟨⟨s, ms, l, a, b⟩, rfl, rfl, ⟨h, h2⟩, fun d ⟨kvs, e, z⟩ => by rw [e]; exact q kvs z, fun _ _ h => absurd h id⟩
theorem wk_dots {s : List Int} {x : St4} {ms : List Mv} {l a b : Int} (h : Sh s) (h2 : Mvs ms l ∧ (0 ≤ a ∧ a ≤ b ∧ b ≤ 100)) (q : k (.dat (.tuple [nums ((runI a b).map fun c => (dotI s x ms l c).1), .bool ((runI a b).any fun c => (dotI s x ms l c).2)])) C) : Wk c_dots_of ex [.dat (nums s), .dat x.D, .dat (msD ms), .dat (.int l), .dat (.int a), .dat (.int b)] k C := wk_of (c := c_dots_of) ⟨s, x, ms, l, a, b⟩ _ rfl ⟨h, h2⟩ (fun _ h => h) (fun _ _ h => h) q
theorem wk_movers {ds : List Int} {n c l : Int} (h : Dr ds) (h2 : (0 ≤ n ∧ n < 10000) ∧ (0 ≤ c ∧ c < 32) ∧ (0 ≤ l ∧ l < 24)) (q : ∀ ms, Mvs ms l → k (.dat (msD ms)) C) : Wk c_l_law_movers ex [.dat (nums ds), .dat (.int n), .dat (.int c), .dat (.int l)] k C :=
  ⟨⟨ds, n, c, l⟩, rfl, rfl, ⟨h, h2⟩, fun d ⟨kvs, e, z⟩ => by rw [e]; exact q kvs z, fun _ _ h => absurd h id⟩
end
end K04

set_option Elab.async false
set_option linter.all false
set_option maxRecDepth 100000
set_option maxHeartbeats 1000000
namespace K04
open PySem PySem.Spec PyProof.Rows L2 Sy
abbrev N_check_sheet : List Str := ["sheet", "byte"]
def t_check_sheet (K : PySem.W.Frag) (E : XK) : TS :=
  (tIfS (tOr (tTest (tOp (rNeQ K) (tCB (rLn K) (tCons (tVar 0) tNil)) (tC (.int 1024)))) (tNot (tB (tCB (rAll K) (tCons (tLc (iList K (tVar 0)) (gName 1) tYes (tChain rLe rLe (tC (.int 0)) (tVar 1) (tC (.int 255))) [1]) tNil)))))
  tNever
  tNext)
theorem sc_check_sheet : FnScope N_check_sheet ["sheet"] (defScope s_check_sheet) := ⟨rfl, rfl, rfl, by decide +kernel, rfl, by decide +kernel, by decide +kernel⟩
theorem ok_check_sheet {P : Program} {w : World} {K : PySem.W.Frag} {mg : Str → Option Value} {base : Heap} (T : Tx K mg) (F : ∃ fd, FunD K "check_sheet" "check_sheet" (defArgs s_check_sheet) (defBody s_check_sheet) (defScope s_check_sheet) [] [] (He.fAd K ("check_sheet", none)) fd) 
    (hp : ∀ vs H Q E, c_check_sheet.sp K vs H Q E → t_check_sheet K E { nx := fun _ H' => Q .non H', rt := Q } (L2.start N_check_sheet vs) H) : Cl P w K mg base 5 (He.fAd K ("check_sheet", none)) ["sheet"] (c_check_sheet.sp K) := by
  obtain ⟨fd, F⟩ := F
  refine ⟨fd, ?_, F.bindsN (ps := ["sheet"]) (fun _ _ _ _ _ _ us hl => match us, hl with | [_], _ => rfl), F.kp⟩
  refine FunD.ok F sc_check_sheet (fun vs H Q E h => c_check_sheet.len (n := 1) (fun i => rfl) vs H Q E h) (fun cdv A outer s H vs Q E hr h => ⟨t_check_sheet K E, ?_, hp vs H Q E h⟩)
  have hu := hr.units
  have hu1 := hu_of hr
  have sc := sc_check_sheet
  exact (pss_one (ps_if (PW.pt (pw_or (pt_cmpR (op_neQ hu) (pe_callB cr_ln rfl T.f_len (by decide +kernel) (pa_cons (pv 0) pa_nil)) (pe_gi rfl T.i_SHEET) (nomark _)) (pw_or1 (pt_not (pt_val (pe_callB (cr_all rfl) rfl T.f_all (by decide +kernel) (pa_cons (pe_lc (own := [("byte", 1)]) (by rfl) sc.nd (pi_list (pv 0)) (blkOk_by (N := N_check_sheet) (sc := defScope s_check_sheet) (by decide +kernel)) (fun _ _ _ _ _ => (pg_name (i := 1) sc.nd rfl (by first | exact Or.inl rfl | exact Or.inr rfl))) (fun _ _ _ _ _ => pts_nil) (fun _ _ _ _ _ => (pe_chain op_le op_le pe_int (pv 1) pe_int))) pa_nil)) (by intro _; rfl))))))
  (pss_one ps_never)
  pss_nil))
abbrev N_bit : List Str := ["byte", "k"]
def t_bit (K : PySem.W.Frag) (E : XK) : TS :=
  (tRet (tOp rMd (tOp rDv (tVar 0) (tOp (rIx K) (tC (.ref (He.ga K "POWERS"))) (tVar 1))) (tC (.int 2))))
theorem sc_bit : FnScope N_bit ["byte", "k"] (defScope s_bit) := ⟨rfl, rfl, rfl, by decide +kernel, rfl, by decide +kernel, by decide +kernel⟩
theorem ok_bit {P : Program} {w : World} {K : PySem.W.Frag} {mg : Str → Option Value} {base : Heap} (T : Tx K mg) (F : ∃ fd, FunD K "bit" "bit" (defArgs s_bit) (defBody s_bit) (defScope s_bit) [] [] (He.fAd K ("bit", none)) fd) 
    (hp : ∀ vs H Q E, c_bit.sp K vs H Q E → t_bit K E { nx := fun _ H' => Q .non H', rt := Q } (L2.start N_bit vs) H) : Cl P w K mg base 1 (He.fAd K ("bit", none)) ["byte", "k"] (c_bit.sp K) := by
  obtain ⟨fd, F⟩ := F
  refine ⟨fd, ?_, F.bindsN (ps := ["byte", "k"]) (fun _ _ _ _ _ _ us hl => match us, hl with | [_, _], _ => rfl), F.kp⟩
  refine FunD.ok F sc_bit (fun vs H Q E h => c_bit.len (n := 2) (fun i => rfl) vs H Q E h) (fun cdv A outer s H vs Q E hr h => ⟨t_bit K E, ?_, hp vs H Q E h⟩)
  have hu := hr.units
  have hu1 := hu_of hr
  have sc := sc_bit
  exact (pss_one (ps_ret (pe_op op_mod (pe_op op_fdiv (pv 0) (pe_ix ix_seq (pe_gr rfl T.g_POWERS) (pv 1) (fun _ _ => rfl))) pe_int)))
abbrev N_pixel_in : List Str := ["sheet", "tile", "row", "column", "place"]
def t_pixel_in (K : PySem.W.Frag) (E : XK) : TS :=
  (tSeq (tAsg (tOp (rPlus K) (tOp (rPlus K) (tC (.int 128)) (tOp rTimes (tC (.int 16)) (tVar 1))) (tOp rTimes (tC (.int 2)) (tVar 2))) (gName 4))
  (tRet (tOp (rPlus K) (tCall (c_bit.sp K) [] E (tCons (tOp (rIx K) (tVar 0) (tVar 4)) (tCons (tOp rSb (tC (.int 7)) (tVar 3)) tNil))) (tOp rTimes (tC (.int 2)) (tCall (c_bit.sp K) [] E (tCons (tOp (rIx K) (tVar 0) (tOp (rPlus K) (tVar 4) (tC (.int 1)))) (tCons (tOp rSb (tC (.int 7)) (tVar 3)) tNil)))))))
theorem sc_pixel_in : FnScope N_pixel_in ["sheet", "tile", "row", "column"] (defScope s_pixel_in) := ⟨rfl, rfl, rfl, by decide +kernel, rfl, by decide +kernel, by decide +kernel⟩
theorem ok_pixel_in {P : Program} {w : World} {K : PySem.W.Frag} {mg : Str → Option Value} {base : Heap} (T : Tx K mg) (F : ∃ fd, FunD K "pixel_in" "pixel_in" (defArgs s_pixel_in) (defBody s_pixel_in) (defScope s_pixel_in) [] [] (He.fAd K ("pixel_in", none)) fd) (h_bit : Cl P w K mg base 1 (He.fAd K ("bit", none)) ["byte", "k"] (c_bit.sp K))
    (hp : ∀ vs H Q E, c_pixel_in.sp K vs H Q E → t_pixel_in K E { nx := fun _ H' => Q .non H', rt := Q } (L2.start N_pixel_in vs) H) : Cl P w K mg base 2 (He.fAd K ("pixel_in", none)) ["sheet", "tile", "row", "column"] (c_pixel_in.sp K) := by
  obtain ⟨fd, F⟩ := F
  refine ⟨fd, ?_, F.bindsN (ps := ["sheet", "tile", "row", "column"]) (fun _ _ _ _ _ _ us hl => match us, hl with | [_, _, _, _], _ => rfl), F.kp⟩
  refine FunD.ok F sc_pixel_in (fun vs H Q E h => c_pixel_in.len (n := 4) (fun i => rfl) vs H Q E h) (fun cdv A outer s H vs Q E hr h => ⟨t_pixel_in K E, ?_, hp vs H Q E h⟩)
  have hu := hr.units
  have hu1 := hu_of hr
  have sc := sc_pixel_in
  exact (pss_cons (ps_set (i := 4) sc.nd rfl (by first | exact Or.inl rfl | exact Or.inr rfl) (pe_op op_plus (pe_op op_plus (pe_gi rfl T.i_TILES) (pe_op op_times pe_int (pv 1))) (pe_op op_times pe_int (pv 2))))
  (pss_one (ps_ret (pe_op op_plus (pe_callC h_bit (hr.mono (by decide)) rfl T.g_bit (passE (takes_of rfl rfl rfl rfl) fun _ _ _ _ z => z) (pa_cons (pe_ix ix_seq (pv 0) (pv 4) (fun _ _ => rfl)) (pa_cons (pe_op op_sub pe_int (pv 3)) pa_nil))) (pe_op op_times pe_int (pe_callC h_bit (hr.mono (by decide)) rfl T.g_bit (passE (takes_of rfl rfl rfl rfl) fun _ _ _ _ z => z) (pa_cons (pe_ix ix_seq (pv 0) (pe_op op_plus (pv 4) pe_int) (fun _ _ => rfl)) (pa_cons (pe_op op_sub pe_int (pv 3)) pa_nil))))))))
abbrev N_pixel : List Str := ["sheet", "tile", "row", "column"]
def t_pixel (K : PySem.W.Frag) (E : XK) : TS :=
  (tSeq (tDrop (tCall (c_check_sheet.sp K) [] E (tCons (tVar 0) tNil)))
  (tRet (tCall (c_pixel_in.sp K) [] E (tCons (tVar 0) (tCons (tVar 1) (tCons (tVar 2) (tCons (tVar 3) tNil)))))))
theorem sc_pixel : FnScope N_pixel ["sheet", "tile", "row", "column"] (defScope s_pixel) := ⟨rfl, rfl, rfl, by decide +kernel, rfl, by decide +kernel, by decide +kernel⟩
theorem ok_pixel {P : Program} {w : World} {K : PySem.W.Frag} {mg : Str → Option Value} {base : Heap} (T : Tx K mg) (F : ∃ fd, FunD K "pixel" "pixel" (defArgs s_pixel) (defBody s_pixel) (defScope s_pixel) [] [] (He.fAd K ("pixel", none)) fd) (h_check_sheet : Cl P w K mg base 5 (He.fAd K ("check_sheet", none)) ["sheet"] (c_check_sheet.sp K)) (h_pixel_in : Cl P w K mg base 2 (He.fAd K ("pixel_in", none)) ["sheet", "tile", "row", "column"] (c_pixel_in.sp K))
    (hp : ∀ vs H Q E, c_pixel.sp K vs H Q E → t_pixel K E { nx := fun _ H' => Q .non H', rt := Q } (L2.start N_pixel vs) H) : Cl P w K mg base 6 (He.fAd K ("pixel", none)) ["sheet", "tile", "row", "column"] (c_pixel.sp K) := by
  obtain ⟨fd, F⟩ := F
  refine ⟨fd, ?_, F.bindsN (ps := ["sheet", "tile", "row", "column"]) (fun _ _ _ _ _ _ us hl => match us, hl with | [_, _, _, _], _ => rfl), F.kp⟩
  refine FunD.ok F sc_pixel (fun vs H Q E h => c_pixel.len (n := 4) (fun i => rfl) vs H Q E h) (fun cdv A outer s H vs Q E hr h => ⟨t_pixel K E, ?_, hp vs H Q E h⟩)
  have hu := hr.units
  have hu1 := hu_of hr
  have sc := sc_pixel
  exact (pss_cons (ps_expr (pe_callC h_check_sheet (hr.mono (by decide)) rfl T.g_check_sheet (passE (takes_of rfl rfl rfl rfl) fun _ _ _ _ z => z) (pa_cons (pv 0) pa_nil)))
  (pss_one (ps_ret (pe_callC h_pixel_in (hr.mono (by decide)) rfl T.g_pixel_in (passE (takes_of rfl rfl rfl rfl) fun _ _ _ _ z => z) (pa_cons (pv 0) (pa_cons (pv 1) (pa_cons (pv 2) (pa_cons (pv 3) pa_nil))))))))
abbrev N_ground_in : List Str := ["sheet", "settings", "column", "line", "right", "down", "_", "on", "x", "y", "byte"]
def t_ground_in (K : PySem.W.Frag) (E : XK) : TS :=
  (tSeq (tAsg (tVar 1) (gTup K 4 (gCons (gName 4) (gCons (gName 5) (gCons (gName 6) (gCons (gName 7) gNil))))))
  (tSeq (tIfS (tTest (tOp (rEqQ K) (tCall (c_bit.sp K) [] E (tCons (tVar 7) (tCons (tC (.int 0)) tNil))) (tC (.int 0))))
  (tRet (tTup (tCons (tC (.int 0)) (tCons (tC (.int 0)) tNil))))
  tNext)
  (tSeq (tPar 8 9 (tCons (tOp rMd (tOp (rPlus K) (tVar 2) (tVar 4)) (tC (.int 64))) (tCons (tOp rMd (tOp (rPlus K) (tVar 3) (tVar 5)) (tC (.int 64))) tNil)))
  (tSeq (tAsg (tOp (rIx K) (tVar 0) (tOp (rPlus K) (tOp rTimes (tOp rDv (tVar 9) (tC (.int 8))) (tC (.int 8))) (tOp rDv (tVar 8) (tC (.int 8))))) (gName 10))
  (tRet (tTup (tCons (tCall (c_pixel_in.sp K) [] E (tCons (tVar 0) (tCons (tOp rMd (tVar 10) (tC (.int 32))) (tCons (tOp rMd (tVar 9) (tC (.int 8))) (tCons (tOp rMd (tVar 8) (tC (.int 8))) tNil))))) (tCons (tOp rMd (tOp rDv (tVar 10) (tC (.int 32))) (tC (.int 4))) tNil))))))))
theorem sc_ground_in : FnScope N_ground_in ["sheet", "settings", "column", "line"] (defScope s_ground_in) := ⟨rfl, rfl, rfl, by decide +kernel, rfl, by decide +kernel, by decide +kernel⟩
theorem ok_ground_in {P : Program} {w : World} {K : PySem.W.Frag} {mg : Str → Option Value} {base : Heap} (T : Tx K mg) (F : ∃ fd, FunD K "ground_in" "ground_in" (defArgs s_ground_in) (defBody s_ground_in) (defScope s_ground_in) [] [] (He.fAd K ("ground_in", none)) fd) (h_bit : Cl P w K mg base 1 (He.fAd K ("bit", none)) ["byte", "k"] (c_bit.sp K)) (h_pixel_in : Cl P w K mg base 2 (He.fAd K ("pixel_in", none)) ["sheet", "tile", "row", "column"] (c_pixel_in.sp K))
    (hp : ∀ vs H Q E, c_ground_in.sp K vs H Q E → t_ground_in K E { nx := fun _ H' => Q .non H', rt := Q } (L2.start N_ground_in vs) H) : Cl P w K mg base 3 (He.fAd K ("ground_in", none)) ["sheet", "settings", "column", "line"] (c_ground_in.sp K) := by
  obtain ⟨fd, F⟩ := F
  refine ⟨fd, ?_, F.bindsN (ps := ["sheet", "settings", "column", "line"]) (fun _ _ _ _ _ _ us hl => match us, hl with | [_, _, _, _], _ => rfl), F.kp⟩
  refine FunD.ok F sc_ground_in (fun vs H Q E h => c_ground_in.len (n := 4) (fun i => rfl) vs H Q E h) (fun cdv A outer s H vs Q E hr h => ⟨t_ground_in K E, ?_, hp vs H Q E h⟩)
  have hu := hr.units
  have hu1 := hu_of hr
  have sc := sc_ground_in
  exact (pss_cons (ps_asg (pv 1) (pg_tup rfl (pgs_cons (pg_name (i := 4) sc.nd rfl (by first | exact Or.inl rfl | exact Or.inr rfl)) (pgs_cons (pg_name (i := 5) sc.nd rfl (by first | exact Or.inl rfl | exact Or.inr rfl)) (pgs_cons (pg_name (i := 6) sc.nd rfl (by first | exact Or.inl rfl | exact Or.inr rfl)) (pgs_cons (pg_name (i := 7) sc.nd rfl (by first | exact Or.inl rfl | exact Or.inr rfl)) pgs_nil))))))
  (pss_cons (ps_if (pt_cmpR (op_eqQ hu) (pe_callC h_bit (hr.mono (by decide)) rfl T.g_bit (passE (takes_of rfl rfl rfl rfl) fun _ _ _ _ z => z) (pa_cons (pv 7) (pa_cons pe_int pa_nil))) pe_int (nomark _))
  (pss_one (ps_ret (pe_tup (pa_cons pe_int (pa_cons pe_int pa_nil)))))
  pss_nil)
  (pss_cons (ps_par (i := 8) (j := 9) (by rfl) sc.nd rfl rfl (by decide) rfl rfl (pa_cons (pe_op op_mod (pe_op op_plus (pv 2) (pv 4)) pe_int) (pa_cons (pe_op op_mod (pe_op op_plus (pv 3) (pv 5)) pe_int) pa_nil)) (by rfl))
  (pss_cons (ps_set (i := 10) sc.nd rfl (by first | exact Or.inl rfl | exact Or.inr rfl) (pe_ix ix_seq (pv 0) (pe_op op_plus (pe_op op_times (pe_op op_fdiv (pv 9) pe_int) pe_int) (pe_op op_fdiv (pv 8) pe_int)) (fun _ _ => rfl)))
  (pss_one (ps_ret (pe_tup (pa_cons (pe_callC h_pixel_in (hr.mono (by decide)) rfl T.g_pixel_in (passE (takes_of rfl rfl rfl rfl) fun _ _ _ _ z => z) (pa_cons (pv 0) (pa_cons (pe_op op_mod (pv 10) pe_int) (pa_cons (pe_op op_mod (pv 9) pe_int) (pa_cons (pe_op op_mod (pv 8) pe_int) pa_nil))))) (pa_cons (pe_op op_mod (pe_op op_fdiv (pv 10) pe_int) pe_int) pa_nil)))))))))
abbrev N_ground_at : List Str := ["sheet", "settings", "column", "line"]
def t_ground_at (K : PySem.W.Frag) (E : XK) : TS :=
  (tSeq (tDrop (tCall (c_check_sheet.sp K) [] E (tCons (tVar 0) tNil)))
  (tRet (tCall (c_ground_in.sp K) [] E (tCons (tVar 0) (tCons (tVar 1) (tCons (tVar 2) (tCons (tVar 3) tNil)))))))
theorem sc_ground_at : FnScope N_ground_at ["sheet", "settings", "column", "line"] (defScope s_ground_at) := ⟨rfl, rfl, rfl, by decide +kernel, rfl, by decide +kernel, by decide +kernel⟩
theorem ok_ground_at {P : Program} {w : World} {K : PySem.W.Frag} {mg : Str → Option Value} {base : Heap} (T : Tx K mg) (F : ∃ fd, FunD K "ground_at" "ground_at" (defArgs s_ground_at) (defBody s_ground_at) (defScope s_ground_at) [] [] (He.fAd K ("ground_at", none)) fd) (h_check_sheet : Cl P w K mg base 5 (He.fAd K ("check_sheet", none)) ["sheet"] (c_check_sheet.sp K)) (h_ground_in : Cl P w K mg base 3 (He.fAd K ("ground_in", none)) ["sheet", "settings", "column", "line"] (c_ground_in.sp K))
    (hp : ∀ vs H Q E, c_ground_at.sp K vs H Q E → t_ground_at K E { nx := fun _ H' => Q .non H', rt := Q } (L2.start N_ground_at vs) H) : Cl P w K mg base 6 (He.fAd K ("ground_at", none)) ["sheet", "settings", "column", "line"] (c_ground_at.sp K) := by
  obtain ⟨fd, F⟩ := F
  refine ⟨fd, ?_, F.bindsN (ps := ["sheet", "settings", "column", "line"]) (fun _ _ _ _ _ _ us hl => match us, hl with | [_, _, _, _], _ => rfl), F.kp⟩
  refine FunD.ok F sc_ground_at (fun vs H Q E h => c_ground_at.len (n := 4) (fun i => rfl) vs H Q E h) (fun cdv A outer s H vs Q E hr h => ⟨t_ground_at K E, ?_, hp vs H Q E h⟩)
  have hu := hr.units
  have hu1 := hu_of hr
  have sc := sc_ground_at
  exact (pss_cons (ps_expr (pe_callC h_check_sheet (hr.mono (by decide)) rfl T.g_check_sheet (passE (takes_of rfl rfl rfl rfl) fun _ _ _ _ z => z) (pa_cons (pv 0) pa_nil)))
  (pss_one (ps_ret (pe_callC h_ground_in (hr.mono (by decide)) rfl T.g_ground_in (passE (takes_of rfl rfl rfl rfl) fun _ _ _ _ z => z) (pa_cons (pv 0) (pa_cons (pv 1) (pa_cons (pv 2) (pa_cons (pv 3) pa_nil))))))))
abbrev N_movers_in : List Str := ["sheet", "settings", "line", "found", "k", "place"]
def t_movers_in (K : PySem.W.Frag) (E : XK) : TS :=
  (tSeq (tIfS (tOr (tTest (tOp (rEqQ K) (tCall (c_bit.sp K) [] E (tCons (tOp (rIx K) (tVar 1) (tC (.int 3))) (tCons (tC (.int 1)) tNil))) (tC (.int 0)))) (tTest (tOp rGe (tVar 2) (tC (.int 24)))))
  (tRet (tTup (tCons (tLst tNil) (tCons (tC (.bl false)) tNil))))
  tNext)
  (tSeq (tAsg (tLst tNil) (gName 3))
  (tSeq (tFor (iRng1 (tCons (tC (.int 8)) tNil)) (gName 4)
  (tSeq (tAsg (tOp (rPlus K) (tC (.int 64)) (tOp rTimes (tC (.int 4)) (tVar 4))) (gName 5))
  (tIfS (tTest (tChain rLe rLt (tOp (rIx K) (tVar 0) (tVar 5)) (tVar 2) (tOp (rPlus K) (tOp (rIx K) (tVar 0) (tVar 5)) (tC (.int 8)))))
  (tDrop (tBM K "list" rAppend (tVar 3) (tCons (tTup (tCons (tVar 4) (StX.tStar K (tSl (rSlQ K) (tVar 0) (tPart (tVar 5)) (tPart (tOp (rPlus K) (tVar 5) (tC (.int 4))))) tNil))) tNil)))
  tNext)))
  (tRet (tTup (tCons (tSl (rSlQ K) (tVar 3) tNoPart (tPart (tC (.int 4)))) (tCons (tOp rGt (tCB (rLn K) (tCons (tVar 3) tNil)) (tC (.int 4))) tNil)))))))
theorem sc_movers_in : FnScope N_movers_in ["sheet", "settings", "line"] (defScope s_movers_in) := ⟨rfl, rfl, rfl, by decide +kernel, rfl, by decide +kernel, by decide +kernel⟩
theorem ok_movers_in {P : Program} {w : World} {K : PySem.W.Frag} {mg : Str → Option Value} {base : Heap} (T : Tx K mg) (F : ∃ fd, FunD K "movers_in" "movers_in" (defArgs s_movers_in) (defBody s_movers_in) (defScope s_movers_in) [] [] (He.fAd K ("movers_in", none)) fd) (h_bit : Cl P w K mg base 1 (He.fAd K ("bit", none)) ["byte", "k"] (c_bit.sp K))
    (hp : ∀ vs H Q E, c_movers_in.sp K vs H Q E → t_movers_in K E { nx := fun _ H' => Q .non H', rt := Q } (L2.start N_movers_in vs) H) : Cl P w K mg base 2 (He.fAd K ("movers_in", none)) ["sheet", "settings", "line"] (c_movers_in.sp K) := by
  obtain ⟨fd, F⟩ := F
  refine ⟨fd, ?_, F.bindsN (ps := ["sheet", "settings", "line"]) (fun _ _ _ _ _ _ us hl => match us, hl with | [_, _, _], _ => rfl), F.kp⟩
  refine FunD.ok F sc_movers_in (fun vs H Q E h => c_movers_in.len (n := 3) (fun i => rfl) vs H Q E h) (fun cdv A outer s H vs Q E hr h => ⟨t_movers_in K E, ?_, hp vs H Q E h⟩)
  have hu := hr.units
  have hu1 := hu_of hr
  have sc := sc_movers_in
  exact (pss_cons (ps_if (PW.pt (pw_or (pt_cmpR (op_eqQ hu) (pe_callC h_bit (hr.mono (by decide)) rfl T.g_bit (passE (takes_of rfl rfl rfl rfl) fun _ _ _ _ z => z) (pa_cons (pe_ix ix_seq (pv 1) pe_int (fun _ _ => rfl)) (pa_cons pe_int pa_nil))) pe_int (nomark _)) (pw_or1 (pt_cmpR op_ge (pv 2) (pe_gi rfl T.i_LINES) (nomark _)))))
  (pss_one (ps_ret (pe_tup (pa_cons (pe_lst pa_nil) (pa_cons pe_bl pa_nil)))))
  pss_nil)
  (pss_cons (ps_set (i := 3) sc.nd rfl (by first | exact Or.inl rfl | exact Or.inr rfl) (pe_lst pa_nil))
  (pss_cons (ps_for (by first | exact passes_of rfl | assumption) rfl (pi_range1 rfl T.f_range (pa_cons pe_int pa_nil)) (pg_name (i := 4) sc.nd rfl (by first | exact Or.inl rfl | exact Or.inr rfl))
  (pss_cons (ps_set (i := 5) sc.nd rfl (by first | exact Or.inl rfl | exact Or.inr rfl) (pe_op op_plus (pe_gi rfl T.i_MOVERS) (pe_op op_times pe_int (pv 4))))
  (pss_one (ps_if (pt_chain op_le op_lt (pe_ix ix_seq (pv 0) (pv 5) (fun _ _ => rfl)) (pv 2) (pe_op op_plus (pe_ix ix_seq (pv 0) (pv 5) (fun _ _ => rfl)) pe_int))
  (pss_one (ps_expr (pe_bm PySem.F.plainAttrs_list PySem.F.slot_list_append PySem.F.type_list_append mt_append (pv 3) (pa_cons (pe_tup (pa_cons (pv 4) (StX.pa_star (pe_slice sl_q (pv 0) (po_some (pv 5)) (po_some (pe_op op_plus (pv 5) pe_int))) pa_nil))) pa_nil))))
  pss_nil))))
  (pss_one (ps_ret (pe_tup (pa_cons (pe_slice sl_q (pv 3) po_none (po_some (pe_gi rfl T.i_MOST_SHOWN))) (pa_cons (pe_cmpR op_gt (pe_callB cr_ln rfl T.f_len (by decide +kernel) (pa_cons (pv 3) pa_nil)) (pe_gi rfl T.i_MOST_SHOWN) (nomark _)) pa_nil))))))))
abbrev N_movers_at : List Str := ["sheet", "settings", "line"]
def t_movers_at (K : PySem.W.Frag) (E : XK) : TS :=
  (tSeq (tDrop (tCall (c_check_sheet.sp K) [] E (tCons (tVar 0) tNil)))
  (tRet (tCall (c_movers_in.sp K) [] E (tCons (tVar 0) (tCons (tVar 1) (tCons (tVar 2) tNil))))))
theorem sc_movers_at : FnScope N_movers_at ["sheet", "settings", "line"] (defScope s_movers_at) := ⟨rfl, rfl, rfl, by decide +kernel, rfl, by decide +kernel, by decide +kernel⟩
theorem ok_movers_at {P : Program} {w : World} {K : PySem.W.Frag} {mg : Str → Option Value} {base : Heap} (T : Tx K mg) (F : ∃ fd, FunD K "movers_at" "movers_at" (defArgs s_movers_at) (defBody s_movers_at) (defScope s_movers_at) [] [] (He.fAd K ("movers_at", none)) fd) (h_check_sheet : Cl P w K mg base 5 (He.fAd K ("check_sheet", none)) ["sheet"] (c_check_sheet.sp K)) (h_movers_in : Cl P w K mg base 2 (He.fAd K ("movers_in", none)) ["sheet", "settings", "line"] (c_movers_in.sp K))
    (hp : ∀ vs H Q E, c_movers_at.sp K vs H Q E → t_movers_at K E { nx := fun _ H' => Q .non H', rt := Q } (L2.start N_movers_at vs) H) : Cl P w K mg base 6 (He.fAd K ("movers_at", none)) ["sheet", "settings", "line"] (c_movers_at.sp K) := by
  obtain ⟨fd, F⟩ := F
  refine ⟨fd, ?_, F.bindsN (ps := ["sheet", "settings", "line"]) (fun _ _ _ _ _ _ us hl => match us, hl with | [_, _, _], _ => rfl), F.kp⟩
  refine FunD.ok F sc_movers_at (fun vs H Q E h => c_movers_at.len (n := 3) (fun i => rfl) vs H Q E h) (fun cdv A outer s H vs Q E hr h => ⟨t_movers_at K E, ?_, hp vs H Q E h⟩)
  have hu := hr.units
  have hu1 := hu_of hr
  have sc := sc_movers_at
  exact (pss_cons (ps_expr (pe_callC h_check_sheet (hr.mono (by decide)) rfl T.g_check_sheet (passE (takes_of rfl rfl rfl rfl) fun _ _ _ _ z => z) (pa_cons (pv 0) pa_nil)))
  (pss_one (ps_ret (pe_callC h_movers_in (hr.mono (by decide)) rfl T.g_movers_in (passE (takes_of rfl rfl rfl rfl) fun _ _ _ _ z => z) (pa_cons (pv 0) (pa_cons (pv 1) (pa_cons (pv 2) pa_nil)))))))
abbrev N_mover_pixel : List Str := ["sheet", "mover", "column", "line", "_", "y", "tile", "looks", "x", "row", "place"]
def t_mover_pixel (K : PySem.W.Frag) (E : XK) : TS :=
  (tSeq (tAsg (tVar 1) (gTup K 5 (gCons (gName 4) (gCons (gName 5) (gCons (gName 6) (gCons (gName 7) (gCons (gName 8) gNil)))))))
  (tSeq (tPar 9 10 (tCons (tOp rSb (tVar 3) (tVar 5)) (tCons (tOp rSb (tVar 2) (tVar 8)) tNil)))
  (tSeq (tIfS (tTest (tOp (rEqQ K) (tCall (c_bit.sp K) [] E (tCons (tVar 7) (tCons (tC (.int 6)) tNil))) (tC (.int 1))))
  (tAsg (tOp rSb (tC (.int 7)) (tVar 10)) (gName 10))
  tNext)
  (tSeq (tIfS (tTest (tOp (rEqQ K) (tCall (c_bit.sp K) [] E (tCons (tVar 7) (tCons (tC (.int 7)) tNil))) (tC (.int 1))))
  (tAsg (tOp rSb (tC (.int 7)) (tVar 9)) (gName 9))
  tNext)
  (tRet (tCall (c_pixel_in.sp K) [] E (tCons (tVar 0) (tCons (tOp rMd (tVar 6) (tC (.int 32))) (tCons (tVar 9) (tCons (tVar 10) tNil))))))))))
theorem sc_mover_pixel : FnScope N_mover_pixel ["sheet", "mover", "column", "line"] (defScope s_mover_pixel) := ⟨rfl, rfl, rfl, by decide +kernel, rfl, by decide +kernel, by decide +kernel⟩
theorem ok_mover_pixel {P : Program} {w : World} {K : PySem.W.Frag} {mg : Str → Option Value} {base : Heap} (T : Tx K mg) (F : ∃ fd, FunD K "mover_pixel" "mover_pixel" (defArgs s_mover_pixel) (defBody s_mover_pixel) (defScope s_mover_pixel) [] [] (He.fAd K ("mover_pixel", none)) fd) (h_bit : Cl P w K mg base 1 (He.fAd K ("bit", none)) ["byte", "k"] (c_bit.sp K)) (h_pixel_in : Cl P w K mg base 2 (He.fAd K ("pixel_in", none)) ["sheet", "tile", "row", "column"] (c_pixel_in.sp K))
    (hp : ∀ vs H Q E, c_mover_pixel.sp K vs H Q E → t_mover_pixel K E { nx := fun _ H' => Q .non H', rt := Q } (L2.start N_mover_pixel vs) H) : Cl P w K mg base 3 (He.fAd K ("mover_pixel", none)) ["sheet", "mover", "column", "line"] (c_mover_pixel.sp K) := by
  obtain ⟨fd, F⟩ := F
  refine ⟨fd, ?_, F.bindsN (ps := ["sheet", "mover", "column", "line"]) (fun _ _ _ _ _ _ us hl => match us, hl with | [_, _, _, _], _ => rfl), F.kp⟩
  refine FunD.ok F sc_mover_pixel (fun vs H Q E h => c_mover_pixel.len (n := 4) (fun i => rfl) vs H Q E h) (fun cdv A outer s H vs Q E hr h => ⟨t_mover_pixel K E, ?_, hp vs H Q E h⟩)
  have hu := hr.units
  have hu1 := hu_of hr
  have sc := sc_mover_pixel
  exact (pss_cons (ps_asg (pv 1) (pg_tup rfl (pgs_cons (pg_name (i := 4) sc.nd rfl (by first | exact Or.inl rfl | exact Or.inr rfl)) (pgs_cons (pg_name (i := 5) sc.nd rfl (by first | exact Or.inl rfl | exact Or.inr rfl)) (pgs_cons (pg_name (i := 6) sc.nd rfl (by first | exact Or.inl rfl | exact Or.inr rfl)) (pgs_cons (pg_name (i := 7) sc.nd rfl (by first | exact Or.inl rfl | exact Or.inr rfl)) (pgs_cons (pg_name (i := 8) sc.nd rfl (by first | exact Or.inl rfl | exact Or.inr rfl)) pgs_nil)))))))
  (pss_cons (ps_par (i := 9) (j := 10) (by rfl) sc.nd rfl rfl (by decide) rfl rfl (pa_cons (pe_op op_sub (pv 3) (pv 5)) (pa_cons (pe_op op_sub (pv 2) (pv 8)) pa_nil)) (by rfl))
  (pss_cons (ps_if (pt_cmpR (op_eqQ hu) (pe_callC h_bit (hr.mono (by decide)) rfl T.g_bit (passE (takes_of rfl rfl rfl rfl) fun _ _ _ _ z => z) (pa_cons (pv 7) (pa_cons pe_int pa_nil))) pe_int (nomark _))
  (pss_one (ps_set (i := 10) sc.nd rfl (by first | exact Or.inl rfl | exact Or.inr rfl) (pe_op op_sub pe_int (pv 10))))
  pss_nil)
  (pss_cons (ps_if (pt_cmpR (op_eqQ hu) (pe_callC h_bit (hr.mono (by decide)) rfl T.g_bit (passE (takes_of rfl rfl rfl rfl) fun _ _ _ _ z => z) (pa_cons (pv 7) (pa_cons pe_int pa_nil))) pe_int (nomark _))
  (pss_one (ps_set (i := 9) sc.nd rfl (by first | exact Or.inl rfl | exact Or.inr rfl) (pe_op op_sub pe_int (pv 9))))
  pss_nil)
  (pss_one (ps_ret (pe_callC h_pixel_in (hr.mono (by decide)) rfl T.g_pixel_in (passE (takes_of rfl rfl rfl rfl) fun _ _ _ _ z => z) (pa_cons (pv 0) (pa_cons (pe_op op_mod (pv 6) pe_int) (pa_cons (pv 9) (pa_cons (pv 10) pa_nil)))))))))))
abbrev N_showing : List Str := ["sheet", "movers", "column", "line", "mover", "number"]
def t_showing (K : PySem.W.Frag) (E : XK) : TS :=
  (tSeq (tFor (iList K (tVar 1)) (gName 4)
  (tIfS (tTest (tChain rLe rLt (tOp (rIx K) (tVar 4) (tC (.int 4))) (tVar 2) (tOp (rPlus K) (tOp (rIx K) (tVar 4) (tC (.int 4))) (tC (.int 8)))))
  (tSeq (tAsg (tCall (c_mover_pixel.sp K) [] E (tCons (tVar 0) (tCons (tVar 4) (tCons (tVar 2) (tCons (tVar 3) tNil))))) (gName 5))
  (tIfS (tTest (tOp (rNeQ K) (tVar 5) (tC (.int 0))))
  (tRet (tTup (tCons (tVar 4) (tCons (tVar 5) tNil))))
  tNext))
  tNext))
  (tRet (tC .non)))
theorem sc_showing : FnScope N_showing ["sheet", "movers", "column", "line"] (defScope s_showing) := ⟨rfl, rfl, rfl, by decide +kernel, rfl, by decide +kernel, by decide +kernel⟩
theorem ok_showing {P : Program} {w : World} {K : PySem.W.Frag} {mg : Str → Option Value} {base : Heap} (T : Tx K mg) (F : ∃ fd, FunD K "showing" "showing" (defArgs s_showing) (defBody s_showing) (defScope s_showing) [] [] (He.fAd K ("showing", none)) fd) (h_mover_pixel : Cl P w K mg base 3 (He.fAd K ("mover_pixel", none)) ["sheet", "mover", "column", "line"] (c_mover_pixel.sp K))
    (hp : ∀ vs H Q E, c_showing.sp K vs H Q E → t_showing K E { nx := fun _ H' => Q .non H', rt := Q } (L2.start N_showing vs) H) : Cl P w K mg base 4 (He.fAd K ("showing", none)) ["sheet", "movers", "column", "line"] (c_showing.sp K) := by
  obtain ⟨fd, F⟩ := F
  refine ⟨fd, ?_, F.bindsN (ps := ["sheet", "movers", "column", "line"]) (fun _ _ _ _ _ _ us hl => match us, hl with | [_, _, _, _], _ => rfl), F.kp⟩
  refine FunD.ok F sc_showing (fun vs H Q E h => c_showing.len (n := 4) (fun i => rfl) vs H Q E h) (fun cdv A outer s H vs Q E hr h => ⟨t_showing K E, ?_, hp vs H Q E h⟩)
  have hu := hr.units
  have hu1 := hu_of hr
  have sc := sc_showing
  exact (pss_cons (ps_for (by first | exact passes_of rfl | assumption) rfl (pi_list (pv 1)) (pg_name (i := 4) sc.nd rfl (by first | exact Or.inl rfl | exact Or.inr rfl))
  (pss_one (ps_if (pt_chain op_le op_lt (pe_ix ix_seq (pv 4) pe_int (fun _ _ => rfl)) (pv 2) (pe_op op_plus (pe_ix ix_seq (pv 4) pe_int (fun _ _ => rfl)) pe_int))
  (pss_cons (ps_set (i := 5) sc.nd rfl (by first | exact Or.inl rfl | exact Or.inr rfl) (pe_callC h_mover_pixel (hr.mono (by decide)) rfl T.g_mover_pixel (passE (takes_of rfl rfl rfl rfl) fun _ _ _ _ z => z) (pa_cons (pv 0) (pa_cons (pv 4) (pa_cons (pv 2) (pa_cons (pv 3) pa_nil))))))
  (pss_one (ps_if (pt_cmpR (op_neQ hu) (pv 5) pe_int (nomark _))
  (pss_one (ps_ret (pe_tup (pa_cons (pv 4) (pa_cons (pv 5) pa_nil)))))
  pss_nil)))
  pss_nil)))
  (pss_one (ps_ret pe_non)))
abbrev N_dot_in : List Str := ["sheet", "settings", "movers", "column", "line", "number", "group", "shown", "hit", "place"]
def t_dot_in (K : PySem.W.Frag) (E : XK) : TS :=
  (tSeq (tAsg (tCall (c_ground_in.sp K) [] E (tCons (tVar 0) (tCons (tVar 1) (tCons (tVar 3) (tCons (tVar 4) tNil))))) (gTup K 2 (gCons (gName 5) (gCons (gName 6) gNil))))
  (tSeq (tAsg (tCall (c_showing.sp K) [] E (tCons (tVar 0) (tCons (tVar 2) (tCons (tVar 3) (tCons (tVar 4) tNil))))) (gName 7))
  (tSeq (tAsg (tAndV (tOp rNotNn (tVar 7) (tC .non)) (tAndV (tOp (rEqQ K) (tOp (rIx K) (tOp (rIx K) (tVar 7) (tC (.int 0))) (tC (.int 0))) (tC (.int 0))) (tOp (rNeQ K) (tVar 5) (tC (.int 0))))) (gName 8))
  (tSeq (tIfS (tAnd (tTest (tOp rNotNn (tVar 7) (tC .non))) (tOr (tTest (tOp (rEqQ K) (tCall (c_bit.sp K) [] E (tCons (tOp (rIx K) (tOp (rIx K) (tVar 7) (tC (.int 0))) (tC (.int 3))) (tCons (tC (.int 5)) tNil))) (tC (.int 0)))) (tTest (tOp (rEqQ K) (tVar 5) (tC (.int 0))))))
  (tAsg (tOp (rPlus K) (tOp (rPlus K) (tC (.int 112)) (tOp rTimes (tC (.int 4)) (tOp rMd (tOp (rIx K) (tOp (rIx K) (tVar 7) (tC (.int 0))) (tC (.int 3))) (tC (.int 4))))) (tOp (rIx K) (tVar 7) (tC (.int 1)))) (gName 9))
  (tAsg (tOp (rPlus K) (tC (.int 96)) (tIf (tTest (tOp (rNeQ K) (tVar 5) (tC (.int 0)))) (tOp (rPlus K) (tOp rTimes (tC (.int 4)) (tVar 6)) (tVar 5)) (tC (.int 0)))) (gName 9)))
  (tRet (tTup (tCons (tOp rMd (tOp (rIx K) (tVar 0) (tVar 9)) (tC (.int 64))) (tCons (tVar 8) tNil))))))))
theorem sc_dot_in : FnScope N_dot_in ["sheet", "settings", "movers", "column", "line"] (defScope s_dot_in) := ⟨rfl, rfl, rfl, by decide +kernel, rfl, by decide +kernel, by decide +kernel⟩
theorem ok_dot_in {P : Program} {w : World} {K : PySem.W.Frag} {mg : Str → Option Value} {base : Heap} (T : Tx K mg) (F : ∃ fd, FunD K "dot_in" "dot_in" (defArgs s_dot_in) (defBody s_dot_in) (defScope s_dot_in) [] [] (He.fAd K ("dot_in", none)) fd) (h_ground_in : Cl P w K mg base 3 (He.fAd K ("ground_in", none)) ["sheet", "settings", "column", "line"] (c_ground_in.sp K)) (h_showing : Cl P w K mg base 4 (He.fAd K ("showing", none)) ["sheet", "movers", "column", "line"] (c_showing.sp K)) (h_bit : Cl P w K mg base 1 (He.fAd K ("bit", none)) ["byte", "k"] (c_bit.sp K))
    (hp : ∀ vs H Q E, c_dot_in.sp K vs H Q E → t_dot_in K E { nx := fun _ H' => Q .non H', rt := Q } (L2.start N_dot_in vs) H) : Cl P w K mg base 5 (He.fAd K ("dot_in", none)) ["sheet", "settings", "movers", "column", "line"] (c_dot_in.sp K) := by
  obtain ⟨fd, F⟩ := F
  refine ⟨fd, ?_, F.bindsN (ps := ["sheet", "settings", "movers", "column", "line"]) (fun _ _ _ _ _ _ us hl => match us, hl with | [_, _, _, _, _], _ => rfl), F.kp⟩
  refine FunD.ok F sc_dot_in (fun vs H Q E h => c_dot_in.len (n := 5) (fun i => rfl) vs H Q E h) (fun cdv A outer s H vs Q E hr h => ⟨t_dot_in K E, ?_, hp vs H Q E h⟩)
  have hu := hr.units
  have hu1 := hu_of hr
  have sc := sc_dot_in
  exact (pss_cons (ps_asg (pe_callC h_ground_in (hr.mono (by decide)) rfl T.g_ground_in (passE (takes_of rfl rfl rfl rfl) fun _ _ _ _ z => z) (pa_cons (pv 0) (pa_cons (pv 1) (pa_cons (pv 3) (pa_cons (pv 4) pa_nil))))) (pg_tup rfl (pgs_cons (pg_name (i := 5) sc.nd rfl (by first | exact Or.inl rfl | exact Or.inr rfl)) (pgs_cons (pg_name (i := 6) sc.nd rfl (by first | exact Or.inl rfl | exact Or.inr rfl)) pgs_nil))))
  (pss_cons (ps_set (i := 7) sc.nd rfl (by first | exact Or.inl rfl | exact Or.inr rfl) (pe_callC h_showing (hr.mono (by decide)) rfl T.g_showing (passE (takes_of rfl rfl rfl rfl) fun _ _ _ _ z => z) (pa_cons (pv 0) (pa_cons (pv 2) (pa_cons (pv 3) (pa_cons (pv 4) pa_nil))))))
  (pss_cons (ps_set (i := 8) sc.nd rfl (by first | exact Or.inl rfl | exact Or.inr rfl) (pe_and (pe_cmpR op_notNn (pv 7) pe_non (nomark _)) (pe_and (pe_cmpR (op_eqQ hu) (pe_ix ix_seq (pe_ix ix_seq (pv 7) pe_int (fun _ _ => rfl)) pe_int (fun _ _ => rfl)) pe_int (nomark _)) (pe_one (pe_cmpR (op_neQ hu) (pv 5) pe_int (nomark _))))))
  (pss_cons (ps_if (PW.pt (pw_and (pt_cmpR op_notNn (pv 7) pe_non (nomark _)) (pw_and1 (PW.pt (pw_or (pt_cmpR (op_eqQ hu) (pe_callC h_bit (hr.mono (by decide)) rfl T.g_bit (passE (takes_of rfl rfl rfl rfl) fun _ _ _ _ z => z) (pa_cons (pe_ix ix_seq (pe_ix ix_seq (pv 7) pe_int (fun _ _ => rfl)) pe_int (fun _ _ => rfl)) (pa_cons pe_int pa_nil))) pe_int (nomark _)) (pw_or1 (pt_cmpR (op_eqQ hu) (pv 5) pe_int (nomark _))))))))
  (pss_one (ps_set (i := 9) sc.nd rfl (by first | exact Or.inl rfl | exact Or.inr rfl) (pe_op op_plus (pe_op op_plus (pe_gi rfl T.i_MOVER_COLOURS) (pe_op op_times pe_int (pe_op op_mod (pe_ix ix_seq (pe_ix ix_seq (pv 7) pe_int (fun _ _ => rfl)) pe_int (fun _ _ => rfl)) pe_int))) (pe_ix ix_seq (pv 7) pe_int (fun _ _ => rfl)))))
  (pss_one (ps_set (i := 9) sc.nd rfl (by first | exact Or.inl rfl | exact Or.inr rfl) (pe_op op_plus (pe_gi rfl T.i_COLOURS) (pe_ifExp (pt_cmpR (op_neQ hu) (pv 5) pe_int (nomark _)) (pe_op op_plus (pe_op op_times pe_int (pv 6)) (pv 5)) pe_int)))))
  (pss_one (ps_ret (pe_tup (pa_cons (pe_op op_mod (pe_ix ix_seq (pv 0) (pv 9) (fun _ _ => rfl)) pe_int) (pa_cons (pv 8) pa_nil)))))))))
abbrev N_dot_at : List Str := ["sheet", "settings", "movers", "column", "line"]
def t_dot_at (K : PySem.W.Frag) (E : XK) : TS :=
  (tSeq (tDrop (tCall (c_check_sheet.sp K) [] E (tCons (tVar 0) tNil)))
  (tRet (tCall (c_dot_in.sp K) [] E (tCons (tVar 0) (tCons (tVar 1) (tCons (tVar 2) (tCons (tVar 3) (tCons (tVar 4) tNil))))))))
theorem sc_dot_at : FnScope N_dot_at ["sheet", "settings", "movers", "column", "line"] (defScope s_dot_at) := ⟨rfl, rfl, rfl, by decide +kernel, rfl, by decide +kernel, by decide +kernel⟩
theorem ok_dot_at {P : Program} {w : World} {K : PySem.W.Frag} {mg : Str → Option Value} {base : Heap} (T : Tx K mg) (F : ∃ fd, FunD K "dot_at" "dot_at" (defArgs s_dot_at) (defBody s_dot_at) (defScope s_dot_at) [] [] (He.fAd K ("dot_at", none)) fd) (h_check_sheet : Cl P w K mg base 5 (He.fAd K ("check_sheet", none)) ["sheet"] (c_check_sheet.sp K)) (h_dot_in : Cl P w K mg base 5 (He.fAd K ("dot_in", none)) ["sheet", "settings", "movers", "column", "line"] (c_dot_in.sp K))
    (hp : ∀ vs H Q E, c_dot_at.sp K vs H Q E → t_dot_at K E { nx := fun _ H' => Q .non H', rt := Q } (L2.start N_dot_at vs) H) : Cl P w K mg base 6 (He.fAd K ("dot_at", none)) ["sheet", "settings", "movers", "column", "line"] (c_dot_at.sp K) := by
  obtain ⟨fd, F⟩ := F
  refine ⟨fd, ?_, F.bindsN (ps := ["sheet", "settings", "movers", "column", "line"]) (fun _ _ _ _ _ _ us hl => match us, hl with | [_, _, _, _, _], _ => rfl), F.kp⟩
  refine FunD.ok F sc_dot_at (fun vs H Q E h => c_dot_at.len (n := 5) (fun i => rfl) vs H Q E h) (fun cdv A outer s H vs Q E hr h => ⟨t_dot_at K E, ?_, hp vs H Q E h⟩)
  have hu := hr.units
  have hu1 := hu_of hr
  have sc := sc_dot_at
  exact (pss_cons (ps_expr (pe_callC h_check_sheet (hr.mono (by decide)) rfl T.g_check_sheet (passE (takes_of rfl rfl rfl rfl) fun _ _ _ _ z => z) (pa_cons (pv 0) pa_nil)))
  (pss_one (ps_ret (pe_callC h_dot_in (hr.mono (by decide)) rfl T.g_dot_in (passE (takes_of rfl rfl rfl rfl) fun _ _ _ _ z => z) (pa_cons (pv 0) (pa_cons (pv 1) (pa_cons (pv 2) (pa_cons (pv 3) (pa_cons (pv 4) pa_nil)))))))))
abbrev N_tile_dots : List Str := ["sheet", "tile", "row", "first", "last", "place", "low", "high", "k"]
def t_tile_dots (K : PySem.W.Frag) (E : XK) : TS :=
  (tSeq (tAsg (tOp (rPlus K) (tOp (rPlus K) (tC (.int 128)) (tOp rTimes (tC (.int 16)) (tVar 1))) (tOp rTimes (tC (.int 2)) (tVar 2))) (gName 5))
  (tSeq (tAsg (tTup (tCons (tOp (rIx K) (tVar 0) (tVar 5)) (tCons (tOp (rIx K) (tVar 0) (tOp (rPlus K) (tVar 5) (tC (.int 1)))) tNil))) (gTup K 2 (gCons (gName 6) (gCons (gName 7) gNil))))
  (tRet (tLc (iRng2 (tCons (tVar 3) (tCons (tVar 4) tNil))) (gName 8) tYes (tOp (rPlus K) (tCall (c_bit.sp K) [] E0 (tCons (tVar 6) (tCons (tOp rSb (tC (.int 7)) (tVar 8)) tNil))) (tOp rTimes (tC (.int 2)) (tCall (c_bit.sp K) [] E0 (tCons (tVar 7) (tCons (tOp rSb (tC (.int 7)) (tVar 8)) tNil))))) [8]))))
theorem sc_tile_dots : FnScope N_tile_dots ["sheet", "tile", "row", "first", "last"] (defScope s_tile_dots) := ⟨rfl, rfl, rfl, by decide +kernel, rfl, by decide +kernel, by decide +kernel⟩
theorem ok_tile_dots {P : Program} {w : World} {K : PySem.W.Frag} {mg : Str → Option Value} {base : Heap} (T : Tx K mg) (F : ∃ fd, FunD K "tile_dots" "tile_dots" (defArgs s_tile_dots) (defBody s_tile_dots) (defScope s_tile_dots) [] [] (He.fAd K ("tile_dots", none)) fd) (h_bit : Cl P w K mg base 1 (He.fAd K ("bit", none)) ["byte", "k"] (c_bit.sp K))
    (hp : ∀ vs H Q E, c_tile_dots.sp K vs H Q E → t_tile_dots K E { nx := fun _ H' => Q .non H', rt := Q } (L2.start N_tile_dots vs) H) : Cl P w K mg base 2 (He.fAd K ("tile_dots", none)) ["sheet", "tile", "row", "first", "last"] (c_tile_dots.sp K) := by
  obtain ⟨fd, F⟩ := F
  refine ⟨fd, ?_, F.bindsN (ps := ["sheet", "tile", "row", "first", "last"]) (fun _ _ _ _ _ _ us hl => match us, hl with | [_, _, _, _, _], _ => rfl), F.kp⟩
  refine FunD.ok F sc_tile_dots (fun vs H Q E h => c_tile_dots.len (n := 5) (fun i => rfl) vs H Q E h) (fun cdv A outer s H vs Q E hr h => ⟨t_tile_dots K E, ?_, hp vs H Q E h⟩)
  have hu := hr.units
  have hu1 := hu_of hr
  have sc := sc_tile_dots
  exact (pss_cons (ps_set (i := 5) sc.nd rfl (by first | exact Or.inl rfl | exact Or.inr rfl) (pe_op op_plus (pe_op op_plus (pe_gi rfl T.i_TILES) (pe_op op_times pe_int (pv 1))) (pe_op op_times pe_int (pv 2))))
  (pss_cons (ps_asg (pe_tup (pa_cons (pe_ix ix_seq (pv 0) (pv 5) (fun _ _ => rfl)) (pa_cons (pe_ix ix_seq (pv 0) (pe_op op_plus (pv 5) pe_int) (fun _ _ => rfl)) pa_nil))) (pg_tup rfl (pgs_cons (pg_name (i := 6) sc.nd rfl (by first | exact Or.inl rfl | exact Or.inr rfl)) (pgs_cons (pg_name (i := 7) sc.nd rfl (by first | exact Or.inl rfl | exact Or.inr rfl)) pgs_nil))))
  (pss_one (ps_ret (pe_lc (own := [("k", 8)]) (by rfl) sc.nd (pi_range2 rfl T.f_range (pa_cons (pv 3) (pa_cons (pv 4) pa_nil))) (blkOk_by (N := N_tile_dots) (sc := defScope s_tile_dots) (by decide +kernel)) (fun _ _ _ _ _ => (pg_name (i := 8) sc.nd rfl (by first | exact Or.inl rfl | exact Or.inr rfl))) (fun _ _ _ _ _ => pts_nil) (fun _ _ _ _ _ => (pe_op op_plus (pe_callC h_bit (hr.mono (by decide)) rfl T.g_bit passL (pa_cons (pv 6) (pa_cons (pe_op op_sub pe_int (pv 8)) pa_nil))) (pe_op op_times pe_int (pe_callC h_bit (hr.mono (by decide)) rfl T.g_bit passL (pa_cons (pv 7) (pa_cons (pe_op op_sub pe_int (pv 8)) pa_nil)))))))))))
abbrev N_ground_dots : List Str := ["sheet", "settings", "line", "first", "last", "right", "down", "_", "on", "y", "found", "column", "x", "byte", "stop", "numbers", "number"]
def t_ground_dots (K : PySem.W.Frag) (E : XK) : TS :=
  (tSeq (tAsg (tVar 1) (gTup K 4 (gCons (gName 5) (gCons (gName 6) (gCons (gName 7) (gCons (gName 8) gNil))))))
  (tSeq (tIfS (tTest (tOp (rEqQ K) (tCall (c_bit.sp K) [] E (tCons (tVar 8) (tCons (tC (.int 0)) tNil))) (tC (.int 0))))
  (tRet (tOp rTimes (tLst (tCons (tTup (tCons (tC (.int 0)) (tCons (tC (.int 0)) tNil))) tNil)) (tOp rSb (tVar 4) (tVar 3))))
  tNext)
  (tSeq (tAsg (tOp rMd (tOp (rPlus K) (tVar 2) (tVar 6)) (tC (.int 64))) (gName 9))
  (tSeq (tAsg (tLst tNil) (gName 10))
  (tSeq (tAsg (tVar 3) (gName 11))
  (tSeq (tWhile (tTest (tOp rLt (tVar 11) (tVar 4)))
  (tSeq (tAsg (tOp rMd (tOp (rPlus K) (tVar 11) (tVar 5)) (tC (.int 64))) (gName 12))
  (tSeq (tAsg (tOp (rIx K) (tVar 0) (tOp (rPlus K) (tOp rTimes (tOp rDv (tVar 9) (tC (.int 8))) (tC (.int 8))) (tOp rDv (tVar 12) (tC (.int 8))))) (gName 13))
  (tSeq (tAsg (tCB rMn2 (tCons (tVar 4) (tCons (tOp rSb (tOp (rPlus K) (tVar 11) (tC (.int 8))) (tOp rMd (tVar 12) (tC (.int 8)))) tNil))) (gName 14))
  (tSeq (tAsg (tCall (c_tile_dots.sp K) [] E (tCons (tVar 0) (tCons (tOp rMd (tVar 13) (tC (.int 32))) (tCons (tOp rMd (tVar 9) (tC (.int 8))) (tCons (tOp rMd (tVar 12) (tC (.int 8))) (tCons (tOp rSb (tOp (rPlus K) (tOp rMd (tVar 12) (tC (.int 8))) (tVar 14)) (tVar 11)) tNil)))))) (gName 15))
  (tSeq (tDrop (tBM K "list" rExtend (tVar 10) (tCons (tLc (iList K (tVar 15)) (gName 16) tYes (tTup (tCons (tVar 16) (tCons (tOp rMd (tOp rDv (tVar 13) (tC (.int 32))) (tC (.int 4))) tNil))) [16]) tNil)))
  (tAsg (tVar 14) (gName 11))))))))
  (tRet (tVar 10))))))))
theorem sc_ground_dots : FnScope N_ground_dots ["sheet", "settings", "line", "first", "last"] (defScope s_ground_dots) := ⟨rfl, rfl, rfl, by decide +kernel, rfl, by decide +kernel, by decide +kernel⟩
theorem ok_ground_dots {P : Program} {w : World} {K : PySem.W.Frag} {mg : Str → Option Value} {base : Heap} (T : Tx K mg) (F : ∃ fd, FunD K "ground_dots" "ground_dots" (defArgs s_ground_dots) (defBody s_ground_dots) (defScope s_ground_dots) [] [] (He.fAd K ("ground_dots", none)) fd) (h_bit : Cl P w K mg base 1 (He.fAd K ("bit", none)) ["byte", "k"] (c_bit.sp K)) (h_tile_dots : Cl P w K mg base 2 (He.fAd K ("tile_dots", none)) ["sheet", "tile", "row", "first", "last"] (c_tile_dots.sp K))
    (hp : ∀ vs H Q E, c_ground_dots.sp K vs H Q E → t_ground_dots K E { nx := fun _ H' => Q .non H', rt := Q } (L2.start N_ground_dots vs) H) : Cl P w K mg base 3 (He.fAd K ("ground_dots", none)) ["sheet", "settings", "line", "first", "last"] (c_ground_dots.sp K) := by
  obtain ⟨fd, F⟩ := F
  refine ⟨fd, ?_, F.bindsN (ps := ["sheet", "settings", "line", "first", "last"]) (fun _ _ _ _ _ _ us hl => match us, hl with | [_, _, _, _, _], _ => rfl), F.kp⟩
  refine FunD.ok F sc_ground_dots (fun vs H Q E h => c_ground_dots.len (n := 5) (fun i => rfl) vs H Q E h) (fun cdv A outer s H vs Q E hr h => ⟨t_ground_dots K E, ?_, hp vs H Q E h⟩)
  have hu := hr.units
  have hu1 := hu_of hr
  have sc := sc_ground_dots
  exact (pss_cons (ps_asg (pv 1) (pg_tup rfl (pgs_cons (pg_name (i := 5) sc.nd rfl (by first | exact Or.inl rfl | exact Or.inr rfl)) (pgs_cons (pg_name (i := 6) sc.nd rfl (by first | exact Or.inl rfl | exact Or.inr rfl)) (pgs_cons (pg_name (i := 7) sc.nd rfl (by first | exact Or.inl rfl | exact Or.inr rfl)) (pgs_cons (pg_name (i := 8) sc.nd rfl (by first | exact Or.inl rfl | exact Or.inr rfl)) pgs_nil))))))
  (pss_cons (ps_if (pt_cmpR (op_eqQ hu) (pe_callC h_bit (hr.mono (by decide)) rfl T.g_bit (passE (takes_of rfl rfl rfl rfl) fun _ _ _ _ z => z) (pa_cons (pv 8) (pa_cons pe_int pa_nil))) pe_int (nomark _))
  (pss_one (ps_ret (pe_op op_times (pe_lst (pa_cons (pe_tup (pa_cons pe_int (pa_cons pe_int pa_nil))) pa_nil)) (pe_op op_sub (pv 4) (pv 3)))))
  pss_nil)
  (pss_cons (ps_set (i := 9) sc.nd rfl (by first | exact Or.inl rfl | exact Or.inr rfl) (pe_op op_mod (pe_op op_plus (pv 2) (pv 6)) (pe_gi rfl T.i_MAP)))
  (pss_cons (ps_set (i := 10) sc.nd rfl (by first | exact Or.inl rfl | exact Or.inr rfl) (pe_lst pa_nil))
  (pss_cons (ps_set (i := 11) sc.nd rfl (by first | exact Or.inl rfl | exact Or.inr rfl) (pv 3))
  (pss_cons (ps_while (by first | exact passes_of rfl | assumption) (pt_cmpR op_lt (pv 11) (pv 4) (nomark _))
  (pss_cons (ps_set (i := 12) sc.nd rfl (by first | exact Or.inl rfl | exact Or.inr rfl) (pe_op op_mod (pe_op op_plus (pv 11) (pv 5)) (pe_gi rfl T.i_MAP)))
  (pss_cons (ps_set (i := 13) sc.nd rfl (by first | exact Or.inl rfl | exact Or.inr rfl) (pe_ix ix_seq (pv 0) (pe_op op_plus (pe_op op_times (pe_op op_fdiv (pv 9) (pe_gi rfl T.i_TILE)) (pe_gi rfl T.i_TILE)) (pe_op op_fdiv (pv 12) (pe_gi rfl T.i_TILE))) (fun _ _ => rfl)))
  (pss_cons (ps_set (i := 14) sc.nd rfl (by first | exact Or.inl rfl | exact Or.inr rfl) (pe_callB (cr_mn2 rfl) rfl T.f_min (by decide +kernel) (pa_cons (pv 4) (pa_cons (pe_op op_sub (pe_op op_plus (pv 11) (pe_gi rfl T.i_TILE)) (pe_op op_mod (pv 12) (pe_gi rfl T.i_TILE))) pa_nil))))
  (pss_cons (ps_set (i := 15) sc.nd rfl (by first | exact Or.inl rfl | exact Or.inr rfl) (pe_callC h_tile_dots (hr.mono (by decide)) rfl T.g_tile_dots (passE (takes_of rfl rfl rfl rfl) fun _ _ _ _ z => z) (pa_cons (pv 0) (pa_cons (pe_op op_mod (pv 13) pe_int) (pa_cons (pe_op op_mod (pv 9) (pe_gi rfl T.i_TILE)) (pa_cons (pe_op op_mod (pv 12) (pe_gi rfl T.i_TILE)) (pa_cons (pe_op op_sub (pe_op op_plus (pe_op op_mod (pv 12) (pe_gi rfl T.i_TILE)) (pv 14)) (pv 11)) pa_nil)))))))
  (pss_cons (ps_expr (pe_bm PySem.F.plainAttrs_list PySem.F.slot_list_extend PySem.F.type_list_extend mt_extend (pv 10) (pa_cons (pe_lc (own := [("number", 16)]) (by rfl) sc.nd (pi_list (pv 15)) (blkOk_by (N := N_ground_dots) (sc := defScope s_ground_dots) (by decide +kernel)) (fun _ _ _ _ _ => (pg_name (i := 16) sc.nd rfl (by first | exact Or.inl rfl | exact Or.inr rfl))) (fun _ _ _ _ _ => pts_nil) (fun _ _ _ _ _ => (pe_tup (pa_cons (pv 16) (pa_cons (pe_op op_mod (pe_op op_fdiv (pv 13) pe_int) pe_int) pa_nil))))) pa_nil)))
  (pss_one (ps_set (i := 11) sc.nd rfl (by first | exact Or.inl rfl | exact Or.inr rfl) (pv 14)))))))))
  (pss_one (ps_ret (pv 10)))))))))
abbrev N_mover_dots : List Str := ["sheet", "movers", "line", "first", "last", "found", "mover", "column", "number"]
def t_mover_dots (K : PySem.W.Frag) (E : XK) : TS :=
  (tSeq (tAsg tDNewK (gName 5))
  (tSeq (tFor (iList K (tVar 1)) (gName 6)
  (tFor (iRng2 (tCons (tCB rMx2 (tCons (tVar 3) (tCons (tOp (rIx K) (tVar 6) (tC (.int 4))) tNil))) (tCons (tCB rMn2 (tCons (tVar 4) (tCons (tOp (rPlus K) (tOp (rIx K) (tVar 6) (tC (.int 4))) (tC (.int 8))) tNil))) tNil))) (gName 7)
  (tSeq (tAsg (tCall (c_mover_pixel.sp K) [] E (tCons (tVar 0) (tCons (tVar 6) (tCons (tVar 7) (tCons (tVar 2) tNil))))) (gName 8))
  (tIfS (tAnd (tB (tDNotIn (tVar 7) (tVar 5))) (tTest (tOp (rNeQ K) (tVar 8) (tC (.int 0)))))
  (sDPut (tVar 5) (tVar 7) (tTup (tCons (tVar 6) (tCons (tVar 8) tNil))))
  tNext))))
  (tRet (tVar 5))))
theorem sc_mover_dots : FnScope N_mover_dots ["sheet", "movers", "line", "first", "last"] (defScope s_mover_dots) := ⟨rfl, rfl, rfl, by decide +kernel, rfl, by decide +kernel, by decide +kernel⟩
theorem ok_mover_dots {P : Program} {w : World} {K : PySem.W.Frag} {mg : Str → Option Value} {base : Heap} (T : Tx K mg) (F : ∃ fd, FunD K "mover_dots" "mover_dots" (defArgs s_mover_dots) (defBody s_mover_dots) (defScope s_mover_dots) [] [] (He.fAd K ("mover_dots", none)) fd) (h_mover_pixel : Cl P w K mg base 3 (He.fAd K ("mover_pixel", none)) ["sheet", "mover", "column", "line"] (c_mover_pixel.sp K))
    (hp : ∀ vs H Q E, c_mover_dots.sp K vs H Q E → t_mover_dots K E { nx := fun _ H' => Q .non H', rt := Q } (L2.start N_mover_dots vs) H) : Cl P w K mg base 4 (He.fAd K ("mover_dots", none)) ["sheet", "movers", "line", "first", "last"] (c_mover_dots.sp K) := by
  obtain ⟨fd, F⟩ := F
  refine ⟨fd, ?_, F.bindsN (ps := ["sheet", "movers", "line", "first", "last"]) (fun _ _ _ _ _ _ us hl => match us, hl with | [_, _, _, _, _], _ => rfl), F.kp⟩
  refine FunD.ok F sc_mover_dots (fun vs H Q E h => c_mover_dots.len (n := 5) (fun i => rfl) vs H Q E h) (fun cdv A outer s H vs Q E hr h => ⟨t_mover_dots K E, ?_, hp vs H Q E h⟩)
  have hu := hr.units
  have hu1 := hu_of hr
  have sc := sc_mover_dots
  exact (pss_cons (ps_set (i := 5) sc.nd rfl (by first | exact Or.inl rfl | exact Or.inr rfl) pe_dnewK)
  (pss_cons (ps_for (by first | exact passes_of rfl | assumption) rfl (pi_list (pv 1)) (pg_name (i := 6) sc.nd rfl (by first | exact Or.inl rfl | exact Or.inr rfl))
  (pss_one (ps_for (by first | exact passes_of rfl | assumption) rfl (pi_range2 rfl T.f_range (pa_cons (pe_callB (cr_mx2 rfl) rfl T.f_max (by decide +kernel) (pa_cons (pv 3) (pa_cons (pe_ix ix_seq (pv 6) pe_int (fun _ _ => rfl)) pa_nil))) (pa_cons (pe_callB (cr_mn2 rfl) rfl T.f_min (by decide +kernel) (pa_cons (pv 4) (pa_cons (pe_op op_plus (pe_ix ix_seq (pv 6) pe_int (fun _ _ => rfl)) (pe_gi rfl T.i_TILE)) pa_nil))) pa_nil))) (pg_name (i := 7) sc.nd rfl (by first | exact Or.inl rfl | exact Or.inr rfl))
  (pss_cons (ps_set (i := 8) sc.nd rfl (by first | exact Or.inl rfl | exact Or.inr rfl) (pe_callC h_mover_pixel (hr.mono (by decide)) rfl T.g_mover_pixel (passE (takes_of rfl rfl rfl rfl) fun _ _ _ _ z => z) (pa_cons (pv 0) (pa_cons (pv 6) (pa_cons (pv 7) (pa_cons (pv 2) pa_nil))))))
  (pss_one (ps_if (PW.pt (pw_and (pt_cmp (pc_dnotin hu1 (pv 7) (pv 5))) (pw_and1 (pt_cmpR (op_neQ hu) (pv 8) pe_int (nomark _)))))
  (pss_one (ps_dput hu1 (pv 5) (pv 7) (pe_tup (pa_cons (pv 6) (pa_cons (pv 8) pa_nil))) (by rfl)))
  pss_nil))))))
  (pss_one (ps_ret (pv 5)))))
abbrev N_dots_of : List Str := ["sheet", "settings", "movers", "line", "first", "last", "shown", "found", "hit", "k", "number", "group", "place", "mover", "dot"]
def t_dots_of (K : PySem.W.Frag) (E : XK) : TS :=
  (tSeq (tAsg (tCall (c_mover_dots.sp K) [] E (tCons (tVar 0) (tCons (tVar 2) (tCons (tVar 3) (tCons (tVar 4) (tCons (tVar 5) tNil)))))) (gName 6))
  (tSeq (tAsg (tLst tNil) (gName 7))
  (tSeq (tAsg (tC (.bl false)) (gName 8))
  (tSeq (tFor (iEnum K (tCons (tCall (c_ground_dots.sp K) [] E (tCons (tVar 0) (tCons (tVar 1) (tCons (tVar 3) (tCons (tVar 4) (tCons (tVar 5) tNil)))))) tNil)) (gTup K 2 (gCons (gName 9) (gCons (gTup K 2 (gCons (gName 10) (gCons (gName 11) gNil))) gNil)))
  (tSeq (tAsg (tOp (rPlus K) (tC (.int 96)) (tIf (tTest (tOp (rNeQ K) (tVar 10) (tC (.int 0)))) (tOp (rPlus K) (tOp rTimes (tC (.int 4)) (tVar 11)) (tVar 10)) (tC (.int 0)))) (gName 12))
  (tSeq (tIfS (tB (tDIn (tOp (rPlus K) (tVar 4) (tVar 9)) (tVar 6)))
  (tSeq (tAsg (tDGet (tVar 6) (tOp (rPlus K) (tVar 4) (tVar 9))) (gTup K 2 (gCons (gName 13) (gCons (gName 14) gNil))))
  (tSeq (tAsg (tOrV (tVar 8) (tAndV (tOp (rEqQ K) (tOp (rIx K) (tVar 13) (tC (.int 0))) (tC (.int 0))) (tOp (rNeQ K) (tVar 10) (tC (.int 0))))) (gName 8))
  (tIfS (tOr (tTest (tOp (rEqQ K) (tVar 10) (tC (.int 0)))) (tTest (tOp (rEqQ K) (tCall (c_bit.sp K) [] E (tCons (tOp (rIx K) (tVar 13) (tC (.int 3))) (tCons (tC (.int 5)) tNil))) (tC (.int 0)))))
  (tAsg (tOp (rPlus K) (tOp (rPlus K) (tC (.int 112)) (tOp rTimes (tC (.int 4)) (tOp rMd (tOp (rIx K) (tVar 13) (tC (.int 3))) (tC (.int 4))))) (tVar 14)) (gName 12))
  tNext)))
  tNext)
  (tDrop (tBM K "list" rAppend (tVar 7) (tCons (tOp rMd (tOp (rIx K) (tVar 0) (tVar 12)) (tC (.int 64))) tNil))))))
  (tRet (tTup (tCons (tVar 7) (tCons (tVar 8) tNil))))))))
theorem sc_dots_of : FnScope N_dots_of ["sheet", "settings", "movers", "line", "first", "last"] (defScope s_dots_of) := ⟨rfl, rfl, rfl, by decide +kernel, rfl, by decide +kernel, by decide +kernel⟩
theorem ok_dots_of {P : Program} {w : World} {K : PySem.W.Frag} {mg : Str → Option Value} {base : Heap} (T : Tx K mg) (F : ∃ fd, FunD K "dots_of" "dots_of" (defArgs s_dots_of) (defBody s_dots_of) (defScope s_dots_of) [] [] (He.fAd K ("dots_of", none)) fd) (h_mover_dots : Cl P w K mg base 4 (He.fAd K ("mover_dots", none)) ["sheet", "movers", "line", "first", "last"] (c_mover_dots.sp K)) (h_ground_dots : Cl P w K mg base 3 (He.fAd K ("ground_dots", none)) ["sheet", "settings", "line", "first", "last"] (c_ground_dots.sp K)) (h_bit : Cl P w K mg base 1 (He.fAd K ("bit", none)) ["byte", "k"] (c_bit.sp K))
    (hp : ∀ vs H Q E, c_dots_of.sp K vs H Q E → t_dots_of K E { nx := fun _ H' => Q .non H', rt := Q } (L2.start N_dots_of vs) H) : Cl P w K mg base 5 (He.fAd K ("dots_of", none)) ["sheet", "settings", "movers", "line", "first", "last"] (c_dots_of.sp K) := by
  obtain ⟨fd, F⟩ := F
  refine ⟨fd, ?_, F.bindsN (ps := ["sheet", "settings", "movers", "line", "first", "last"]) (fun _ _ _ _ _ _ us hl => match us, hl with | [_, _, _, _, _, _], _ => rfl), F.kp⟩
  refine FunD.ok F sc_dots_of (fun vs H Q E h => c_dots_of.len (n := 6) (fun i => rfl) vs H Q E h) (fun cdv A outer s H vs Q E hr h => ⟨t_dots_of K E, ?_, hp vs H Q E h⟩)
  have hu := hr.units
  have hu1 := hu_of hr
  have sc := sc_dots_of
  exact (pss_cons (ps_set (i := 6) sc.nd rfl (by first | exact Or.inl rfl | exact Or.inr rfl) (pe_callC h_mover_dots (hr.mono (by decide)) rfl T.g_mover_dots (passE (takes_of rfl rfl rfl rfl) fun _ _ _ _ z => z) (pa_cons (pv 0) (pa_cons (pv 2) (pa_cons (pv 3) (pa_cons (pv 4) (pa_cons (pv 5) pa_nil)))))))
  (pss_cons (ps_set (i := 7) sc.nd rfl (by first | exact Or.inl rfl | exact Or.inr rfl) (pe_lst pa_nil))
  (pss_cons (ps_set (i := 8) sc.nd rfl (by first | exact Or.inl rfl | exact Or.inr rfl) pe_bl)
  (pss_cons (ps_for (by first | exact passes_of rfl | assumption) rfl (pi_enum rfl T.f_enumerate (pa_cons (pe_callC h_ground_dots (hr.mono (by decide)) rfl T.g_ground_dots (passE (takes_of rfl rfl rfl rfl) fun _ _ _ _ z => z) (pa_cons (pv 0) (pa_cons (pv 1) (pa_cons (pv 3) (pa_cons (pv 4) (pa_cons (pv 5) pa_nil)))))) pa_nil)) (pg_tup rfl (pgs_cons (pg_name (i := 9) sc.nd rfl (by first | exact Or.inl rfl | exact Or.inr rfl)) (pgs_cons (pg_tup rfl (pgs_cons (pg_name (i := 10) sc.nd rfl (by first | exact Or.inl rfl | exact Or.inr rfl)) (pgs_cons (pg_name (i := 11) sc.nd rfl (by first | exact Or.inl rfl | exact Or.inr rfl)) pgs_nil))) pgs_nil)))
  (pss_cons (ps_set (i := 12) sc.nd rfl (by first | exact Or.inl rfl | exact Or.inr rfl) (pe_op op_plus (pe_gi rfl T.i_COLOURS) (pe_ifExp (pt_cmpR (op_neQ hu) (pv 10) pe_int (nomark _)) (pe_op op_plus (pe_op op_times pe_int (pv 11)) (pv 10)) pe_int)))
  (pss_cons (ps_if (pt_cmp (pc_din hu1 (pe_op op_plus (pv 4) (pv 9)) (pv 6)))
  (pss_cons (ps_asg (pe_dget hu1 (pv 6) (pe_op op_plus (pv 4) (pv 9)) (fun _ _ => rfl)) (pg_tup rfl (pgs_cons (pg_name (i := 13) sc.nd rfl (by first | exact Or.inl rfl | exact Or.inr rfl)) (pgs_cons (pg_name (i := 14) sc.nd rfl (by first | exact Or.inl rfl | exact Or.inr rfl)) pgs_nil))))
  (pss_cons (ps_set (i := 8) sc.nd rfl (by first | exact Or.inl rfl | exact Or.inr rfl) (pe_or (pv 8) (pe_one (pe_and (pe_cmpR (op_eqQ hu) (pe_ix ix_seq (pv 13) pe_int (fun _ _ => rfl)) pe_int (nomark _)) (pe_one (pe_cmpR (op_neQ hu) (pv 10) pe_int (nomark _)))))))
  (pss_one (ps_if (PW.pt (pw_or (pt_cmpR (op_eqQ hu) (pv 10) pe_int (nomark _)) (pw_or1 (pt_cmpR (op_eqQ hu) (pe_callC h_bit (hr.mono (by decide)) rfl T.g_bit (passE (takes_of rfl rfl rfl rfl) fun _ _ _ _ z => z) (pa_cons (pe_ix ix_seq (pv 13) pe_int (fun _ _ => rfl)) (pa_cons pe_int pa_nil))) pe_int (nomark _)))))
  (pss_one (ps_set (i := 12) sc.nd rfl (by first | exact Or.inl rfl | exact Or.inr rfl) (pe_op op_plus (pe_op op_plus (pe_gi rfl T.i_MOVER_COLOURS) (pe_op op_times pe_int (pe_op op_mod (pe_ix ix_seq (pv 13) pe_int (fun _ _ => rfl)) pe_int))) (pv 14))))
  pss_nil))))
  pss_nil)
  (pss_one (ps_expr (pe_bm PySem.F.plainAttrs_list PySem.F.slot_list_append PySem.F.type_list_append mt_append (pv 7) (pa_cons (pe_op op_mod (pe_ix ix_seq (pv 0) (pv 12) (fun _ _ => rfl)) pe_int) pa_nil)))))))
  (pss_one (ps_ret (pe_tup (pa_cons (pv 7) (pa_cons (pv 8) pa_nil)))))))))
abbrev N_l_law_draws : List Str := ["script", "draws", "k", "rest", "turn", "stirred"]
def t_l_law_draws (K : PySem.W.Frag) (E : XK) : TS :=
  (tSeq (tAsg (tLst tNil) (gName 1))
  (tSeq (tFor (iRng1 (tCons (tCB rMn2 (tCons (tC (.int 63)) (tCons (tCB (rLn K) (tCons (tVar 0) tNil)) tNil))) tNil)) (gName 2)
  (tSeq (tAsg (tCB rAb (tCons (tOp (rIx K) (tVar 0) (tVar 2)) tNil)) (gName 3))
  (tIfS (tTest (tOp rGe (tVar 3) (tOp rPw (tC (.int 10)) (tC (.int 18)))))
  (tFor (iRng1 (tCons (tC (.int 60)) tNil)) (gName 4)
  (tIfS (tTest (tOp rGt (tVar 3) (tC (.int 0))))
  (tSeq (tDrop (tBM K "list" rAppend (tVar 1) (tCons (tOp rMd (tCB rIn1 (tCons (tVar 3) tNil)) (tC (.int 65536))) tNil)))
  (tAsg (tOp rDv (tVar 3) (tC (.int 65536))) (gName 3)))
  tNext))
  (tSeq (tAsg (tOp rMd (tCB rIn1 (tCons (tOp (rPlus K) (tOp rTimes (tVar 3) (tC (.int 48271))) (tOp rTimes (tOp (rPlus K) (tVar 2) (tC (.int 1))) (tC (.int 69621)))) tNil)) (tC (.int 2147483647))) (gName 5))
  (tSeq (tAsg (tOp rMd (tCB rIn1 (tCons (tOp (rPlus K) (tOp (rPlus K) (tOp rTimes (tVar 5) (tC (.int 16807))) (tOp rTimes (tC (.int 11)) (tVar 2))) (tC (.int 5))) tNil)) (tC (.int 2147483629))) (gName 5))
  (tSeq (tDrop (tBM K "list" rAppend (tVar 1) (tCons (tOp rMd (tCB rIn1 (tCons (tVar 5) tNil)) (tC (.int 65536))) tNil)))
  (tDrop (tBM K "list" rAppend (tVar 1) (tCons (tOp rMd (tCB rIn1 (tCons (tOp rDv (tVar 5) (tC (.int 65536))) tNil)) (tC (.int 32768))) tNil)))))))))
  (tRet (tVar 1))))
theorem sc_l_law_draws : FnScope N_l_law_draws ["script"] (defScope s_l_law_draws) := ⟨rfl, rfl, rfl, by decide +kernel, rfl, by decide +kernel, by decide +kernel⟩
theorem ok_l_law_draws {P : Program} {w : World} {K : PySem.W.Frag} {mg : Str → Option Value} {base : Heap} (T : Tx K mg) (F : ∃ fd, FunD K "_law_draws" "_law_draws" (defArgs s_l_law_draws) (defBody s_l_law_draws) (defScope s_l_law_draws) [] [] (He.fAd K ("_law_draws", none)) fd) 
    (hp : ∀ vs H Q E, c_l_law_draws.sp K vs H Q E → t_l_law_draws K E { nx := fun _ H' => Q .non H', rt := Q } (L2.start N_l_law_draws vs) H) : Cl P w K mg base 1 (He.fAd K ("_law_draws", none)) ["script"] (c_l_law_draws.sp K) := by
  obtain ⟨fd, F⟩ := F
  refine ⟨fd, ?_, F.bindsN (ps := ["script"]) (fun _ _ _ _ _ _ us hl => match us, hl with | [_], _ => rfl), F.kp⟩
  refine FunD.ok F sc_l_law_draws (fun vs H Q E h => c_l_law_draws.len (n := 1) (fun i => rfl) vs H Q E h) (fun cdv A outer s H vs Q E hr h => ⟨t_l_law_draws K E, ?_, hp vs H Q E h⟩)
  have hu := hr.units
  have hu1 := hu_of hr
  have sc := sc_l_law_draws
  exact (pss_cons (ps_set (i := 1) sc.nd rfl (by first | exact Or.inl rfl | exact Or.inr rfl) (pe_lst pa_nil))
  (pss_cons (ps_for (by first | exact passes_of rfl | assumption) rfl (pi_range1 rfl T.f_range (pa_cons (pe_callB (cr_mn2 rfl) rfl T.f_min (by decide +kernel) (pa_cons pe_int (pa_cons (pe_callB cr_ln rfl T.f_len (by decide +kernel) (pa_cons (pv 0) pa_nil)) pa_nil))) pa_nil)) (pg_name (i := 2) sc.nd rfl (by first | exact Or.inl rfl | exact Or.inr rfl))
  (pss_cons (ps_set (i := 3) sc.nd rfl (by first | exact Or.inl rfl | exact Or.inr rfl) (pe_callB cr_ab rfl T.f_abs (by decide +kernel) (pa_cons (pe_ix ix_seq (pv 0) (pv 2) (fun _ _ => rfl)) pa_nil)))
  (pss_one (ps_if (pt_cmpR op_ge (pv 3) (pe_op op_pow pe_int pe_int) (nomark _))
  (pss_one (ps_for (by first | exact passes_of rfl | assumption) rfl (pi_range1 rfl T.f_range (pa_cons pe_int pa_nil)) (pg_name (i := 4) sc.nd rfl (by first | exact Or.inl rfl | exact Or.inr rfl))
  (pss_one (ps_if (pt_cmpR op_gt (pv 3) pe_int (nomark _))
  (pss_cons (ps_expr (pe_bm PySem.F.plainAttrs_list PySem.F.slot_list_append PySem.F.type_list_append mt_append (pv 1) (pa_cons (pe_op op_mod (pe_callTy cr_in1 rfl T.f_int (by decide +kernel) (pa_cons (pv 3) pa_nil)) pe_int) pa_nil)))
  (pss_one (ps_set (i := 3) sc.nd rfl (by first | exact Or.inl rfl | exact Or.inr rfl) (pe_op op_fdiv (pv 3) pe_int))))
  pss_nil))))
  (pss_cons (ps_set (i := 5) sc.nd rfl (by first | exact Or.inl rfl | exact Or.inr rfl) (pe_op op_mod (pe_callTy cr_in1 rfl T.f_int (by decide +kernel) (pa_cons (pe_op op_plus (pe_op op_times (pv 3) pe_int) (pe_op op_times (pe_op op_plus (pv 2) pe_int) pe_int)) pa_nil)) pe_int))
  (pss_cons (ps_set (i := 5) sc.nd rfl (by first | exact Or.inl rfl | exact Or.inr rfl) (pe_op op_mod (pe_callTy cr_in1 rfl T.f_int (by decide +kernel) (pa_cons (pe_op op_plus (pe_op op_plus (pe_op op_times (pv 5) pe_int) (pe_op op_times pe_int (pv 2))) pe_int) pa_nil)) pe_int))
  (pss_cons (ps_expr (pe_bm PySem.F.plainAttrs_list PySem.F.slot_list_append PySem.F.type_list_append mt_append (pv 1) (pa_cons (pe_op op_mod (pe_callTy cr_in1 rfl T.f_int (by decide +kernel) (pa_cons (pv 5) pa_nil)) pe_int) pa_nil)))
  (pss_one (ps_expr (pe_bm PySem.F.plainAttrs_list PySem.F.slot_list_append PySem.F.type_list_append mt_append (pv 1) (pa_cons (pe_op op_mod (pe_callTy cr_in1 rfl T.f_int (by decide +kernel) (pa_cons (pe_op op_fdiv (pv 5) pe_int) pa_nil)) pe_int) pa_nil)))))))))))
  (pss_one (ps_ret (pv 1)))))
abbrev N_l_law_mix : List Str := ["draws", "k", "many", "cell"]
def t_l_law_mix (K : PySem.W.Frag) (E : XK) : TS :=
  (tSeq (tAsg (tC (.int 0)) (gName 3))
  (tSeq (tIfS (tTest (tOp rGt (tCB (rLn K) (tCons (tVar 0) tNil)) (tC (.int 0))))
  (tAsg (tOp (rIx K) (tVar 0) (tOp rMd (tCB rIn1 (tCons (tVar 1) tNil)) (tCB (rLn K) (tCons (tVar 0) tNil)))) (gName 3))
  tNext)
  (tSeq (tIfS (tTest (tOp rLt (tVar 1) (tCB (rLn K) (tCons (tVar 0) tNil))))
  (tRet (tOp rMd (tCB rIn1 (tCons (tVar 3) tNil)) (tVar 2)))
  tNext)
  (tRet (tOp rMd (tCB rIn1 (tCons (tOp rDv (tCB rIn1 (tCons (tOp (rPlus K) (tOp rTimes (tVar 3) (tC (.int 7919))) (tOp rTimes (tVar 1) (tC (.int 104729)))) tNil)) (tC (.int 3))) tNil)) (tVar 2))))))
theorem sc_l_law_mix : FnScope N_l_law_mix ["draws", "k", "many"] (defScope s_l_law_mix) := ⟨rfl, rfl, rfl, by decide +kernel, rfl, by decide +kernel, by decide +kernel⟩
theorem ok_l_law_mix {P : Program} {w : World} {K : PySem.W.Frag} {mg : Str → Option Value} {base : Heap} (T : Tx K mg) (F : ∃ fd, FunD K "_law_mix" "_law_mix" (defArgs s_l_law_mix) (defBody s_l_law_mix) (defScope s_l_law_mix) [] [] (He.fAd K ("_law_mix", none)) fd) 
    (hp : ∀ vs H Q E, c_l_law_mix.sp K vs H Q E → t_l_law_mix K E { nx := fun _ H' => Q .non H', rt := Q } (L2.start N_l_law_mix vs) H) : Cl P w K mg base 1 (He.fAd K ("_law_mix", none)) ["draws", "k", "many"] (c_l_law_mix.sp K) := by
  obtain ⟨fd, F⟩ := F
  refine ⟨fd, ?_, F.bindsN (ps := ["draws", "k", "many"]) (fun _ _ _ _ _ _ us hl => match us, hl with | [_, _, _], _ => rfl), F.kp⟩
  refine FunD.ok F sc_l_law_mix (fun vs H Q E h => c_l_law_mix.len (n := 3) (fun i => rfl) vs H Q E h) (fun cdv A outer s H vs Q E hr h => ⟨t_l_law_mix K E, ?_, hp vs H Q E h⟩)
  have hu := hr.units
  have hu1 := hu_of hr
  have sc := sc_l_law_mix
  exact (pss_cons (ps_set (i := 3) sc.nd rfl (by first | exact Or.inl rfl | exact Or.inr rfl) pe_int)
  (pss_cons (ps_if (pt_cmpR op_gt (pe_callB cr_ln rfl T.f_len (by decide +kernel) (pa_cons (pv 0) pa_nil)) pe_int (nomark _))
  (pss_one (ps_set (i := 3) sc.nd rfl (by first | exact Or.inl rfl | exact Or.inr rfl) (pe_ix ix_seq (pv 0) (pe_op op_mod (pe_callTy cr_in1 rfl T.f_int (by decide +kernel) (pa_cons (pv 1) pa_nil)) (pe_callB cr_ln rfl T.f_len (by decide +kernel) (pa_cons (pv 0) pa_nil))) (fun _ _ => rfl))))
  pss_nil)
  (pss_cons (ps_if (pt_cmpR op_lt (pv 1) (pe_callB cr_ln rfl T.f_len (by decide +kernel) (pa_cons (pv 0) pa_nil)) (nomark _))
  (pss_one (ps_ret (pe_op op_mod (pe_callTy cr_in1 rfl T.f_int (by decide +kernel) (pa_cons (pv 3) pa_nil)) (pv 2))))
  pss_nil)
  (pss_one (ps_ret (pe_op op_mod (pe_callTy cr_in1 rfl T.f_int (by decide +kernel) (pa_cons (pe_op op_fdiv (pe_callTy cr_in1 rfl T.f_int (by decide +kernel) (pa_cons (pe_op op_plus (pe_op op_times (pv 3) pe_int) (pe_op op_times (pv 1) pe_int)) pa_nil)) pe_int) pa_nil)) (pv 2)))))))
abbrev N_l_law_bit : List Str := ["number", "k", "rest", "turn"]
def t_l_law_bit (K : PySem.W.Frag) (E : XK) : TS :=
  (tSeq (tAsg (tVar 0) (gName 2))
  (tSeq (tFor (iRng1 (tCons (tVar 1) tNil)) (gName 3)
  (tAsg (tOp rDv (tVar 2) (tC (.int 2))) (gName 2)))
  (tRet (tOp rMd (tCB rIn1 (tCons (tVar 2) tNil)) (tC (.int 2))))))
theorem sc_l_law_bit : FnScope N_l_law_bit ["number", "k"] (defScope s_l_law_bit) := ⟨rfl, rfl, rfl, by decide +kernel, rfl, by decide +kernel, by decide +kernel⟩
theorem ok_l_law_bit {P : Program} {w : World} {K : PySem.W.Frag} {mg : Str → Option Value} {base : Heap} (T : Tx K mg) (F : ∃ fd, FunD K "_law_bit" "_law_bit" (defArgs s_l_law_bit) (defBody s_l_law_bit) (defScope s_l_law_bit) [] [] (He.fAd K ("_law_bit", none)) fd) 
    (hp : ∀ vs H Q E, c_l_law_bit.sp K vs H Q E → t_l_law_bit K E { nx := fun _ H' => Q .non H', rt := Q } (L2.start N_l_law_bit vs) H) : Cl P w K mg base 1 (He.fAd K ("_law_bit", none)) ["number", "k"] (c_l_law_bit.sp K) := by
  obtain ⟨fd, F⟩ := F
  refine ⟨fd, ?_, F.bindsN (ps := ["number", "k"]) (fun _ _ _ _ _ _ us hl => match us, hl with | [_, _], _ => rfl), F.kp⟩
  refine FunD.ok F sc_l_law_bit (fun vs H Q E h => c_l_law_bit.len (n := 2) (fun i => rfl) vs H Q E h) (fun cdv A outer s H vs Q E hr h => ⟨t_l_law_bit K E, ?_, hp vs H Q E h⟩)
  have hu := hr.units
  have hu1 := hu_of hr
  have sc := sc_l_law_bit
  exact (pss_cons (ps_set (i := 2) sc.nd rfl (by first | exact Or.inl rfl | exact Or.inr rfl) (pv 0))
  (pss_cons (ps_for (by first | exact passes_of rfl | assumption) rfl (pi_range1 rfl T.f_range (pa_cons (pv 1) pa_nil)) (pg_name (i := 3) sc.nd rfl (by first | exact Or.inl rfl | exact Or.inr rfl))
  (pss_one (ps_set (i := 2) sc.nd rfl (by first | exact Or.inl rfl | exact Or.inr rfl) (pe_op op_fdiv (pv 2) pe_int))))
  (pss_one (ps_ret (pe_op op_mod (pe_callTy cr_in1 rfl T.f_int (by decide +kernel) (pa_cons (pv 2) pa_nil)) pe_int)))))
abbrev N_l_law_pixel : List Str := ["sheet", "tile", "row", "column", "at"]
def t_l_law_pixel (K : PySem.W.Frag) (E : XK) : TS :=
  (tSeq (tAsg (tOp (rPlus K) (tOp (rPlus K) (tC (.int 128)) (tOp rTimes (tC (.int 16)) (tVar 1))) (tOp rTimes (tC (.int 2)) (tVar 2))) (gName 4))
  (tRet (tOp (rPlus K) (tCall (c_l_law_bit.sp K) [] E (tCons (tOp (rIx K) (tVar 0) (tVar 4)) (tCons (tOp rSb (tC (.int 7)) (tVar 3)) tNil))) (tOp rTimes (tC (.int 2)) (tCall (c_l_law_bit.sp K) [] E (tCons (tOp (rIx K) (tVar 0) (tOp (rPlus K) (tVar 4) (tC (.int 1)))) (tCons (tOp rSb (tC (.int 7)) (tVar 3)) tNil)))))))
theorem sc_l_law_pixel : FnScope N_l_law_pixel ["sheet", "tile", "row", "column"] (defScope s_l_law_pixel) := ⟨rfl, rfl, rfl, by decide +kernel, rfl, by decide +kernel, by decide +kernel⟩
theorem ok_l_law_pixel {P : Program} {w : World} {K : PySem.W.Frag} {mg : Str → Option Value} {base : Heap} (T : Tx K mg) (F : ∃ fd, FunD K "_law_pixel" "_law_pixel" (defArgs s_l_law_pixel) (defBody s_l_law_pixel) (defScope s_l_law_pixel) [] [] (He.fAd K ("_law_pixel", none)) fd) (h_l_law_bit : Cl P w K mg base 1 (He.fAd K ("_law_bit", none)) ["number", "k"] (c_l_law_bit.sp K))
    (hp : ∀ vs H Q E, c_l_law_pixel.sp K vs H Q E → t_l_law_pixel K E { nx := fun _ H' => Q .non H', rt := Q } (L2.start N_l_law_pixel vs) H) : Cl P w K mg base 2 (He.fAd K ("_law_pixel", none)) ["sheet", "tile", "row", "column"] (c_l_law_pixel.sp K) := by
  obtain ⟨fd, F⟩ := F
  refine ⟨fd, ?_, F.bindsN (ps := ["sheet", "tile", "row", "column"]) (fun _ _ _ _ _ _ us hl => match us, hl with | [_, _, _, _], _ => rfl), F.kp⟩
  refine FunD.ok F sc_l_law_pixel (fun vs H Q E h => c_l_law_pixel.len (n := 4) (fun i => rfl) vs H Q E h) (fun cdv A outer s H vs Q E hr h => ⟨t_l_law_pixel K E, ?_, hp vs H Q E h⟩)
  have hu := hr.units
  have hu1 := hu_of hr
  have sc := sc_l_law_pixel
  exact (pss_cons (ps_set (i := 4) sc.nd rfl (by first | exact Or.inl rfl | exact Or.inr rfl) (pe_op op_plus (pe_op op_plus pe_int (pe_op op_times pe_int (pv 1))) (pe_op op_times pe_int (pv 2))))
  (pss_one (ps_ret (pe_op op_plus (pe_callC h_l_law_bit (hr.mono (by decide)) rfl T.g__law_bit (passE (takes_of rfl rfl rfl rfl) fun _ _ _ _ z => z) (pa_cons (pe_ix ix_seq (pv 0) (pv 4) (fun _ _ => rfl)) (pa_cons (pe_op op_sub pe_int (pv 3)) pa_nil))) (pe_op op_times pe_int (pe_callC h_l_law_bit (hr.mono (by decide)) rfl T.g__law_bit (passE (takes_of rfl rfl rfl rfl) fun _ _ _ _ z => z) (pa_cons (pe_ix ix_seq (pv 0) (pe_op op_plus (pv 4) pe_int) (fun _ _ => rfl)) (pa_cons (pe_op op_sub pe_int (pv 3)) pa_nil))))))))
abbrev N_l_law_ground : List Str := ["sheet", "settings", "column", "line", "across", "down", "byte"]
def t_l_law_ground (K : PySem.W.Frag) (E : XK) : TS :=
  (tSeq (tIfS (tTest (tOp (rEqQ K) (tCall (c_l_law_bit.sp K) [] E (tCons (tOp (rIx K) (tVar 1) (tC (.int 3))) (tCons (tC (.int 0)) tNil))) (tC (.int 0))))
  (tRet (tTup (tCons (tC (.int 0)) (tCons (tC (.int 0)) tNil))))
  tNext)
  (tSeq (tPar 4 5 (tCons (tOp rMd (tCB rIn1 (tCons (tOp (rPlus K) (tVar 2) (tOp (rIx K) (tVar 1) (tC (.int 0)))) tNil)) (tC (.int 64))) (tCons (tOp rMd (tCB rIn1 (tCons (tOp (rPlus K) (tVar 3) (tOp (rIx K) (tVar 1) (tC (.int 1)))) tNil)) (tC (.int 64))) tNil)))
  (tSeq (tAsg (tOp (rIx K) (tVar 0) (tOp (rPlus K) (tOp rTimes (tC (.int 8)) (tOp rDv (tVar 5) (tC (.int 8)))) (tOp rDv (tVar 4) (tC (.int 8))))) (gName 6))
  (tRet (tTup (tCons (tCall (c_l_law_pixel.sp K) [] E (tCons (tVar 0) (tCons (tOp rMd (tCB rIn1 (tCons (tVar 6) tNil)) (tC (.int 32))) (tCons (tOp rMd (tCB rIn1 (tCons (tVar 5) tNil)) (tC (.int 8))) (tCons (tOp rMd (tCB rIn1 (tCons (tVar 4) tNil)) (tC (.int 8))) tNil))))) (tCons (tOp rMd (tCB rIn1 (tCons (tOp rDv (tVar 6) (tC (.int 32))) tNil)) (tC (.int 4))) tNil)))))))
theorem sc_l_law_ground : FnScope N_l_law_ground ["sheet", "settings", "column", "line"] (defScope s_l_law_ground) := ⟨rfl, rfl, rfl, by decide +kernel, rfl, by decide +kernel, by decide +kernel⟩
theorem ok_l_law_ground {P : Program} {w : World} {K : PySem.W.Frag} {mg : Str → Option Value} {base : Heap} (T : Tx K mg) (F : ∃ fd, FunD K "_law_ground" "_law_ground" (defArgs s_l_law_ground) (defBody s_l_law_ground) (defScope s_l_law_ground) [] [] (He.fAd K ("_law_ground", none)) fd) (h_l_law_bit : Cl P w K mg base 1 (He.fAd K ("_law_bit", none)) ["number", "k"] (c_l_law_bit.sp K)) (h_l_law_pixel : Cl P w K mg base 2 (He.fAd K ("_law_pixel", none)) ["sheet", "tile", "row", "column"] (c_l_law_pixel.sp K))
    (hp : ∀ vs H Q E, c_l_law_ground.sp K vs H Q E → t_l_law_ground K E { nx := fun _ H' => Q .non H', rt := Q } (L2.start N_l_law_ground vs) H) : Cl P w K mg base 3 (He.fAd K ("_law_ground", none)) ["sheet", "settings", "column", "line"] (c_l_law_ground.sp K) := by
  obtain ⟨fd, F⟩ := F
  refine ⟨fd, ?_, F.bindsN (ps := ["sheet", "settings", "column", "line"]) (fun _ _ _ _ _ _ us hl => match us, hl with | [_, _, _, _], _ => rfl), F.kp⟩
  refine FunD.ok F sc_l_law_ground (fun vs H Q E h => c_l_law_ground.len (n := 4) (fun i => rfl) vs H Q E h) (fun cdv A outer s H vs Q E hr h => ⟨t_l_law_ground K E, ?_, hp vs H Q E h⟩)
  have hu := hr.units
  have hu1 := hu_of hr
  have sc := sc_l_law_ground
  exact (pss_cons (ps_if (pt_cmpR (op_eqQ hu) (pe_callC h_l_law_bit (hr.mono (by decide)) rfl T.g__law_bit (passE (takes_of rfl rfl rfl rfl) fun _ _ _ _ z => z) (pa_cons (pe_ix ix_seq (pv 1) pe_int (fun _ _ => rfl)) (pa_cons pe_int pa_nil))) pe_int (nomark _))
  (pss_one (ps_ret (pe_tup (pa_cons pe_int (pa_cons pe_int pa_nil)))))
  pss_nil)
  (pss_cons (ps_par (i := 4) (j := 5) (by rfl) sc.nd rfl rfl (by decide) rfl rfl (pa_cons (pe_op op_mod (pe_callTy cr_in1 rfl T.f_int (by decide +kernel) (pa_cons (pe_op op_plus (pv 2) (pe_ix ix_seq (pv 1) pe_int (fun _ _ => rfl))) pa_nil)) pe_int) (pa_cons (pe_op op_mod (pe_callTy cr_in1 rfl T.f_int (by decide +kernel) (pa_cons (pe_op op_plus (pv 3) (pe_ix ix_seq (pv 1) pe_int (fun _ _ => rfl))) pa_nil)) pe_int) pa_nil)) (by rfl))
  (pss_cons (ps_set (i := 6) sc.nd rfl (by first | exact Or.inl rfl | exact Or.inr rfl) (pe_ix ix_seq (pv 0) (pe_op op_plus (pe_op op_times pe_int (pe_op op_fdiv (pv 5) pe_int)) (pe_op op_fdiv (pv 4) pe_int)) (fun _ _ => rfl)))
  (pss_one (ps_ret (pe_tup (pa_cons (pe_callC h_l_law_pixel (hr.mono (by decide)) rfl T.g__law_pixel (passE (takes_of rfl rfl rfl rfl) fun _ _ _ _ z => z) (pa_cons (pv 0) (pa_cons (pe_op op_mod (pe_callTy cr_in1 rfl T.f_int (by decide +kernel) (pa_cons (pv 6) pa_nil)) pe_int) (pa_cons (pe_op op_mod (pe_callTy cr_in1 rfl T.f_int (by decide +kernel) (pa_cons (pv 5) pa_nil)) pe_int) (pa_cons (pe_op op_mod (pe_callTy cr_in1 rfl T.f_int (by decide +kernel) (pa_cons (pv 4) pa_nil)) pe_int) pa_nil))))) (pa_cons (pe_op op_mod (pe_callTy cr_in1 rfl T.f_int (by decide +kernel) (pa_cons (pe_op op_fdiv (pv 6) pe_int) pa_nil)) pe_int) pa_nil))))))))
abbrev N_l_law_dot : List Str := ["sheet", "settings", "movers", "column", "line", "number", "group", "colour", "hit", "shown", "own", "y", "tile", "looks", "x", "row", "across", "other"]
def t_l_law_dot (K : PySem.W.Frag) (E : XK) : TS :=
  (tSeq (tAsg (tCall (c_l_law_ground.sp K) [] E (tCons (tVar 0) (tCons (tVar 1) (tCons (tVar 3) (tCons (tVar 4) tNil))))) (gTup K 2 (gCons (gName 5) (gCons (gName 6) gNil))))
  (tSeq (tPar3 7 8 9 (tCons (tOp (rPlus K) (tC (.int 96)) (tOp (rIx K) (tLst (tCons (tC (.int 0)) (tCons (tOp (rPlus K) (tOp rTimes (tC (.int 4)) (tVar 6)) (tVar 5)) tNil))) (tCB rIn1 (tCons (tOp rGt (tVar 5) (tC (.int 0))) tNil)))) (tCons (tC (.bl false)) (tCons (tC (.bl false)) tNil))))
  (tSeq (tFor (iList K (tVar 2)) (gTup K 5 (gCons (gName 10) (gCons (gName 11) (gCons (gName 12) (gCons (gName 13) (gCons (gName 14) gNil))))))
  (tIfS (tAnd (tNot (tB (tVar 9))) (tAnd (tTest (tChain rLe rLt (tVar 14) (tVar 3) (tOp (rPlus K) (tVar 14) (tC (.int 8))))) (tTest (tChain rLe rLt (tVar 11) (tVar 4) (tOp (rPlus K) (tVar 11) (tC (.int 8)))))))
  (tSeq (tPar 15 16 (tCons (tOp rSb (tVar 4) (tVar 11)) (tCons (tOp rSb (tVar 3) (tVar 14)) tNil)))
  (tSeq (tIfS (tTest (tOp (rEqQ K) (tCall (c_l_law_bit.sp K) [] E (tCons (tVar 13) (tCons (tC (.int 7)) tNil))) (tC (.int 1))))
  (tAsg (tOp rSb (tC (.int 7)) (tVar 15)) (gName 15))
  tNext)
  (tSeq (tIfS (tTest (tOp (rEqQ K) (tCall (c_l_law_bit.sp K) [] E (tCons (tVar 13) (tCons (tC (.int 6)) tNil))) (tC (.int 1))))
  (tAsg (tOp rSb (tC (.int 7)) (tVar 16)) (gName 16))
  tNext)
  (tSeq (tAsg (tCall (c_l_law_pixel.sp K) [] E (tCons (tVar 0) (tCons (tOp rMd (tCB rIn1 (tCons (tVar 12) tNil)) (tC (.int 32))) (tCons (tVar 15) (tCons (tVar 16) tNil))))) (gName 17))
  (tIfS (tTest (tOp rGt (tVar 17) (tC (.int 0))))
  (tSeq (tPar 9 8 (tCons (tC (.bl true)) (tCons (tAndV (tOp (rEqQ K) (tVar 10) (tC (.int 0))) (tOp rGt (tVar 5) (tC (.int 0)))) tNil)))
  (tIfS (tOr (tTest (tOp (rEqQ K) (tCall (c_l_law_bit.sp K) [] E (tCons (tVar 13) (tCons (tC (.int 5)) tNil))) (tC (.int 0)))) (tTest (tOp (rEqQ K) (tVar 5) (tC (.int 0)))))
  (tAsg (tOp (rPlus K) (tOp (rPlus K) (tC (.int 112)) (tOp rTimes (tC (.int 4)) (tOp rMd (tCB rIn1 (tCons (tVar 13) tNil)) (tC (.int 4))))) (tVar 17)) (gName 7))
  tNext))
  tNext)))))
  tNext))
  (tRet (tTup (tCons (tOp rMd (tCB rIn1 (tCons (tOp (rIx K) (tVar 0) (tVar 7)) tNil)) (tC (.int 64))) (tCons (tVar 8) tNil)))))))
theorem sc_l_law_dot : FnScope N_l_law_dot ["sheet", "settings", "movers", "column", "line"] (defScope s_l_law_dot) := ⟨rfl, rfl, rfl, by decide +kernel, rfl, by decide +kernel, by decide +kernel⟩
theorem ok_l_law_dot {P : Program} {w : World} {K : PySem.W.Frag} {mg : Str → Option Value} {base : Heap} (T : Tx K mg) (F : ∃ fd, FunD K "_law_dot" "_law_dot" (defArgs s_l_law_dot) (defBody s_l_law_dot) (defScope s_l_law_dot) [] [] (He.fAd K ("_law_dot", none)) fd) (h_l_law_ground : Cl P w K mg base 3 (He.fAd K ("_law_ground", none)) ["sheet", "settings", "column", "line"] (c_l_law_ground.sp K)) (h_l_law_bit : Cl P w K mg base 1 (He.fAd K ("_law_bit", none)) ["number", "k"] (c_l_law_bit.sp K)) (h_l_law_pixel : Cl P w K mg base 2 (He.fAd K ("_law_pixel", none)) ["sheet", "tile", "row", "column"] (c_l_law_pixel.sp K))
    (hp : ∀ vs H Q E, c_l_law_dot.sp K vs H Q E → t_l_law_dot K E { nx := fun _ H' => Q .non H', rt := Q } (L2.start N_l_law_dot vs) H) : Cl P w K mg base 4 (He.fAd K ("_law_dot", none)) ["sheet", "settings", "movers", "column", "line"] (c_l_law_dot.sp K) := by
  obtain ⟨fd, F⟩ := F
  refine ⟨fd, ?_, F.bindsN (ps := ["sheet", "settings", "movers", "column", "line"]) (fun _ _ _ _ _ _ us hl => match us, hl with | [_, _, _, _, _], _ => rfl), F.kp⟩
  refine FunD.ok F sc_l_law_dot (fun vs H Q E h => c_l_law_dot.len (n := 5) (fun i => rfl) vs H Q E h) (fun cdv A outer s H vs Q E hr h => ⟨t_l_law_dot K E, ?_, hp vs H Q E h⟩)
  have hu := hr.units
  have hu1 := hu_of hr
  have sc := sc_l_law_dot
  exact (pss_cons (ps_asg (pe_callC h_l_law_ground (hr.mono (by decide)) rfl T.g__law_ground (passE (takes_of rfl rfl rfl rfl) fun _ _ _ _ z => z) (pa_cons (pv 0) (pa_cons (pv 1) (pa_cons (pv 3) (pa_cons (pv 4) pa_nil))))) (pg_tup rfl (pgs_cons (pg_name (i := 5) sc.nd rfl (by first | exact Or.inl rfl | exact Or.inr rfl)) (pgs_cons (pg_name (i := 6) sc.nd rfl (by first | exact Or.inl rfl | exact Or.inr rfl)) pgs_nil))))
  (pss_cons (ps_par3 (i := 7) (j := 8) (l := 9) (by rfl) sc.nd rfl rfl rfl (by decide) (by decide) (by decide) rfl rfl rfl (pa_cons (pe_op op_plus pe_int (pe_ix ix_seq (pe_lst (pa_cons pe_int (pa_cons (pe_op op_plus (pe_op op_times pe_int (pv 6)) (pv 5)) pa_nil))) (pe_callTy cr_in1 rfl T.f_int (by decide +kernel) (pa_cons (pe_cmpR op_gt (pv 5) pe_int (nomark _)) pa_nil)) (fun _ _ => rfl))) (pa_cons pe_bl (pa_cons pe_bl pa_nil))) (by rfl))
  (pss_cons (ps_for (by first | exact passes_of rfl | assumption) rfl (pi_list (pv 2)) (pg_tup rfl (pgs_cons (pg_name (i := 10) sc.nd rfl (by first | exact Or.inl rfl | exact Or.inr rfl)) (pgs_cons (pg_name (i := 11) sc.nd rfl (by first | exact Or.inl rfl | exact Or.inr rfl)) (pgs_cons (pg_name (i := 12) sc.nd rfl (by first | exact Or.inl rfl | exact Or.inr rfl)) (pgs_cons (pg_name (i := 13) sc.nd rfl (by first | exact Or.inl rfl | exact Or.inr rfl)) (pgs_cons (pg_name (i := 14) sc.nd rfl (by first | exact Or.inl rfl | exact Or.inr rfl)) pgs_nil))))))
  (pss_one (ps_if (PW.pt (pw_and (pt_not (pt_val (pv 9) (by intro _; rfl))) (pw_and (pt_chain op_le op_lt (pv 14) (pv 3) (pe_op op_plus (pv 14) pe_int)) (pw_and1 (pt_chain op_le op_lt (pv 11) (pv 4) (pe_op op_plus (pv 11) pe_int))))))
  (pss_cons (ps_par (i := 15) (j := 16) (by rfl) sc.nd rfl rfl (by decide) rfl rfl (pa_cons (pe_op op_sub (pv 4) (pv 11)) (pa_cons (pe_op op_sub (pv 3) (pv 14)) pa_nil)) (by rfl))
  (pss_cons (ps_if (pt_cmpR (op_eqQ hu) (pe_callC h_l_law_bit (hr.mono (by decide)) rfl T.g__law_bit (passE (takes_of rfl rfl rfl rfl) fun _ _ _ _ z => z) (pa_cons (pv 13) (pa_cons pe_int pa_nil))) pe_int (nomark _))
  (pss_one (ps_set (i := 15) sc.nd rfl (by first | exact Or.inl rfl | exact Or.inr rfl) (pe_op op_sub pe_int (pv 15))))
  pss_nil)
  (pss_cons (ps_if (pt_cmpR (op_eqQ hu) (pe_callC h_l_law_bit (hr.mono (by decide)) rfl T.g__law_bit (passE (takes_of rfl rfl rfl rfl) fun _ _ _ _ z => z) (pa_cons (pv 13) (pa_cons pe_int pa_nil))) pe_int (nomark _))
  (pss_one (ps_set (i := 16) sc.nd rfl (by first | exact Or.inl rfl | exact Or.inr rfl) (pe_op op_sub pe_int (pv 16))))
  pss_nil)
  (pss_cons (ps_set (i := 17) sc.nd rfl (by first | exact Or.inl rfl | exact Or.inr rfl) (pe_callC h_l_law_pixel (hr.mono (by decide)) rfl T.g__law_pixel (passE (takes_of rfl rfl rfl rfl) fun _ _ _ _ z => z) (pa_cons (pv 0) (pa_cons (pe_op op_mod (pe_callTy cr_in1 rfl T.f_int (by decide +kernel) (pa_cons (pv 12) pa_nil)) pe_int) (pa_cons (pv 15) (pa_cons (pv 16) pa_nil))))))
  (pss_one (ps_if (pt_cmpR op_gt (pv 17) pe_int (nomark _))
  (pss_cons (ps_par (i := 9) (j := 8) (by rfl) sc.nd rfl rfl (by decide) rfl rfl (pa_cons pe_bl (pa_cons (pe_and (pe_cmpR (op_eqQ hu) (pv 10) pe_int (nomark _)) (pe_one (pe_cmpR op_gt (pv 5) pe_int (nomark _)))) pa_nil)) (by rfl))
  (pss_one (ps_if (PW.pt (pw_or (pt_cmpR (op_eqQ hu) (pe_callC h_l_law_bit (hr.mono (by decide)) rfl T.g__law_bit (passE (takes_of rfl rfl rfl rfl) fun _ _ _ _ z => z) (pa_cons (pv 13) (pa_cons pe_int pa_nil))) pe_int (nomark _)) (pw_or1 (pt_cmpR (op_eqQ hu) (pv 5) pe_int (nomark _)))))
  (pss_one (ps_set (i := 7) sc.nd rfl (by first | exact Or.inl rfl | exact Or.inr rfl) (pe_op op_plus (pe_op op_plus pe_int (pe_op op_times pe_int (pe_op op_mod (pe_callTy cr_in1 rfl T.f_int (by decide +kernel) (pa_cons (pv 13) pa_nil)) pe_int))) (pv 17))))
  pss_nil)))
  pss_nil))))))
  pss_nil)))
  (pss_one (ps_ret (pe_tup (pa_cons (pe_op op_mod (pe_callTy cr_in1 rfl T.f_int (by decide +kernel) (pa_cons (pe_ix ix_seq (pv 0) (pv 7) (fun _ _ => rfl)) pa_nil)) pe_int) (pa_cons (pv 8) pa_nil))))))))
abbrev N_l_law_movers : List Str := ["draws", "k", "column", "line", "found", "own", "at", "x"]
def t_l_law_movers (K : PySem.W.Frag) (E : XK) : TS :=
  (tSeq (tAsg (tLst tNil) (gName 4))
  (tSeq (tFor (iRng1 (tCons (tC (.int 8)) tNil)) (gName 5)
  (tSeq (tAsg (tOp (rPlus K) (tVar 1) (tOp rTimes (tC (.int 6)) (tVar 5))) (gName 6))
  (tIfS (tAnd (tTest (tOp rLt (tCB (rLn K) (tCons (tVar 4) tNil)) (tC (.int 4)))) (tTest (tOp (rEqQ K) (tCall (c_l_law_mix.sp K) [] E (tCons (tVar 0) (tCons (tVar 6) (tCons (tC (.int 3)) tNil)))) (tC (.int 0)))))
  (tSeq (tAsg (tOp (rIx K) (tLst (tCons (tCB rMx2 (tCons (tC (.int 0)) (tCons (tOp rSb (tVar 2) (tCall (c_l_law_mix.sp K) [] E (tCons (tVar 0) (tCons (tOp (rPlus K) (tVar 6) (tC (.int 1))) (tCons (tC (.int 10)) tNil))))) tNil))) (tCons (tCall (c_l_law_mix.sp K) [] E (tCons (tVar 0) (tCons (tOp (rPlus K) (tVar 6) (tC (.int 1))) (tCons (tC (.int 256)) tNil)))) (tCons (tC (.int 255)) tNil)))) (tOp (rIx K) (tLst (tCons (tC (.int 0)) (tCons (tC (.int 0)) (tCons (tC (.int 0)) (tCons (tC (.int 1)) (tCons (tC (.int 2)) tNil)))))) (tCall (c_l_law_mix.sp K) [] E (tCons (tVar 0) (tCons (tOp (rPlus K) (tVar 6) (tC (.int 2))) (tCons (tC (.int 5)) tNil)))))) (gName 7))
  (tDrop (tBM K "list" rAppend (tVar 4) (tCons (tTup (tCons (tVar 5) (tCons (tOp rSb (tVar 3) (tCall (c_l_law_mix.sp K) [] E (tCons (tVar 0) (tCons (tOp (rPlus K) (tVar 6) (tC (.int 3))) (tCons (tCB rMn2 (tCons (tC (.int 8)) (tCons (tOp (rPlus K) (tVar 3) (tC (.int 1))) tNil))) tNil))))) (tCons (tCall (c_l_law_mix.sp K) [] E (tCons (tVar 0) (tCons (tOp (rPlus K) (tVar 6) (tC (.int 4))) (tCons (tC (.int 256)) tNil)))) (tCons (tCall (c_l_law_mix.sp K) [] E (tCons (tVar 0) (tCons (tOp (rPlus K) (tVar 6) (tC (.int 5))) (tCons (tC (.int 256)) tNil)))) (tCons (tVar 7) tNil)))))) tNil))))
  tNext)))
  (tRet (tVar 4))))
theorem sc_l_law_movers : FnScope N_l_law_movers ["draws", "k", "column", "line"] (defScope s_l_law_movers) := ⟨rfl, rfl, rfl, by decide +kernel, rfl, by decide +kernel, by decide +kernel⟩
theorem ok_l_law_movers {P : Program} {w : World} {K : PySem.W.Frag} {mg : Str → Option Value} {base : Heap} (T : Tx K mg) (F : ∃ fd, FunD K "_law_movers" "_law_movers" (defArgs s_l_law_movers) (defBody s_l_law_movers) (defScope s_l_law_movers) [] [] (He.fAd K ("_law_movers", none)) fd) (h_l_law_mix : Cl P w K mg base 1 (He.fAd K ("_law_mix", none)) ["draws", "k", "many"] (c_l_law_mix.sp K))
    (hp : ∀ vs H Q E, c_l_law_movers.sp K vs H Q E → t_l_law_movers K E { nx := fun _ H' => Q .non H', rt := Q } (L2.start N_l_law_movers vs) H) : Cl P w K mg base 2 (He.fAd K ("_law_movers", none)) ["draws", "k", "column", "line"] (c_l_law_movers.sp K) := by
  obtain ⟨fd, F⟩ := F
  refine ⟨fd, ?_, F.bindsN (ps := ["draws", "k", "column", "line"]) (fun _ _ _ _ _ _ us hl => match us, hl with | [_, _, _, _], _ => rfl), F.kp⟩
  refine FunD.ok F sc_l_law_movers (fun vs H Q E h => c_l_law_movers.len (n := 4) (fun i => rfl) vs H Q E h) (fun cdv A outer s H vs Q E hr h => ⟨t_l_law_movers K E, ?_, hp vs H Q E h⟩)
  have hu := hr.units
  have hu1 := hu_of hr
  have sc := sc_l_law_movers
  exact (pss_cons (ps_set (i := 4) sc.nd rfl (by first | exact Or.inl rfl | exact Or.inr rfl) (pe_lst pa_nil))
  (pss_cons (ps_for (by first | exact passes_of rfl | assumption) rfl (pi_range1 rfl T.f_range (pa_cons pe_int pa_nil)) (pg_name (i := 5) sc.nd rfl (by first | exact Or.inl rfl | exact Or.inr rfl))
  (pss_cons (ps_set (i := 6) sc.nd rfl (by first | exact Or.inl rfl | exact Or.inr rfl) (pe_op op_plus (pv 1) (pe_op op_times pe_int (pv 5))))
  (pss_one (ps_if (PW.pt (pw_and (pt_cmpR op_lt (pe_callB cr_ln rfl T.f_len (by decide +kernel) (pa_cons (pv 4) pa_nil)) pe_int (nomark _)) (pw_and1 (pt_cmpR (op_eqQ hu) (pe_callC h_l_law_mix (hr.mono (by decide)) rfl T.g__law_mix (passE (takes_of rfl rfl rfl rfl) fun _ _ _ _ z => z) (pa_cons (pv 0) (pa_cons (pv 6) (pa_cons pe_int pa_nil)))) pe_int (nomark _)))))
  (pss_cons (ps_set (i := 7) sc.nd rfl (by first | exact Or.inl rfl | exact Or.inr rfl) (pe_ix ix_seq (pe_lst (pa_cons (pe_callB (cr_mx2 rfl) rfl T.f_max (by decide +kernel) (pa_cons pe_int (pa_cons (pe_op op_sub (pv 2) (pe_callC h_l_law_mix (hr.mono (by decide)) rfl T.g__law_mix (passE (takes_of rfl rfl rfl rfl) fun _ _ _ _ z => z) (pa_cons (pv 0) (pa_cons (pe_op op_plus (pv 6) pe_int) (pa_cons pe_int pa_nil))))) pa_nil))) (pa_cons (pe_callC h_l_law_mix (hr.mono (by decide)) rfl T.g__law_mix (passE (takes_of rfl rfl rfl rfl) fun _ _ _ _ z => z) (pa_cons (pv 0) (pa_cons (pe_op op_plus (pv 6) pe_int) (pa_cons pe_int pa_nil)))) (pa_cons pe_int pa_nil)))) (pe_ix ix_seq (pe_lst (pa_cons pe_int (pa_cons pe_int (pa_cons pe_int (pa_cons pe_int (pa_cons pe_int pa_nil)))))) (pe_callC h_l_law_mix (hr.mono (by decide)) rfl T.g__law_mix (passE (takes_of rfl rfl rfl rfl) fun _ _ _ _ z => z) (pa_cons (pv 0) (pa_cons (pe_op op_plus (pv 6) pe_int) (pa_cons pe_int pa_nil)))) (fun _ _ => rfl)) (fun _ _ => rfl)))
  (pss_one (ps_expr (pe_bm PySem.F.plainAttrs_list PySem.F.slot_list_append PySem.F.type_list_append mt_append (pv 4) (pa_cons (pe_tup (pa_cons (pv 5) (pa_cons (pe_op op_sub (pv 3) (pe_callC h_l_law_mix (hr.mono (by decide)) rfl T.g__law_mix (passE (takes_of rfl rfl rfl rfl) fun _ _ _ _ z => z) (pa_cons (pv 0) (pa_cons (pe_op op_plus (pv 6) pe_int) (pa_cons (pe_callB (cr_mn2 rfl) rfl T.f_min (by decide +kernel) (pa_cons pe_int (pa_cons (pe_op op_plus (pv 3) pe_int) pa_nil))) pa_nil))))) (pa_cons (pe_callC h_l_law_mix (hr.mono (by decide)) rfl T.g__law_mix (passE (takes_of rfl rfl rfl rfl) fun _ _ _ _ z => z) (pa_cons (pv 0) (pa_cons (pe_op op_plus (pv 6) pe_int) (pa_cons pe_int pa_nil)))) (pa_cons (pe_callC h_l_law_mix (hr.mono (by decide)) rfl T.g__law_mix (passE (takes_of rfl rfl rfl rfl) fun _ _ _ _ z => z) (pa_cons (pv 0) (pa_cons (pe_op op_plus (pv 6) pe_int) (pa_cons pe_int pa_nil)))) (pa_cons (pv 7) pa_nil)))))) pa_nil)))))
  pss_nil))))
  (pss_one (ps_ret (pv 4)))))
abbrev N_law : List Str := ["script", "draws", "kind", "sheet", "byte", "kept", "turn", "k", "settings", "line", "column", "movers", "due", "across", "first", "last", "one", "tile", "row", "told", "t", "rows", "good"]
def t_law (K : PySem.W.Frag) (E : XK) : TS :=
  (tSeq (tAsg (tCall (c_l_law_draws.sp K) [] E (tCons (tVar 0) tNil)) (gName 1))
  (tSeq (tAsg (tCall (c_l_law_mix.sp K) [] E (tCons (tVar 1) (tCons (tC (.int 1)) (tCons (tC (.int 3)) tNil)))) (gName 2))
  (tSeq (tAsg (tLc (iRng1 (tCons (tC (.int 1024)) tNil)) (gName 20) tYes (tOp (rIx K) (tLst (tCons (tOp (rPlus K) (tOp rTimes (tCall (c_l_law_mix.sp K) [] E0 (tCons (tVar 1) (tCons (tOp (rPlus K) (tC (.int 100)) (tOp rMd (tVar 20) (tC (.int 200)))) (tCons (tC (.int 256)) tNil)))) (tOp (rPlus K) (tVar 20) (tC (.int 1)))) (tOp rDv (tOp rTimes (tVar 20) (tVar 20)) (tC (.int 7)))) (tCons (tOp (rIx K) (tLst (tCons (tC (.int 255)) (tCons (tC (.int 0)) (tCons (tC (.int 170)) tNil)))) (tCall (c_l_law_mix.sp K) [] E0 (tCons (tVar 1) (tCons (tOp (rPlus K) (tC (.int 100)) (tOp rMd (tVar 20) (tC (.int 200)))) (tCons (tC (.int 3)) tNil))))) (tCons (tCall (c_l_law_mix.sp K) [] E0 (tCons (tVar 1) (tCons (tOp (rPlus K) (tC (.int 100)) (tOp rMd (tVar 20) (tC (.int 200)))) (tCons (tC (.int 256)) tNil)))) tNil)))) (tVar 2)) [20]) (gName 3))
  (tSeq (tAsg (tLc (iList K (tVar 3)) (gName 4) tYes (tOp rMd (tCB rIn1 (tCons (tVar 4) tNil)) (tC (.int 256))) [4]) (gName 3))
  (tSeq (tAsg (tCB (rLo K) (tCons (tVar 3) tNil)) (gName 5))
  (tSeq (tFor (iRng1 (tCons (tC (.int 10)) tNil)) (gName 6)
  (tSeq (tAsg (tOp (rPlus K) (tC (.int 400)) (tOp rTimes (tC (.int 70)) (tVar 6))) (gName 7))
  (tSeq (tAsg (tTup (tCons (tCall (c_l_law_mix.sp K) [] E (tCons (tVar 1) (tCons (tVar 7) (tCons (tC (.int 256)) tNil)))) (tCons (tCall (c_l_law_mix.sp K) [] E (tCons (tVar 1) (tCons (tOp (rPlus K) (tVar 7) (tC (.int 1))) (tCons (tC (.int 256)) tNil)))) (tCons (tCall (c_l_law_mix.sp K) [] E (tCons (tVar 1) (tCons (tOp (rPlus K) (tVar 7) (tC (.int 2))) (tCons (tC (.int 256)) tNil)))) (tCons (tOp (rIx K) (tLst (tCons (tC (.int 3)) (tCons (tC (.int 1)) (tCons (tC (.int 2)) (tCons (tC (.int 0)) (tCons (tC (.int 15)) (tCons (tCall (c_l_law_mix.sp K) [] E (tCons (tVar 1) (tCons (tOp (rPlus K) (tVar 7) (tC (.int 3))) (tCons (tC (.int 16)) tNil)))) tNil))))))) (tCall (c_l_law_mix.sp K) [] E (tCons (tVar 1) (tCons (tOp (rPlus K) (tVar 7) (tC (.int 4))) (tCons (tC (.int 6)) tNil))))) tNil))))) (gName 8))
  (tSeq (tAsg (tTup (tCons (tCall (c_l_law_mix.sp K) [] E (tCons (tVar 1) (tCons (tOp (rPlus K) (tVar 7) (tC (.int 5))) (tCons (tC (.int 24)) tNil)))) (tCons (tCall (c_l_law_mix.sp K) [] E (tCons (tVar 1) (tCons (tOp (rPlus K) (tVar 7) (tC (.int 6))) (tCons (tC (.int 32)) tNil)))) tNil))) (gTup K 2 (gCons (gName 9) (gCons (gName 10) gNil))))
  (tSeq (tAsg (tCall (c_l_law_movers.sp K) [] E (tCons (tVar 1) (tCons (tOp (rPlus K) (tVar 7) (tC (.int 10))) (tCons (tVar 10) (tCons (tVar 9) tNil))))) (gName 11))
  (tSeq (tAsg (tLc (iRng1 (tCons (tC (.int 32)) tNil)) (gName 13) tYes (tCall (c_l_law_dot.sp K) [] E0 (tCons (tVar 3) (tCons (tVar 8) (tCons (tVar 11) (tCons (tVar 13) (tCons (tVar 9) tNil)))))) [13]) (gName 12))
  (tSeq (tIfS (tTest (tOp (rNeQ K) (tLc (iRng1 (tCons (tC (.int 32)) tNil)) (gName 13) tYes (tCall (c_dot_at.sp K) [] E0 (tCons (tVar 3) (tCons (tVar 8) (tCons (tCB (rLo K) (tCons (tVar 11) tNil)) (tCons (tVar 13) (tCons (tVar 9) tNil)))))) [13]) (tVar 12)))
  (tRet (tC (.bl false)))
  tNext)
  (tSeq (tAsg (tCall (c_l_law_mix.sp K) [] E (tCons (tVar 1) (tCons (tOp (rPlus K) (tVar 7) (tC (.int 8))) (tCons (tC (.int 33)) tNil)))) (gName 14))
  (tSeq (tAsg (tOp (rPlus K) (tVar 14) (tCall (c_l_law_mix.sp K) [] E (tCons (tVar 1) (tCons (tOp (rPlus K) (tVar 7) (tC (.int 9))) (tCons (tOp rSb (tC (.int 33)) (tVar 14)) tNil))))) (gName 15))
  (tSeq (tIfS (tTest (tOp (rNeQ K) (tCall (c_dots_of.sp K) [] E (tCons (tVar 3) (tCons (tVar 8) (tCons (tCB (rLo K) (tCons (tVar 11) tNil)) (tCons (tVar 9) (tCons (tVar 14) (tCons (tVar 15) tNil))))))) (tTup (tCons (tLc (iList K (tSl (rSlQ K) (tVar 12) (tPart (tVar 14)) (tPart (tVar 15)))) (gName 16) tYes (tOp (rIx K) (tVar 16) (tC (.int 0))) [16]) (tCons (tOp (rNeQ K) (tLc (iList K (tSl (rSlQ K) (tVar 12) (tPart (tVar 14)) (tPart (tVar 15)))) (gName 16) (tB (tOp (rIx K) (tVar 16) (tC (.int 1)))) (tVar 16) [16]) (tLst tNil)) tNil)))))
  (tRet (tC (.bl false)))
  tNext)
  (tSeq (tIfS (tTest (tOp (rNeQ K) (tLc (iRng1 (tCons (tC (.int 32)) tNil)) (gName 13) tYes (tCall (c_ground_at.sp K) [] E0 (tCons (tVar 3) (tCons (tVar 8) (tCons (tVar 13) (tCons (tVar 9) tNil))))) [13]) (tLc (iRng1 (tCons (tC (.int 32)) tNil)) (gName 13) tYes (tCall (c_l_law_ground.sp K) [] E0 (tCons (tVar 3) (tCons (tVar 8) (tCons (tVar 13) (tCons (tVar 9) tNil))))) [13])))
  (tRet (tC (.bl false)))
  tNext)
  (tSeq (tAsg (tTup (tCons (tCall (c_l_law_mix.sp K) [] E (tCons (tVar 1) (tCons (tOp (rPlus K) (tVar 7) (tC (.int 60))) (tCons (tC (.int 32)) tNil)))) (tCons (tCall (c_l_law_mix.sp K) [] E (tCons (tVar 1) (tCons (tOp (rPlus K) (tVar 7) (tC (.int 61))) (tCons (tC (.int 8)) tNil)))) tNil))) (gTup K 2 (gCons (gName 17) (gCons (gName 18) gNil))))
  (tSeq (tIfS (tTest (tOp (rNeQ K) (tLc (iRng1 (tCons (tC (.int 8)) tNil)) (gName 13) tYes (tCall (c_pixel.sp K) [] E0 (tCons (tVar 3) (tCons (tVar 17) (tCons (tVar 18) (tCons (tVar 13) tNil))))) [13]) (tLc (iRng1 (tCons (tC (.int 8)) tNil)) (gName 13) tYes (tCall (c_l_law_pixel.sp K) [] E0 (tCons (tVar 3) (tCons (tVar 17) (tCons (tVar 18) (tCons (tVar 13) tNil))))) [13])))
  (tRet (tC (.bl false)))
  tNext)
  (tSeq (tAsg (tCB (rLo K) (tCons (tVar 3) tNil)) (gName 19))
  (tSeq (tFor (iRng1 (tCons (tC (.int 8)) tNil)) (gName 20)
  (tAsg (tLst (tCons (tOp (rIx K) (tLst (tCons (tVar 9) (tCons (tCB rMx2 (tCons (tC (.int 0)) (tCons (tOp rSb (tVar 9) (tC (.int 7))) tNil))) (tCons (tCB rMx2 (tCons (tC (.int 0)) (tCons (tOp rSb (tVar 9) (tC (.int 8))) tNil))) (tCons (tOp (rPlus K) (tVar 9) (tC (.int 1))) (tCons (tC (.int 255)) (tCons (tC (.int 250)) (tCons (tCall (c_l_law_mix.sp K) [] E (tCons (tVar 1) (tCons (tOp (rPlus K) (tVar 7) (tC (.int 62))) (tCons (tC (.int 256)) tNil)))) tNil)))))))) (tCall (c_l_law_mix.sp K) [] E (tCons (tVar 1) (tCons (tOp (rPlus K) (tOp (rPlus K) (tVar 7) (tC (.int 10))) (tVar 20)) (tCons (tC (.int 7)) tNil))))) (tCons (tVar 20) (tCons (tOp rTimes (tC (.int 5)) (tVar 20)) (tCons (tOp rTimes (tC (.int 9)) (tVar 20)) tNil))))) (gSlc (tVar 19) (tPart (tOp (rPlus K) (tC (.int 64)) (tOp rTimes (tC (.int 4)) (tVar 20)))) (tPart (tOp (rPlus K) (tC (.int 68)) (tOp rTimes (tC (.int 4)) (tVar 20)))))))
  (tSeq (tAsg (tLc (iRng1 (tCons (tC (.int 8)) tNil)) (gName 20) (tTest (tChain rLe rLt (tOp (rIx K) (tVar 19) (tOp (rPlus K) (tC (.int 64)) (tOp rTimes (tC (.int 4)) (tVar 20)))) (tVar 9) (tOp (rPlus K) (tOp (rIx K) (tVar 19) (tOp (rPlus K) (tC (.int 64)) (tOp rTimes (tC (.int 4)) (tVar 20)))) (tC (.int 8))))) (tOp (rPlus K) (tTup (tCons (tVar 20) tNil)) (tCB (rTo K) (tCons (tSl (rSlQ K) (tVar 19) (tPart (tOp (rPlus K) (tC (.int 64)) (tOp rTimes (tC (.int 4)) (tVar 20)))) (tPart (tOp (rPlus K) (tC (.int 68)) (tOp rTimes (tC (.int 4)) (tVar 20))))) tNil))) [20]) (gName 21))
  (tSeq (tAsg (tOp (rIx K) (tLst (tCons (tTup (tCons (tLst tNil) (tCons (tC (.bl false)) tNil))) (tCons (tTup (tCons (tSl (rSlQ K) (tVar 21) tNoPart (tPart (tC (.int 4)))) (tCons (tOp rGt (tCB (rLn K) (tCons (tVar 21) tNil)) (tC (.int 4))) tNil))) tNil))) (tCall (c_l_law_bit.sp K) [] E (tCons (tOp (rIx K) (tVar 8) (tC (.int 3))) (tCons (tC (.int 1)) tNil)))) (gName 22))
  (tIfS (tOr (tTest (tOp (rNeQ K) (tCall (c_movers_at.sp K) [] E (tCons (tCB (rLo K) (tCons (tVar 19) tNil)) (tCons (tVar 8) (tCons (tVar 9) tNil)))) (tVar 22))) (tTest (tOp (rNeQ K) (tCall (c_movers_at.sp K) [] E (tCons (tCB (rLo K) (tCons (tVar 19) tNil)) (tCons (tVar 8) (tCons (tOp (rPlus K) (tC (.int 24)) (tCall (c_l_law_mix.sp K) [] E (tCons (tVar 1) (tCons (tOp (rPlus K) (tVar 7) (tC (.int 63))) (tCons (tC (.int 8)) tNil))))) tNil)))) (tTup (tCons (tLst tNil) (tCons (tC (.bl false)) tNil))))))
  (tRet (tC (.bl false)))
  tNext))))))))))))))))))
  (tRet (tOp (rEqQ K) (tVar 3) (tVar 5)))))))))
theorem sc_law : FnScope N_law ["script"] (defScope s_law) := ⟨rfl, rfl, rfl, by decide +kernel, rfl, by decide +kernel, by decide +kernel⟩
theorem okF_law {P : Program} {w : World} {K : PySem.W.Frag} {mg : Str → Option Value} {base : Heap} (T : Tx K mg) {fd : FuncData} (F : FunD K "law" "law" (defArgs s_law) (defBody s_law) (defScope s_law) [] [] (He.fAd K ("law", none)) fd) (h_l_law_draws : Cl P w K mg base 1 (He.fAd K ("_law_draws", none)) ["script"] (c_l_law_draws.sp K)) (h_l_law_mix : Cl P w K mg base 1 (He.fAd K ("_law_mix", none)) ["draws", "k", "many"] (c_l_law_mix.sp K)) (h_l_law_movers : Cl P w K mg base 2 (He.fAd K ("_law_movers", none)) ["draws", "k", "column", "line"] (c_l_law_movers.sp K)) (h_l_law_dot : Cl P w K mg base 4 (He.fAd K ("_law_dot", none)) ["sheet", "settings", "movers", "column", "line"] (c_l_law_dot.sp K)) (h_dot_at : Cl P w K mg base 6 (He.fAd K ("dot_at", none)) ["sheet", "settings", "movers", "column", "line"] (c_dot_at.sp K)) (h_dots_of : Cl P w K mg base 5 (He.fAd K ("dots_of", none)) ["sheet", "settings", "movers", "line", "first", "last"] (c_dots_of.sp K)) (h_ground_at : Cl P w K mg base 6 (He.fAd K ("ground_at", none)) ["sheet", "settings", "column", "line"] (c_ground_at.sp K)) (h_l_law_ground : Cl P w K mg base 3 (He.fAd K ("_law_ground", none)) ["sheet", "settings", "column", "line"] (c_l_law_ground.sp K)) (h_pixel : Cl P w K mg base 6 (He.fAd K ("pixel", none)) ["sheet", "tile", "row", "column"] (c_pixel.sp K)) (h_l_law_pixel : Cl P w K mg base 2 (He.fAd K ("_law_pixel", none)) ["sheet", "tile", "row", "column"] (c_l_law_pixel.sp K)) (h_l_law_bit : Cl P w K mg base 1 (He.fAd K ("_law_bit", none)) ["number", "k"] (c_l_law_bit.sp K)) (h_movers_at : Cl P w K mg base 6 (He.fAd K ("movers_at", none)) ["sheet", "settings", "line"] (c_movers_at.sp K))
    (hp : ∀ vs H Q E, c_law.sp K vs H Q E → t_law K E { nx := fun _ H' => Q .non H', rt := Q } (L2.start N_law vs) H) : FnOk P w K mg base (L2.CX P w) 7 (He.fAd K ("law", none)) fd ["script"] (c_law.sp K) := by
  refine FunD.ok F sc_law (fun vs H Q E h => c_law.len (n := 1) (fun i => rfl) vs H Q E h) (fun cdv A outer s H vs Q E hr h => ⟨t_law K E, ?_, hp vs H Q E h⟩)
  have hu := hr.units
  have hu1 := hu_of hr
  have sc := sc_law
  exact (pss_cons (ps_set (i := 1) sc.nd rfl (by first | exact Or.inl rfl | exact Or.inr rfl) (pe_callC h_l_law_draws (hr.mono (by decide)) rfl T.g__law_draws (passE (takes_of rfl rfl rfl rfl) fun _ _ _ _ z => z) (pa_cons (pv 0) pa_nil)))
  (pss_cons (ps_set (i := 2) sc.nd rfl (by first | exact Or.inl rfl | exact Or.inr rfl) (pe_callC h_l_law_mix (hr.mono (by decide)) rfl T.g__law_mix (passE (takes_of rfl rfl rfl rfl) fun _ _ _ _ z => z) (pa_cons (pv 1) (pa_cons pe_int (pa_cons pe_int pa_nil)))))
  (pss_cons (ps_set (i := 3) sc.nd rfl (by first | exact Or.inl rfl | exact Or.inr rfl) (pe_lc (own := [("t", 20)]) (by rfl) sc.nd (pi_range1 rfl T.f_range (pa_cons pe_int pa_nil)) (blkOk_by (N := N_law) (sc := defScope s_law) (by decide +kernel)) (fun _ _ _ _ _ => (pg_name (i := 20) sc.nd rfl (by first | exact Or.inl rfl | exact Or.inr rfl))) (fun _ _ _ _ _ => pts_nil) (fun _ _ _ _ _ => (pe_ix ix_seq (pe_lst (pa_cons (pe_op op_plus (pe_op op_times (pe_callC h_l_law_mix (hr.mono (by decide)) rfl T.g__law_mix passL (pa_cons (pv 1) (pa_cons (pe_op op_plus pe_int (pe_op op_mod (pv 20) pe_int)) (pa_cons pe_int pa_nil)))) (pe_op op_plus (pv 20) pe_int)) (pe_op op_fdiv (pe_op op_times (pv 20) (pv 20)) pe_int)) (pa_cons (pe_ix ix_seq (pe_lst (pa_cons pe_int (pa_cons pe_int (pa_cons pe_int pa_nil)))) (pe_callC h_l_law_mix (hr.mono (by decide)) rfl T.g__law_mix passL (pa_cons (pv 1) (pa_cons (pe_op op_plus pe_int (pe_op op_mod (pv 20) pe_int)) (pa_cons pe_int pa_nil)))) (fun _ _ => rfl)) (pa_cons (pe_callC h_l_law_mix (hr.mono (by decide)) rfl T.g__law_mix passL (pa_cons (pv 1) (pa_cons (pe_op op_plus pe_int (pe_op op_mod (pv 20) pe_int)) (pa_cons pe_int pa_nil)))) pa_nil)))) (pv 2) (fun _ _ => rfl)))))
  (pss_cons (ps_set (i := 3) sc.nd rfl (by first | exact Or.inl rfl | exact Or.inr rfl) (pe_lc (own := [("byte", 4)]) (by rfl) sc.nd (pi_list (pv 3)) (blkOk_by (N := N_law) (sc := defScope s_law) (by decide +kernel)) (fun _ _ _ _ _ => (pg_name (i := 4) sc.nd rfl (by first | exact Or.inl rfl | exact Or.inr rfl))) (fun _ _ _ _ _ => pts_nil) (fun _ _ _ _ _ => (pe_op op_mod (pe_callTy cr_in1 rfl T.f_int (by decide +kernel) (pa_cons (pv 4) pa_nil)) pe_int))))
  (pss_cons (ps_set (i := 5) sc.nd rfl (by first | exact Or.inl rfl | exact Or.inr rfl) (pe_callTy cr_lo rfl T.f_list (by decide +kernel) (pa_cons (pv 3) pa_nil)))
  (pss_cons (ps_for (by first | exact passes_of rfl | assumption) rfl (pi_range1 rfl T.f_range (pa_cons pe_int pa_nil)) (pg_name (i := 6) sc.nd rfl (by first | exact Or.inl rfl | exact Or.inr rfl))
  (pss_cons (ps_set (i := 7) sc.nd rfl (by first | exact Or.inl rfl | exact Or.inr rfl) (pe_op op_plus pe_int (pe_op op_times pe_int (pv 6))))
  (pss_cons (ps_set (i := 8) sc.nd rfl (by first | exact Or.inl rfl | exact Or.inr rfl) (pe_tup (pa_cons (pe_callC h_l_law_mix (hr.mono (by decide)) rfl T.g__law_mix (passE (takes_of rfl rfl rfl rfl) fun _ _ _ _ z => z) (pa_cons (pv 1) (pa_cons (pv 7) (pa_cons pe_int pa_nil)))) (pa_cons (pe_callC h_l_law_mix (hr.mono (by decide)) rfl T.g__law_mix (passE (takes_of rfl rfl rfl rfl) fun _ _ _ _ z => z) (pa_cons (pv 1) (pa_cons (pe_op op_plus (pv 7) pe_int) (pa_cons pe_int pa_nil)))) (pa_cons (pe_callC h_l_law_mix (hr.mono (by decide)) rfl T.g__law_mix (passE (takes_of rfl rfl rfl rfl) fun _ _ _ _ z => z) (pa_cons (pv 1) (pa_cons (pe_op op_plus (pv 7) pe_int) (pa_cons pe_int pa_nil)))) (pa_cons (pe_ix ix_seq (pe_lst (pa_cons pe_int (pa_cons pe_int (pa_cons pe_int (pa_cons pe_int (pa_cons pe_int (pa_cons (pe_callC h_l_law_mix (hr.mono (by decide)) rfl T.g__law_mix (passE (takes_of rfl rfl rfl rfl) fun _ _ _ _ z => z) (pa_cons (pv 1) (pa_cons (pe_op op_plus (pv 7) pe_int) (pa_cons pe_int pa_nil)))) pa_nil))))))) (pe_callC h_l_law_mix (hr.mono (by decide)) rfl T.g__law_mix (passE (takes_of rfl rfl rfl rfl) fun _ _ _ _ z => z) (pa_cons (pv 1) (pa_cons (pe_op op_plus (pv 7) pe_int) (pa_cons pe_int pa_nil)))) (fun _ _ => rfl)) pa_nil))))))
  (pss_cons (ps_asg (pe_tup (pa_cons (pe_callC h_l_law_mix (hr.mono (by decide)) rfl T.g__law_mix (passE (takes_of rfl rfl rfl rfl) fun _ _ _ _ z => z) (pa_cons (pv 1) (pa_cons (pe_op op_plus (pv 7) pe_int) (pa_cons pe_int pa_nil)))) (pa_cons (pe_callC h_l_law_mix (hr.mono (by decide)) rfl T.g__law_mix (passE (takes_of rfl rfl rfl rfl) fun _ _ _ _ z => z) (pa_cons (pv 1) (pa_cons (pe_op op_plus (pv 7) pe_int) (pa_cons pe_int pa_nil)))) pa_nil))) (pg_tup rfl (pgs_cons (pg_name (i := 9) sc.nd rfl (by first | exact Or.inl rfl | exact Or.inr rfl)) (pgs_cons (pg_name (i := 10) sc.nd rfl (by first | exact Or.inl rfl | exact Or.inr rfl)) pgs_nil))))
  (pss_cons (ps_set (i := 11) sc.nd rfl (by first | exact Or.inl rfl | exact Or.inr rfl) (pe_callC h_l_law_movers (hr.mono (by decide)) rfl T.g__law_movers (passE (takes_of rfl rfl rfl rfl) fun _ _ _ _ z => z) (pa_cons (pv 1) (pa_cons (pe_op op_plus (pv 7) pe_int) (pa_cons (pv 10) (pa_cons (pv 9) pa_nil))))))
  (pss_cons (ps_setLc (i := 12) (own := [("across", 13)]) (by rfl) sc.nd rfl rfl (sw_true rfl rfl rfl (by decide +kernel)) (pi_range1 rfl T.f_range (pa_cons pe_int pa_nil)) (blkOk_by (N := N_law) (sc := defScope s_law) (by decide +kernel)) (fun _ _ _ _ _ => (pg_name (i := 13) sc.nd rfl (by first | exact Or.inl rfl | exact Or.inr rfl))) (fun _ _ _ _ _ => pts_nil) (fun _ _ _ _ _ => (pe_callC h_l_law_dot (hr.mono (by decide)) rfl T.g__law_dot passL (pa_cons (pv 3) (pa_cons (pv 8) (pa_cons (pv 11) (pa_cons (pv 13) (pa_cons (pv 9) pa_nil))))))))
  (pss_cons (ps_if (pt_cmpR (op_neQ hu) (pe_lc (own := [("across", 13)]) (by rfl) sc.nd (pi_range1 rfl T.f_range (pa_cons pe_int pa_nil)) (blkOk_by (N := N_law) (sc := defScope s_law) (by decide +kernel)) (fun _ _ _ _ _ => (pg_name (i := 13) sc.nd rfl (by first | exact Or.inl rfl | exact Or.inr rfl))) (fun _ _ _ _ _ => pts_nil) (fun _ _ _ _ _ => (pe_callC h_dot_at (hr.mono (by decide)) rfl T.g_dot_at passL (pa_cons (pv 3) (pa_cons (pv 8) (pa_cons (pe_callTy cr_lo rfl T.f_list (by decide +kernel) (pa_cons (pv 11) pa_nil)) (pa_cons (pv 13) (pa_cons (pv 9) pa_nil)))))))) (pv 12) (nomark _))
  (pss_one (ps_ret pe_bl))
  pss_nil)
  (pss_cons (ps_set (i := 14) sc.nd rfl (by first | exact Or.inl rfl | exact Or.inr rfl) (pe_callC h_l_law_mix (hr.mono (by decide)) rfl T.g__law_mix (passE (takes_of rfl rfl rfl rfl) fun _ _ _ _ z => z) (pa_cons (pv 1) (pa_cons (pe_op op_plus (pv 7) pe_int) (pa_cons pe_int pa_nil)))))
  (pss_cons (ps_set (i := 15) sc.nd rfl (by first | exact Or.inl rfl | exact Or.inr rfl) (pe_op op_plus (pv 14) (pe_callC h_l_law_mix (hr.mono (by decide)) rfl T.g__law_mix (passE (takes_of rfl rfl rfl rfl) fun _ _ _ _ z => z) (pa_cons (pv 1) (pa_cons (pe_op op_plus (pv 7) pe_int) (pa_cons (pe_op op_sub pe_int (pv 14)) pa_nil))))))
  (pss_cons (ps_if (pt_cmpR (op_neQ hu) (pe_callC h_dots_of (hr.mono (by decide)) rfl T.g_dots_of (passE (takes_of rfl rfl rfl rfl) fun _ _ _ _ z => z) (pa_cons (pv 3) (pa_cons (pv 8) (pa_cons (pe_callTy cr_lo rfl T.f_list (by decide +kernel) (pa_cons (pv 11) pa_nil)) (pa_cons (pv 9) (pa_cons (pv 14) (pa_cons (pv 15) pa_nil))))))) (pe_tup (pa_cons (pe_lc (own := [("one", 16)]) (by rfl) sc.nd (pi_list (pe_slice sl_q (pv 12) (po_some (pv 14)) (po_some (pv 15)))) (blkOk_by (N := N_law) (sc := defScope s_law) (by decide +kernel)) (fun _ _ _ _ _ => (pg_name (i := 16) sc.nd rfl (by first | exact Or.inl rfl | exact Or.inr rfl))) (fun _ _ _ _ _ => pts_nil) (fun _ _ _ _ _ => (pe_ix ix_seq (pv 16) pe_int (fun _ _ => rfl)))) (pa_cons (pe_cmpR (op_neQ hu) (pe_lc (own := [("one", 16)]) (by rfl) sc.nd (pi_list (pe_slice sl_q (pv 12) (po_some (pv 14)) (po_some (pv 15)))) (blkOk_by (N := N_law) (sc := defScope s_law) (by decide +kernel)) (fun _ _ _ _ _ => (pg_name (i := 16) sc.nd rfl (by first | exact Or.inl rfl | exact Or.inr rfl))) (fun _ _ _ _ _ => (pts_one (pt_val (pe_ix ix_seq (pv 16) pe_int (fun _ _ => rfl)) (by intro _; rfl)))) (fun _ _ _ _ _ => (pv 16))) (pe_lst pa_nil) (nomark _)) pa_nil))) (nomark _))
  (pss_one (ps_ret pe_bl))
  pss_nil)
  (pss_cons (ps_if (pt_cmpR (op_neQ hu) (pe_lc (own := [("across", 13)]) (by rfl) sc.nd (pi_range1 rfl T.f_range (pa_cons pe_int pa_nil)) (blkOk_by (N := N_law) (sc := defScope s_law) (by decide +kernel)) (fun _ _ _ _ _ => (pg_name (i := 13) sc.nd rfl (by first | exact Or.inl rfl | exact Or.inr rfl))) (fun _ _ _ _ _ => pts_nil) (fun _ _ _ _ _ => (pe_callC h_ground_at (hr.mono (by decide)) rfl T.g_ground_at passL (pa_cons (pv 3) (pa_cons (pv 8) (pa_cons (pv 13) (pa_cons (pv 9) pa_nil))))))) (pe_lc (own := [("across", 13)]) (by rfl) sc.nd (pi_range1 rfl T.f_range (pa_cons pe_int pa_nil)) (blkOk_by (N := N_law) (sc := defScope s_law) (by decide +kernel)) (fun _ _ _ _ _ => (pg_name (i := 13) sc.nd rfl (by first | exact Or.inl rfl | exact Or.inr rfl))) (fun _ _ _ _ _ => pts_nil) (fun _ _ _ _ _ => (pe_callC h_l_law_ground (hr.mono (by decide)) rfl T.g__law_ground passL (pa_cons (pv 3) (pa_cons (pv 8) (pa_cons (pv 13) (pa_cons (pv 9) pa_nil))))))) (nomark _))
  (pss_one (ps_ret pe_bl))
  pss_nil)
  (pss_cons (ps_asg (pe_tup (pa_cons (pe_callC h_l_law_mix (hr.mono (by decide)) rfl T.g__law_mix (passE (takes_of rfl rfl rfl rfl) fun _ _ _ _ z => z) (pa_cons (pv 1) (pa_cons (pe_op op_plus (pv 7) pe_int) (pa_cons pe_int pa_nil)))) (pa_cons (pe_callC h_l_law_mix (hr.mono (by decide)) rfl T.g__law_mix (passE (takes_of rfl rfl rfl rfl) fun _ _ _ _ z => z) (pa_cons (pv 1) (pa_cons (pe_op op_plus (pv 7) pe_int) (pa_cons pe_int pa_nil)))) pa_nil))) (pg_tup rfl (pgs_cons (pg_name (i := 17) sc.nd rfl (by first | exact Or.inl rfl | exact Or.inr rfl)) (pgs_cons (pg_name (i := 18) sc.nd rfl (by first | exact Or.inl rfl | exact Or.inr rfl)) pgs_nil))))
  (pss_cons (ps_if (pt_cmpR (op_neQ hu) (pe_lc (own := [("across", 13)]) (by rfl) sc.nd (pi_range1 rfl T.f_range (pa_cons pe_int pa_nil)) (blkOk_by (N := N_law) (sc := defScope s_law) (by decide +kernel)) (fun _ _ _ _ _ => (pg_name (i := 13) sc.nd rfl (by first | exact Or.inl rfl | exact Or.inr rfl))) (fun _ _ _ _ _ => pts_nil) (fun _ _ _ _ _ => (pe_callC h_pixel (hr.mono (by decide)) rfl T.g_pixel passL (pa_cons (pv 3) (pa_cons (pv 17) (pa_cons (pv 18) (pa_cons (pv 13) pa_nil))))))) (pe_lc (own := [("across", 13)]) (by rfl) sc.nd (pi_range1 rfl T.f_range (pa_cons pe_int pa_nil)) (blkOk_by (N := N_law) (sc := defScope s_law) (by decide +kernel)) (fun _ _ _ _ _ => (pg_name (i := 13) sc.nd rfl (by first | exact Or.inl rfl | exact Or.inr rfl))) (fun _ _ _ _ _ => pts_nil) (fun _ _ _ _ _ => (pe_callC h_l_law_pixel (hr.mono (by decide)) rfl T.g__law_pixel passL (pa_cons (pv 3) (pa_cons (pv 17) (pa_cons (pv 18) (pa_cons (pv 13) pa_nil))))))) (nomark _))
  (pss_one (ps_ret pe_bl))
  pss_nil)
  (pss_cons (ps_set (i := 19) sc.nd rfl (by first | exact Or.inl rfl | exact Or.inr rfl) (pe_callTy cr_lo rfl T.f_list (by decide +kernel) (pa_cons (pv 3) pa_nil)))
  (pss_cons (ps_for (by first | exact passes_of rfl | assumption) rfl (pi_range1 rfl T.f_range (pa_cons pe_int pa_nil)) (pg_name (i := 20) sc.nd rfl (by first | exact Or.inl rfl | exact Or.inr rfl))
  (pss_one (ps_asg (pe_lst (pa_cons (pe_ix ix_seq (pe_lst (pa_cons (pv 9) (pa_cons (pe_callB (cr_mx2 rfl) rfl T.f_max (by decide +kernel) (pa_cons pe_int (pa_cons (pe_op op_sub (pv 9) pe_int) pa_nil))) (pa_cons (pe_callB (cr_mx2 rfl) rfl T.f_max (by decide +kernel) (pa_cons pe_int (pa_cons (pe_op op_sub (pv 9) pe_int) pa_nil))) (pa_cons (pe_op op_plus (pv 9) pe_int) (pa_cons pe_int (pa_cons pe_int (pa_cons (pe_callC h_l_law_mix (hr.mono (by decide)) rfl T.g__law_mix (passE (takes_of rfl rfl rfl rfl) fun _ _ _ _ z => z) (pa_cons (pv 1) (pa_cons (pe_op op_plus (pv 7) pe_int) (pa_cons pe_int pa_nil)))) pa_nil)))))))) (pe_callC h_l_law_mix (hr.mono (by decide)) rfl T.g__law_mix (passE (takes_of rfl rfl rfl rfl) fun _ _ _ _ z => z) (pa_cons (pv 1) (pa_cons (pe_op op_plus (pe_op op_plus (pv 7) pe_int) (pv 20)) (pa_cons pe_int pa_nil)))) (fun _ _ => rfl)) (pa_cons (pv 20) (pa_cons (pe_op op_times pe_int (pv 20)) (pa_cons (pe_op op_times pe_int (pv 20)) pa_nil))))) (pg_slc (pv 19) (po_some (pe_op op_plus pe_int (pe_op op_times pe_int (pv 20)))) (po_some (pe_op op_plus pe_int (pe_op op_times pe_int (pv 20))))))))
  (pss_cons (ps_setLc (i := 21) (own := [("t", 20)]) (by rfl) sc.nd rfl rfl (sw_true rfl rfl rfl (by decide +kernel)) (pi_range1 rfl T.f_range (pa_cons pe_int pa_nil)) (blkOk_by (N := N_law) (sc := defScope s_law) (by decide +kernel)) (fun _ _ _ _ _ => (pg_name (i := 20) sc.nd rfl (by first | exact Or.inl rfl | exact Or.inr rfl))) (fun _ _ _ _ _ => (pts_one (pt_chain op_le op_lt (pe_ix ix_seq (pv 19) (pe_op op_plus pe_int (pe_op op_times pe_int (pv 20))) (fun _ _ => rfl)) (pv 9) (pe_op op_plus (pe_ix ix_seq (pv 19) (pe_op op_plus pe_int (pe_op op_times pe_int (pv 20))) (fun _ _ => rfl)) pe_int)))) (fun _ _ _ _ _ => (pe_op op_plus (pe_tup (pa_cons (pv 20) pa_nil)) (pe_callTy cr_to rfl T.f_tuple (by decide +kernel) (pa_cons (pe_slice sl_q (pv 19) (po_some (pe_op op_plus pe_int (pe_op op_times pe_int (pv 20)))) (po_some (pe_op op_plus pe_int (pe_op op_times pe_int (pv 20))))) pa_nil)))))
  (pss_cons (ps_set (i := 22) sc.nd rfl (by first | exact Or.inl rfl | exact Or.inr rfl) (pe_ix ix_seq (pe_lst (pa_cons (pe_tup (pa_cons (pe_lst pa_nil) (pa_cons pe_bl pa_nil))) (pa_cons (pe_tup (pa_cons (pe_slice sl_q (pv 21) po_none (po_some pe_int)) (pa_cons (pe_cmpR op_gt (pe_callB cr_ln rfl T.f_len (by decide +kernel) (pa_cons (pv 21) pa_nil)) pe_int (nomark _)) pa_nil))) pa_nil))) (pe_callC h_l_law_bit (hr.mono (by decide)) rfl T.g__law_bit (passE (takes_of rfl rfl rfl rfl) fun _ _ _ _ z => z) (pa_cons (pe_ix ix_seq (pv 8) pe_int (fun _ _ => rfl)) (pa_cons pe_int pa_nil))) (fun _ _ => rfl)))
  (pss_one (ps_if (PW.pt (pw_or (pt_cmpR (op_neQ hu) (pe_callC h_movers_at (hr.mono (by decide)) rfl T.g_movers_at (passE (takes_of rfl rfl rfl rfl) fun _ _ _ _ z => z) (pa_cons (pe_callTy cr_lo rfl T.f_list (by decide +kernel) (pa_cons (pv 19) pa_nil)) (pa_cons (pv 8) (pa_cons (pv 9) pa_nil)))) (pv 22) (nomark _)) (pw_or1 (pt_cmpR (op_neQ hu) (pe_callC h_movers_at (hr.mono (by decide)) rfl T.g_movers_at (passE (takes_of rfl rfl rfl rfl) fun _ _ _ _ z => z) (pa_cons (pe_callTy cr_lo rfl T.f_list (by decide +kernel) (pa_cons (pv 19) pa_nil)) (pa_cons (pv 8) (pa_cons (pe_op op_plus pe_int (pe_callC h_l_law_mix (hr.mono (by decide)) rfl T.g__law_mix (passE (takes_of rfl rfl rfl rfl) fun _ _ _ _ z => z) (pa_cons (pv 1) (pa_cons (pe_op op_plus (pv 7) pe_int) (pa_cons pe_int pa_nil))))) pa_nil)))) (pe_tup (pa_cons (pe_lst pa_nil) (pa_cons pe_bl pa_nil))) (nomark _)))))
  (pss_one (ps_ret pe_bl))
  pss_nil)))))))))))))))))))
  (pss_one (ps_ret (pe_cmpR (op_eqQ hu) (pv 3) (pv 5) (nomark _))))))))))
end K04

set_option Elab.async false
set_option linter.all false
set_option maxRecDepth 100000
set_option maxHeartbeats 1000000
namespace K04
open PySem PySem.Spec PyProof.Rows L2 Sy
local macro_rules | `(tactic| walk_at "s1") => `(tactic| first
  | ((with_reducible refine' we_var ?hv ?_); (case hv => rfl))
  | with_reducible refine we_int ?_ | with_reducible refine we_op ?_ | with_reducible refine we_cb ?_ | with_reducible refine wa_cons ?_ | with_reducible refine wa_nil ?_
  | with_reducible refine wr_plus ?_ | with_reducible refine wr_sb ?_ | ((with_reducible refine wr_md ?hc ?_); (case hc => decide)) | ((with_reducible refine wr_dv ?hc ?_); (case hc => exact ⟨by decide, by decide⟩))
  | ((with_reducible refine wr_times ?hc ?_); (case hc => first | exact cmul_r (by decide) (by decide) | exact cmul_l (by decide) (by decide)))
  | ((with_reducible refine wr_pw ?hc ?_); (case hc => exact ⟨by decide, by decide, by decide⟩))
  | with_reducible refine wr_lt ?_ | with_reducible refine wr_le ?_ | with_reducible refine wr_gt ?_ | with_reducible refine wr_ge ?_ | with_reducible refine wr_eqI ?_ | with_reducible refine wr_neI ?_ | with_reducible refine wr_eqS ?_ | with_reducible refine wr_neS ?_
  | with_reducible refine we_str ?_ | with_reducible refine we_bl ?_ | with_reducible refine we_non ?_
  | with_reducible refine wc_int ?_ | with_reducible refine wc_intB ?_ | with_reducible refine wc_abs ?_ | with_reducible refine wc_min2 ?_ | with_reducible refine wc_max2 ?_ | with_reducible refine wc_lenScr ?_
  | ((with_reducible refine' wc_len (.cell ?hl) ?_); (case hl => rfl)) | with_reducible refine wc_len .dat ?_ | with_reducible refine wc_lenT ?_
  | with_reducible refine ws_asgG ?_ | refine wg_tup rfl ?_ | refine wgs_cons ?_ | refine wgs_nil ?_ | with_reducible refine wg_name ?_ | ((with_reducible refine' wgw_name ?hj ?_); (case hj => decide)) | refine wgw_tup rfl ?_ | refine wgsw_cons ?_ | refine wgsw_nil ?_
  | with_reducible refine wt_test ?_ | with_reducible refine wt_B ?_ | with_reducible refine wt_not ?_
  | with_reducible refine ws_seq ?_ | with_reducible refine ws_asg ?_ | with_reducible refine ws_ret ?_ | with_reducible refine ws_if ?_ | with_reducible refine ws_par ?_ | with_reducible refine ws_par3 ?_
  | with_reducible refine we_chLL ?_ | with_reducible refine we_chLE ?_ | with_reducible refine we_ng ?_ | with_reducible refine we_notV ?_
  | with_reducible refine wt_and ?_ | with_reducible refine wt_or ?_ | with_reducible refine we_andV ?_ | with_reducible refine we_orV ?_ | with_reducible refine wr_isN ?_ | with_reducible refine wr_notN ?_
  | with_reducible refine we_tupX ?_ | with_reducible refine we_lstX ?_ | with_reducible refine we_callN ?_
  | (with_reducible apply Exists.intro; with_reducible refine And.intro ?ds (And.intro ?ln ?_); (case ds => repeat (first | exact DS.nil | apply DS.cons)); (case ln => exact len_ok rfl))
  | (with_reducible apply Exists.intro; with_reducible refine And.intro (fun _ => ?_) ?_)
  | (with_reducible apply Exists.intro; with_reducible apply Exists.intro; with_reducible refine And.intro rfl (And.intro (fun _ => ?_) ?_))
  | (apply Exists.intro; apply Exists.intro; apply Exists.intro; with_reducible refine And.intro rfl (And.intro rfl (And.intro ?_ ?_)))
  | with_reducible refine wc_allM ?_ | with_reducible refine wc_anyM ?_ | with_reducible refine wc_sumM ?_ | with_reducible exact lv_map
  | with_reducible refine wa_star ?_ | with_reducible refine we_sl ?_ | with_reducible refine wo_some ?_ | with_reducible refine wo_no ?_ | with_reducible refine wl_q .dat ?_ | ((with_reducible refine' wl_q (.cell ?hl) ?_); (case hl => rfl)) | with_reducible refine ⟨_, .dat, ?_⟩
  | (with_reducible apply Exists.intro; with_reducible apply Exists.intro; with_reducible refine And.intro (fun _ => ?_) (And.intro (fun _ => ?_) ?_))
  | with_reducible exact ⟨rfl, rfl⟩
  | with_reducible refine ⟨_, rfl, ?_⟩ | with_reducible refine ⟨_, _, rfl, ?_⟩ | with_reducible refine ⟨_, _, _, rfl, ?_⟩)
local macro_rules | `(tactic| walk_at "sx") => `(tactic| repeat (walk_at "s1"))
local macro_rules | `(tactic| walk_at "rx") => `(tactic| (show Rx _ _ _ _; refine rx_here ⟨_, rfl, ?_⟩))
local macro_rules | `(tactic| walk_at "mx") => `(tactic| first
  | (with_reducible refine wk_mixG ?hd ?hm (fun _ _ => ?_); (case hd => assumption); (case hm => first | omega | (split <;> omega)))
  | (refine' wr_ixG ?il ?h0 ?h1 (fun _ hm => ?_); (case il => repeat (first | exact IL.nil | apply IL.cons)); (case h0 => first | omega | (split <;> omega)); (case h1 => simp only [List.length_cons, List.length_nil]; first | omega | (split <;> omega)); (simp only [List.mem_cons, List.not_mem_nil, or_false] at hm))
  | walk_at "s1")
local macro_rules | `(tactic| walk_at "sm") => `(tactic| repeat (walk_at "mx"))
local macro_rules | `(tactic| walk_at "sa") => `(tactic| repeat (first | with_reducible refine ws_ifA ?_ | (with_reducible apply Exists.intro; with_reducible apply Exists.intro; refine And.intro rfl (And.intro (fun _ => ?_) ?_)) | walk_at "s1"))
theorem two7 {y : Int} (h : 0 ≤ y ∧ y < 8) : ∃ n : Nat, n < 8 ∧ y = n := ⟨y.toNat, by omega, by omega⟩
theorem pows_at {y : Int} (h : 0 ≤ y ∧ y < 8) : atI [PyData.int 1, .int 2, .int 4, .int 8, .int 16, .int 32, .int 64, .int 128] y = some (.int (2 ^ y.toNat)) := by
  obtain ⟨n, hn, rfl⟩ := two7 h
  match n, hn with
  | 0, _ => rfl | 1, _ => rfl | 2, _ => rfl | 3, _ => rfl | 4, _ => rfl | 5, _ => rfl | 6, _ => rfl | 7, _ => rfl
theorem pows_div {y i : Int} (h : 0 ≤ y ∧ y < 8) : CDiv i (2 ^ y.toNat) := by
  obtain ⟨n, hn, rfl⟩ := two7 h
  match n, hn with
  | 0, _ => exact ⟨by decide, by decide⟩ | 1, _ => exact ⟨by decide, by decide⟩ | 2, _ => exact ⟨by decide, by decide⟩ | 3, _ => exact ⟨by decide, by decide⟩ | 4, _ => exact ⟨by decide, by decide⟩ | 5, _ => exact ⟨by decide, by decide⟩ | 6, _ => exact ⟨by decide, by decide⟩ | 7, _ => exact ⟨by decide, by decide⟩
theorem bit01 (n k : Int) : 0 ≤ bitI n k ∧ bitI n k < 2 := ⟨Int.emod_nonneg _ (by decide), Int.emod_lt_of_pos _ (by decide)⟩
theorem pix03 (s : List Int) (t r c : Int) : 0 ≤ pixI s t r c ∧ pixI s t r c < 4 := by
  have h1 := bit01 (gt s (128 + 16 * t + 2 * r)) (7 - c)
  have h2 := bit01 (gt s (128 + 16 * t + 2 * r + 1)) (7 - c)
  unfold pixI
  omega
section
variable {K : PySem.W.Frag} {mg : Str → Option Value}
theorem pure_bit (T : Tx K mg) (vs : List V) (H : Hp) (Q : VK) (E : XK) (h : c_bit.sp K vs H Q E) : t_bit K E { nx := fun _ H' => Q .non H', rt := Q } (L2.start N_bit vs) H := by
  refine Cp.body (N := N_bit) h fun B (i : Int × Int) e hp hX hB => ?_
  subst e
  obtain ⟨x, y⟩ := i
  have hp : 0 ≤ y ∧ y < 8 := hp
  unfold t_bit
  show Ws B _ [some (.dat (.int x)), some (.dat (.int y))] [] [] _
  walk_at "sx"
  refine we_kt (ds := [PyData.int 1, .int 2, .int 4, .int 8, .int 16, .int 32, .int 64, .int 128]) T.t_POWERS rfl ?_
  walk_at "sx"
  refine wr_ixt (pows_at hp) ?_
  refine wr_dv (pows_div hp) ?_
  walk_at "sx"
  exact rx_here ⟨_, rfl, rfl⟩
theorem halves (n : Int) : ∀ m : Nat, n / 2 ^ m / 2 = n / 2 ^ (m + 1) := fun m => by
  rw [Int.pow_succ, ← Int.ediv_ediv_of_nonneg (Int.le_of_lt (Int.pow_pos (by decide)))]
theorem pure_l_law_bit (vs : List V) (H : Hp) (Q : VK) (E : XK) (h : c_l_law_bit.sp K vs H Q E) : t_l_law_bit K E { nx := fun _ H' => Q .non H', rt := Q } (L2.start N_l_law_bit vs) H := by
  refine Cp.body (N := N_l_law_bit) h fun B (i : Int × Int) e hp hX hB => ?_
  subst e
  obtain ⟨x, y⟩ := i
  have hp : 0 ≤ y ∧ y < 8 := hp
  unfold t_l_law_bit
  show Ws B _ [some (.dat (.int x)), some (.dat (.int y)), none, none] [] [] _
  walk_at "sx"
  refine ws_for1 ?_
  walk_at "sx"
  refine ⟨by omega, fun (i : Nat) (g : Gs) (C : Cs) => ∃ o, g = [some (.dat (.int x)), some (.dat (.int y)), some (.dat (.int (x / 2 ^ i))), o] ∧ C = [], ⟨none, by rw [show x / 2 ^ 0 = x from Int.ediv_one x]; rfl, rfl⟩, ?_, ?_⟩
  · rintro i g' C' hi ⟨o, rfl, rfl⟩
    walk_at "sx"
    rw [halves]
    exact nx_here ⟨_, rfl, rfl⟩
  · rintro g' C' ⟨o, rfl, rfl⟩
    walk_at "sx"
    exact rx_here ⟨_, rfl, rfl⟩
theorem gt_at {s : List Int} (h : Sh s) {i : Int} (h0 : 0 ≤ i) (h1 : i < 1024) : atI ((s.map PyData.int).map SV.dat) i = some (.dat (.int (gt s i))) := atI_map _ (atI_map _ (atI_getD 0 h0 (by rw [h.len]; exact h1)))
theorem gt_byte {s : List Int} (h : Sh s) (i : Int) : 0 ≤ gt s i ∧ gt s i < 256 := by
  unfold gt
  rw [List.getD_eq_getElem?_getD]
  cases e : s[i.toNat]? with
  | none => exact ⟨by decide, by decide⟩
  | some b => exact h.byte b (List.mem_of_getElem? e)
theorem pure_pixel_in (vs : List V) (H : Hp) (Q : VK) (E : XK) (h : c_pixel_in.sp K vs H Q E) : t_pixel_in K E { nx := fun _ H' => Q .non H', rt := Q } (L2.start N_pixel_in vs) H := by
  refine Cp.body (N := N_pixel_in) h fun B (i : Px) e hp hX hB => ?_
  subst e
  obtain ⟨s, t, r, c⟩ := i
  obtain ⟨hs, ht, hr, hc⟩ : Sh s ∧ (0 ≤ t ∧ t < 32) ∧ (0 ≤ r ∧ r < 8) ∧ (0 ≤ c ∧ c < 8) := hp
  unfold t_pixel_in
  show Ws B _ [some (.dat (nums s)), some (.dat (.int t)), some (.dat (.int r)), some (.dat (.int c)), none] [] [] _
  walk_at "sx"
  refine wr_ixl .dat (gt_at hs (by omega) (by omega)) ?_
  walk_at "sx"
  refine wk_bit (by omega) ?_
  walk_at "sx"
  refine wr_ixl .dat (gt_at hs (by omega) (by omega)) ?_
  walk_at "sx"
  refine wk_bit (by omega) ?_
  walk_at "sx"
  exact rx_here ⟨_, rfl, rfl⟩
theorem pure_l_law_pixel (vs : List V) (H : Hp) (Q : VK) (E : XK) (h : c_l_law_pixel.sp K vs H Q E) : t_l_law_pixel K E { nx := fun _ H' => Q .non H', rt := Q } (L2.start N_l_law_pixel vs) H := by
  refine Cp.body (N := N_l_law_pixel) h fun B (i : Px) e hp hX hB => ?_
  subst e
  obtain ⟨s, t, r, c⟩ := i
  obtain ⟨hs, ht, hr, hc⟩ : Sh s ∧ (0 ≤ t ∧ t < 32) ∧ (0 ≤ r ∧ r < 8) ∧ (0 ≤ c ∧ c < 8) := hp
  unfold t_l_law_pixel
  show Ws B _ [some (.dat (nums s)), some (.dat (.int t)), some (.dat (.int r)), some (.dat (.int c)), none] [] [] _
  walk_at "sx"
  refine wr_ixl .dat (gt_at hs (by omega) (by omega)) ?_
  walk_at "sx"
  refine wk_lbit (by omega) ?_
  walk_at "sx"
  refine wr_ixl .dat (gt_at hs (by omega) (by omega)) ?_
  walk_at "sx"
  refine wk_lbit (by omega) ?_
  walk_at "sx"
  exact rx_here ⟨_, rfl, rfl⟩
theorem pure_check_sheet (vs : List V) (H : Hp) (Q : VK) (E : XK) (h : c_check_sheet.sp K vs H Q E) : t_check_sheet K E { nx := fun _ H' => Q .non H', rt := Q } (L2.start N_check_sheet vs) H := by
  refine Cp.body (N := N_check_sheet) h fun B (s : List Int) e hp hX hB => ?_
  subst e
  have hs : Sh s := hp
  unfold t_check_sheet
  show Ws B _ [some (.dat (nums s)), none] [] [] _
  walk_at "sx"
  · refine we_lc1 s (fun x => .dat (.int x)) (fun x => .bool (decide (0 ≤ x) && decide (x ≤ 255))) (by rw [hs.len]; exact len_ok rfl) (wsrc_list ?_)
    walk_at "sx"
    refine ⟨lv_map, fun x hx S' acc => ?_, ?_⟩ <;> walk_at "sx"
  · have e : (s.all fun x => decide (0 ≤ x) && decide (x ≤ 255)) = true := List.all_eq_true.mpr fun x hx => dec_and (by have := hs.byte x hx; omega)
    rw [e, List.length_map, List.length_map, hs.len]
    refine ⟨fun z => ?_, fun _ => ws_next rfl⟩
    exact absurd z (by decide)
end
end K04

set_option Elab.async false
set_option linter.all false
set_option maxRecDepth 100000
set_option maxHeartbeats 1000000
namespace K04
open PySem PySem.Spec PyProof.Rows L2 Sy
local macro_rules | `(tactic| walk_at "s1") => `(tactic| first
  | ((with_reducible refine' we_var ?hv ?_); (case hv => rfl))
  | with_reducible refine we_int ?_ | with_reducible refine we_op ?_ | with_reducible refine we_cb ?_ | with_reducible refine wa_cons ?_ | with_reducible refine wa_nil ?_
  | with_reducible refine wr_plus ?_ | with_reducible refine wr_sb ?_ | ((with_reducible refine wr_md ?hc ?_); (case hc => decide)) | ((with_reducible refine wr_dv ?hc ?_); (case hc => exact ⟨by decide, by decide⟩))
  | ((with_reducible refine wr_times ?hc ?_); (case hc => first | exact cmul_r (by decide) (by decide) | exact cmul_l (by decide) (by decide)))
  | ((with_reducible refine wr_pw ?hc ?_); (case hc => exact ⟨by decide, by decide, by decide⟩))
  | with_reducible refine wr_lt ?_ | with_reducible refine wr_le ?_ | with_reducible refine wr_gt ?_ | with_reducible refine wr_ge ?_ | with_reducible refine wr_eqI ?_ | with_reducible refine wr_neI ?_ | with_reducible refine wr_eqS ?_ | with_reducible refine wr_neS ?_
  | with_reducible refine we_str ?_ | with_reducible refine we_bl ?_ | with_reducible refine we_non ?_
  | with_reducible refine wc_int ?_ | with_reducible refine wc_intB ?_ | with_reducible refine wc_abs ?_ | with_reducible refine wc_min2 ?_ | with_reducible refine wc_max2 ?_ | with_reducible refine wc_lenScr ?_
  | ((with_reducible refine' wc_len (.cell ?hl) ?_); (case hl => rfl)) | with_reducible refine wc_len .dat ?_ | with_reducible refine wc_lenT ?_
  | with_reducible refine ws_asgG ?_ | refine wg_tup rfl ?_ | refine wgs_cons ?_ | refine wgs_nil ?_ | with_reducible refine wg_name ?_ | ((with_reducible refine' wgw_name ?hj ?_); (case hj => decide)) | refine wgw_tup rfl ?_ | refine wgsw_cons ?_ | refine wgsw_nil ?_
  | with_reducible refine wt_test ?_ | with_reducible refine wt_B ?_ | with_reducible refine wt_not ?_
  | with_reducible refine ws_seq ?_ | with_reducible refine ws_asg ?_ | with_reducible refine ws_ret ?_ | with_reducible refine ws_if ?_ | with_reducible refine ws_par ?_ | with_reducible refine ws_par3 ?_
  | with_reducible refine we_chLL ?_ | with_reducible refine we_chLE ?_ | with_reducible refine we_ng ?_ | with_reducible refine we_notV ?_
  | with_reducible refine wt_and ?_ | with_reducible refine wt_or ?_ | with_reducible refine we_andV ?_ | with_reducible refine we_orV ?_ | with_reducible refine wr_isN ?_ | with_reducible refine wr_notN ?_
  | with_reducible refine we_tupX ?_ | with_reducible refine we_lstX ?_ | with_reducible refine we_callN ?_
  | (with_reducible apply Exists.intro; with_reducible refine And.intro ?ds (And.intro ?ln ?_); (case ds => repeat (first | exact DS.nil | apply DS.cons)); (case ln => exact len_ok rfl))
  | (with_reducible apply Exists.intro; with_reducible refine And.intro (fun _ => ?_) ?_)
  | (with_reducible apply Exists.intro; with_reducible apply Exists.intro; with_reducible refine And.intro rfl (And.intro (fun _ => ?_) ?_))
  | (apply Exists.intro; apply Exists.intro; apply Exists.intro; with_reducible refine And.intro rfl (And.intro rfl (And.intro ?_ ?_)))
  | with_reducible refine wc_allM ?_ | with_reducible refine wc_anyM ?_ | with_reducible refine wc_sumM ?_ | with_reducible exact lv_map
  | with_reducible refine wa_star ?_ | with_reducible refine we_sl ?_ | with_reducible refine wo_some ?_ | with_reducible refine wo_no ?_ | with_reducible refine wl_q .dat ?_ | ((with_reducible refine' wl_q (.cell ?hl) ?_); (case hl => rfl)) | with_reducible refine ⟨_, .dat, ?_⟩
  | (with_reducible apply Exists.intro; with_reducible apply Exists.intro; with_reducible refine And.intro (fun _ => ?_) (And.intro (fun _ => ?_) ?_))
  | with_reducible exact ⟨rfl, rfl⟩
  | with_reducible refine ⟨_, rfl, ?_⟩ | with_reducible refine ⟨_, _, rfl, ?_⟩ | with_reducible refine ⟨_, _, _, rfl, ?_⟩)
local macro_rules | `(tactic| walk_at "sx") => `(tactic| repeat (walk_at "s1"))
local macro_rules | `(tactic| walk_at "rx") => `(tactic| (show Rx _ _ _ _; refine rx_here ⟨_, rfl, ?_⟩))
local macro_rules | `(tactic| walk_at "mx") => `(tactic| first
  | (with_reducible refine wk_mixG ?hd ?hm (fun _ _ => ?_); (case hd => assumption); (case hm => first | omega | (split <;> omega)))
  | (refine' wr_ixG ?il ?h0 ?h1 (fun _ hm => ?_); (case il => repeat (first | exact IL.nil | apply IL.cons)); (case h0 => first | omega | (split <;> omega)); (case h1 => simp only [List.length_cons, List.length_nil]; first | omega | (split <;> omega)); (simp only [List.mem_cons, List.not_mem_nil, or_false] at hm))
  | walk_at "s1")
local macro_rules | `(tactic| walk_at "sm") => `(tactic| repeat (walk_at "mx"))
local macro_rules | `(tactic| walk_at "sa") => `(tactic| repeat (first | with_reducible refine ws_ifA ?_ | (with_reducible apply Exists.intro; with_reducible apply Exists.intro; refine And.intro rfl (And.intro (fun _ => ?_) ?_)) | walk_at "s1"))
section
variable {K : PySem.W.Frag} {mg : Str → Option Value}
theorem pure_pixel (vs : List V) (H : Hp) (Q : VK) (E : XK) (h : c_pixel.sp K vs H Q E) : t_pixel K E { nx := fun _ H' => Q .non H', rt := Q } (L2.start N_pixel vs) H := by
  refine Cp.body (N := N_pixel) h fun B (i : Px) e hp hX hB => ?_
  subst e
  obtain ⟨s, t, r, c⟩ := i
  obtain ⟨hs, ht⟩ : Sh s ∧ (0 ≤ t ∧ t < 32) ∧ (0 ≤ r ∧ r < 8) ∧ (0 ≤ c ∧ c < 8) := hp
  unfold t_pixel
  show Ws B _ [some (.dat (nums s)), some (.dat (.int t)), some (.dat (.int r)), some (.dat (.int c))] [] [] _
  walk_at "sx"
  refine ws_drop ?_
  walk_at "sx"
  refine wk_chk hs ?_
  walk_at "sx"
  refine wk_pixin hs ht ?_
  walk_at "rx"
  rfl

theorem pure_ground_in (vs : List V) (H : Hp) (Q : VK) (E : XK) (h : c_ground_in.sp K vs H Q E) : t_ground_in K E { nx := fun _ H' => Q .non H', rt := Q } (L2.start N_ground_in vs) H := by
  refine Cp.body (N := N_ground_in) h fun B (i : Gr) e hp hX hB => ?_
  subst e
  obtain ⟨s, x, c, l⟩ := i
  have hs : Sh s := hp
  unfold t_ground_in
  show Ws B _ [some (.dat (nums s)), some (.dat x.D), some (.dat (.int c)), some (.dat (.int l)), none, none, none, none, none, none, none] [] [] _
  walk_at "sx"
  refine wk_bit (by decide) ?_
  walk_at "sx"
  refine ⟨fun z => ?_, fun z => ?_⟩
  · walk_at "sx"
    walk_at "rx"
    show _ = prD (gndI s x c l)
    rw [gndI, if_pos (of_decide_eq_true z)]
    rfl
  · refine ws_next ?_
    walk_at "sx"
    refine wr_ixl .dat (gt_at hs (by omega) (by omega)) ?_
    walk_at "sx"
    refine wk_pixin hs (by omega) ?_
    walk_at "sx"
    walk_at "rx"
    show _ = prD (gndI s x c l)
    rw [gndI, if_neg (of_decide_eq_false z)]
    rfl

theorem pure_ground_at (vs : List V) (H : Hp) (Q : VK) (E : XK) (h : c_ground_at.sp K vs H Q E) : t_ground_at K E { nx := fun _ H' => Q .non H', rt := Q } (L2.start N_ground_at vs) H := by
  refine Cp.body (N := N_ground_at) h fun B (i : Gr) e hp hX hB => ?_
  subst e
  obtain ⟨s, x, c, l⟩ := i
  have hs : Sh s := hp
  unfold t_ground_at
  show Ws B _ [some (.dat (nums s)), some (.dat x.D), some (.dat (.int c)), some (.dat (.int l))] [] [] _
  walk_at "sx"
  refine ws_drop ?_
  walk_at "sx"
  refine wk_chk hs ?_
  walk_at "sx"
  refine wk_gndin hs ?_
  walk_at "rx"
  rfl

theorem pure_l_law_ground (vs : List V) (H : Hp) (Q : VK) (E : XK) (h : c_l_law_ground.sp K vs H Q E) : t_l_law_ground K E { nx := fun _ H' => Q .non H', rt := Q } (L2.start N_l_law_ground vs) H := by
  refine Cp.body (N := N_l_law_ground) h fun B (i : Gr) e hp hX hB => ?_
  subst e
  obtain ⟨s, x, c, l⟩ := i
  have hs : Sh s := hp
  unfold t_l_law_ground
  show Ws B _ [some (.dat (nums s)), some (.dat x.D), some (.dat (.int c)), some (.dat (.int l)), none, none, none] [] [] _
  walk_at "sx"
  refine wr_ixt (d := .int x.o) rfl ?_
  walk_at "sx"
  refine wk_lbit (by decide) ?_
  walk_at "sx"
  refine ⟨fun z => ?_, fun z => ?_⟩
  · walk_at "sx"
    walk_at "rx"
    show _ = prD (gndI s x c l)
    rw [gndI, if_pos (of_decide_eq_true z)]
    rfl
  · refine ws_next ?_
    walk_at "sx"
    refine wr_ixt (d := .int x.r) rfl ?_
    walk_at "sx"
    refine wr_ixt (d := .int x.d) rfl ?_
    walk_at "sx"
    refine wr_ixl .dat (gt_at hs (by omega) (by omega)) ?_
    walk_at "sx"
    refine wk_lpix hs (by omega) ?_
    walk_at "sx"
    walk_at "rx"
    show _ = prD (gndI s x c l)
    rw [gndI, if_neg (of_decide_eq_false z), Int.mul_comm 8]
    rfl

theorem pure_movers_at (vs : List V) (H : Hp) (Q : VK) (E : XK) (h : c_movers_at.sp K vs H Q E) : t_movers_at K E { nx := fun _ H' => Q .non H', rt := Q } (L2.start N_movers_at vs) H := by
  refine Cp.body (N := N_movers_at) h fun B (i : Mr) e hp hX hB => ?_
  subst e
  obtain ⟨s, x, l⟩ := i
  have hs : Sh s := hp
  unfold t_movers_at
  show Ws B _ [some (.dat (nums s)), some (.dat x.D), some (.dat (.int l))] [] [] _
  walk_at "sx"
  refine ws_drop ?_
  walk_at "sx"
  refine wk_chk hs ?_
  walk_at "sx"
  refine wk_mvin hs ?_
  walk_at "rx"
  rfl

theorem pure_dot_at (vs : List V) (H : Hp) (Q : VK) (E : XK) (h : c_dot_at.sp K vs H Q E) : t_dot_at K E { nx := fun _ H' => Q .non H', rt := Q } (L2.start N_dot_at vs) H := by
  refine Cp.body (N := N_dot_at) h fun B (i : Dt) e hp hX hB => ?_
  subst e
  obtain ⟨s, x, ms, c, l⟩ := i
  obtain ⟨hs, hm⟩ : Sh s ∧ Mvs ms l := hp
  unfold t_dot_at
  show Ws B _ [some (.dat (nums s)), some (.dat x.D), some (.dat (msD ms)), some (.dat (.int c)), some (.dat (.int l))] [] [] _
  walk_at "sx"
  refine ws_drop ?_
  walk_at "sx"
  refine wk_chk hs ?_
  walk_at "sx"
  refine wk_dotin hs hm ?_
  walk_at "rx"
  rfl

theorem pure_mover_pixel (vs : List V) (H : Hp) (Q : VK) (E : XK) (h : c_mover_pixel.sp K vs H Q E) : t_mover_pixel K E { nx := fun _ H' => Q .non H', rt := Q } (L2.start N_mover_pixel vs) H := by
  refine Cp.body (N := N_mover_pixel) h fun B (i : Mp) e hp hX hB => ?_
  subst e
  obtain ⟨s, m, c, l⟩ := i
  obtain ⟨hs, hy, hx⟩ : Sh s ∧ (m.y ≤ l ∧ l < m.y + 8) ∧ (m.x ≤ c ∧ c < m.x + 8) := hp
  unfold t_mover_pixel
  show Ws B _ [some (.dat (nums s)), some (.dat m.D), some (.dat (.int c)), some (.dat (.int l)), none, none, none, none, none, none, none] [] [] _
  walk_at "sx"
  refine wk_bit (by decide) ?_
  walk_at "sx"
  refine ⟨fun z => ?_, fun z => ?_⟩
  · walk_at "sx"
    refine wk_bit (by decide) ?_
    walk_at "sx"
    refine ⟨fun z2 => ?_, fun z2 => ?_⟩
    · walk_at "sx"
      refine wk_pixin hs (by omega) ?_
      walk_at "rx"
      show _ = PyData.int (mpI s m c l)
      rw [mpI, if_pos (of_decide_eq_true z), if_pos (of_decide_eq_true z2)]
    · refine ws_next ?_
      walk_at "sx"
      refine wk_pixin hs (by omega) ?_
      walk_at "rx"
      show _ = PyData.int (mpI s m c l)
      rw [mpI, if_pos (of_decide_eq_true z), if_neg (of_decide_eq_false z2)]
  · refine ws_next ?_
    walk_at "sx"
    refine wk_bit (by decide) ?_
    walk_at "sx"
    refine ⟨fun z2 => ?_, fun z2 => ?_⟩
    · walk_at "sx"
      refine wk_pixin hs (by omega) ?_
      walk_at "rx"
      show _ = PyData.int (mpI s m c l)
      rw [mpI, if_neg (of_decide_eq_false z), if_pos (of_decide_eq_true z2)]
    · refine ws_next ?_
      walk_at "sx"
      refine wk_pixin hs (by omega) ?_
      walk_at "rx"
      show _ = PyData.int (mpI s m c l)
      rw [mpI, if_neg (of_decide_eq_false z), if_neg (of_decide_eq_false z2)]
end
end K04

set_option Elab.async false
set_option linter.all false
set_option maxRecDepth 100000
set_option maxHeartbeats 1000000
namespace K04
open PySem PySem.Spec PyProof.Rows L2 Sy
local macro_rules | `(tactic| walk_at "s1") => `(tactic| first
  | ((with_reducible refine' we_var ?hv ?_); (case hv => rfl))
  | with_reducible refine we_int ?_ | with_reducible refine we_op ?_ | with_reducible refine we_cb ?_ | with_reducible refine wa_cons ?_ | with_reducible refine wa_nil ?_
  | with_reducible refine wr_plus ?_ | with_reducible refine wr_sb ?_ | ((with_reducible refine wr_md ?hc ?_); (case hc => decide)) | ((with_reducible refine wr_dv ?hc ?_); (case hc => exact ⟨by decide, by decide⟩))
  | ((with_reducible refine wr_times ?hc ?_); (case hc => first | exact cmul_r (by decide) (by decide) | exact cmul_l (by decide) (by decide)))
  | ((with_reducible refine wr_pw ?hc ?_); (case hc => exact ⟨by decide, by decide, by decide⟩))
  | with_reducible refine wr_lt ?_ | with_reducible refine wr_le ?_ | with_reducible refine wr_gt ?_ | with_reducible refine wr_ge ?_ | with_reducible refine wr_eqI ?_ | with_reducible refine wr_neI ?_ | with_reducible refine wr_eqS ?_ | with_reducible refine wr_neS ?_
  | with_reducible refine we_str ?_ | with_reducible refine we_bl ?_ | with_reducible refine we_non ?_
  | with_reducible refine wc_int ?_ | with_reducible refine wc_intB ?_ | with_reducible refine wc_abs ?_ | with_reducible refine wc_min2 ?_ | with_reducible refine wc_max2 ?_ | with_reducible refine wc_lenScr ?_
  | ((with_reducible refine' wc_len (.cell ?hl) ?_); (case hl => rfl)) | with_reducible refine wc_len .dat ?_ | with_reducible refine wc_lenT ?_
  | with_reducible refine ws_asgG ?_ | refine wg_tup rfl ?_ | refine wgs_cons ?_ | refine wgs_nil ?_ | with_reducible refine wg_name ?_ | ((with_reducible refine' wgw_name ?hj ?_); (case hj => decide)) | refine wgw_tup rfl ?_ | refine wgsw_cons ?_ | refine wgsw_nil ?_
  | with_reducible refine wt_test ?_ | with_reducible refine wt_B ?_ | with_reducible refine wt_not ?_
  | with_reducible refine ws_seq ?_ | with_reducible refine ws_asg ?_ | with_reducible refine ws_ret ?_ | with_reducible refine ws_if ?_ | with_reducible refine ws_par ?_ | with_reducible refine ws_par3 ?_
  | with_reducible refine we_chLL ?_ | with_reducible refine we_chLE ?_ | with_reducible refine we_ng ?_ | with_reducible refine we_notV ?_
  | with_reducible refine wt_and ?_ | with_reducible refine wt_or ?_ | with_reducible refine we_andV ?_ | with_reducible refine we_orV ?_ | with_reducible refine wr_isN ?_ | with_reducible refine wr_notN ?_
  | with_reducible refine we_tupX ?_ | with_reducible refine we_lstX ?_ | with_reducible refine we_callN ?_
  | (with_reducible apply Exists.intro; with_reducible refine And.intro ?ds (And.intro ?ln ?_); (case ds => repeat (first | exact DS.nil | apply DS.cons)); (case ln => exact len_ok rfl))
  | (with_reducible apply Exists.intro; with_reducible refine And.intro (fun _ => ?_) ?_)
  | (with_reducible apply Exists.intro; with_reducible apply Exists.intro; with_reducible refine And.intro rfl (And.intro (fun _ => ?_) ?_))
  | (apply Exists.intro; apply Exists.intro; apply Exists.intro; with_reducible refine And.intro rfl (And.intro rfl (And.intro ?_ ?_)))
  | with_reducible refine wc_allM ?_ | with_reducible refine wc_anyM ?_ | with_reducible refine wc_sumM ?_ | with_reducible exact lv_map
  | with_reducible refine wa_star ?_ | with_reducible refine we_sl ?_ | with_reducible refine wo_some ?_ | with_reducible refine wo_no ?_ | with_reducible refine wl_q .dat ?_ | ((with_reducible refine' wl_q (.cell ?hl) ?_); (case hl => rfl)) | with_reducible refine ⟨_, .dat, ?_⟩
  | (with_reducible apply Exists.intro; with_reducible apply Exists.intro; with_reducible refine And.intro (fun _ => ?_) (And.intro (fun _ => ?_) ?_))
  | with_reducible exact ⟨rfl, rfl⟩
  | with_reducible refine ⟨_, rfl, ?_⟩ | with_reducible refine ⟨_, _, rfl, ?_⟩ | with_reducible refine ⟨_, _, _, rfl, ?_⟩)
local macro_rules | `(tactic| walk_at "sx") => `(tactic| repeat (walk_at "s1"))
local macro_rules | `(tactic| walk_at "rx") => `(tactic| (show Rx _ _ _ _; refine rx_here ⟨_, rfl, ?_⟩))
local macro_rules | `(tactic| walk_at "mx") => `(tactic| first
  | (with_reducible refine wk_mixG ?hd ?hm (fun _ _ => ?_); (case hd => assumption); (case hm => first | omega | (split <;> omega)))
  | (refine' wr_ixG ?il ?h0 ?h1 (fun _ hm => ?_); (case il => repeat (first | exact IL.nil | apply IL.cons)); (case h0 => first | omega | (split <;> omega)); (case h1 => simp only [List.length_cons, List.length_nil]; first | omega | (split <;> omega)); (simp only [List.mem_cons, List.not_mem_nil, or_false] at hm))
  | walk_at "s1")
local macro_rules | `(tactic| walk_at "sm") => `(tactic| repeat (walk_at "mx"))
local macro_rules | `(tactic| walk_at "sa") => `(tactic| repeat (first | with_reducible refine ws_ifA ?_ | (with_reducible apply Exists.intro; with_reducible apply Exists.intro; refine And.intro rfl (And.intro (fun _ => ?_) ?_)) | walk_at "s1"))
section
variable {K : PySem.W.Frag} {mg : Str → Option Value}
theorem pure_movers_in (vs : List V) (H : Hp) (Q : VK) (E : XK) (h : c_movers_in.sp K vs H Q E) : t_movers_in K E { nx := fun _ H' => Q .non H', rt := Q } (L2.start N_movers_in vs) H := by
  refine Cp.body (N := N_movers_in) h fun B (i : Mr) e hp hX hB => ?_
  subst e
  obtain ⟨s, x, l⟩ := i
  have hs : Sh s := hp
  unfold t_movers_in
  show Ws B _ [some (.dat (nums s)), some (.dat x.D), some (.dat (.int l)), none, none, none] [] [] _
  walk_at "sx"
  refine wr_ixt (d := .int x.o) rfl ?_
  walk_at "sx"
  refine wk_bit (by decide) ?_
  walk_at "sx"
  refine ⟨fun z => ?_, fun z => ?_⟩
  · walk_at "sx"
    refine we_lst (wa_nil ⟨[], rfl, len_ok rfl, ?_⟩)
    walk_at "sx"
    walk_at "rx"
    show _ = mvsD s x l
    rw [mvsD, if_pos (by simpa using z)]
  · refine ws_next ?_
    walk_at "sx"
    refine we_lstC (wa_nil ⟨Nat.zero_le _, ?_⟩)
    walk_at "sx"
    refine ws_for1 ?_
    walk_at "sx"
    let pb : Nat → Bool := fun k => decide (gt s (64 + 4 * (k : Int)) ≤ l) && decide (l < gt s (64 + 4 * (k : Int)) + 8)
    let ff : Nat → D := fun k => .tuple (.int (k : Int) :: cutL (s.map PyData.int) (some (64 + 4 * (k : Int))) (some (64 + 4 * (k : Int) + 4)))
    refine ⟨by decide, fun (i : Nat) (g : Gs) (C : Cs) => ∃ o1 o2, g = [some (.dat (nums s)), some (.dat x.D), some (.dat (.int l)), some (.ref 0), o1, o2] ∧ C = [some (.lst ((((List.range i).filter pb).map ff).map .dat))], ⟨_, _, rfl, rfl⟩, ?_, ?_⟩
    · rintro i g' C' hi ⟨o1, o2, rfl, rfl⟩
      have hl : (((List.range i).filter pb).map ff).length ≤ i := by rw [List.length_map]; exact Nat.le_trans (List.length_filter_le _ _) (Nat.le_of_eq List.length_range)
      have es : (List.range (i + 1)).filter pb = (List.range i).filter pb ++ (if pb i then [i] else []) := by
        rw [List.range_succ, List.filter_append, List.filter_cons, List.filter_nil]
      walk_at "sx"
      refine wr_ixl .dat (gt_at hs (by omega) (by omega)) ?_
      walk_at "sx"
      · refine wr_ixl .dat (gt_at hs (by omega) (by omega)) ?_
        walk_at "sx"
      · walk_at "sx"
        refine ⟨fun z => ?_, fun z => ?_⟩
        · have zp : pb i = true := z
          refine ws_app rfl ⟨_, rfl⟩ (we_tup ?_)
          walk_at "sx"
          refine ⟨.int (i : Int) :: cutL (s.map PyData.int) (some (64 + 4 * (i : Int))) (some (64 + 4 * (i : Int) + 4)), by simp, ?_, ?_⟩
          · have := cutL_len (s.map PyData.int) (some (64 + 4 * (i : Int))) (some (64 + 4 * (i : Int) + 4))
            rw [List.length_map, hs.len] at this
            rw [List.length_cons]
            have := line_ge
            omega
          · refine ⟨_, rfl, ?_, ?_⟩
            · have := line_ge
              rw [List.length_map]
              omega
            · refine nx_here ⟨_, _, rfl, ?_⟩
              rw [es, if_pos zp, List.map_append, List.map_append]
              rfl
        · have zp : pb i = false := z
          refine ws_next (nx_here ⟨_, _, rfl, ?_⟩)
          rw [es, zp, if_neg Bool.false_ne_true, List.append_nil]
    · rintro g' C' ⟨o1, o2, rfl, rfl⟩
      walk_at "sx"
      walk_at "rx"
      show _ = mvsD s x l
      rw [mvsD, if_neg (by simpa using z)]
      rw [List.length_map]
      show PyData.tuple [.list (cutL (rowsI s l) none (some 4)), .bool (decide ((4 : Int) < ((rowsI s l).length : Int)))] = _
      congr 4
      exact decide_eq_decide.mpr (by omega)

theorem pure_showing (vs : List V) (H : Hp) (Q : VK) (E : XK) (h : c_showing.sp K vs H Q E) : t_showing K E { nx := fun _ H' => Q .non H', rt := Q } (L2.start N_showing vs) H := by
  refine Cp.body (N := N_showing) h fun B (i : Sw) e hp hX hB => ?_
  subst e
  obtain ⟨s, ms, c, l⟩ := i
  obtain ⟨hs, hm⟩ : Sh s ∧ Mvs ms l := hp
  unfold t_showing
  show Ws B _ [some (.dat (nums s)), some (.dat (msD ms)), some (.dat (.int c)), some (.dat (.int l)), none, none] [] [] _
  refine ws_seq (ws_forD ms Mv.D ?_)
  walk_at "sx"
  refine ⟨rfl, fun (i : Nat) (g : Gs) (C : Cs) => ∃ o1 o2, g = [some (.dat (nums s)), some (.dat (msD ms)), some (.dat (.int c)), some (.dat (.int l)), o1, o2] ∧ C = [] ∧ (ms.take i).find? (hitB s c l) = none, ⟨_, _, rfl, rfl, rfl⟩, ?_, ?_⟩
  · rintro i m g' C' hi ⟨o1, o2, rfl, rfl, hf⟩
    have hmy := (hm.2 m (List.mem_of_getElem? hi)).1
    have et : (ms.take (i + 1)).find? (hitB s c l) = if hitB s c l m then some m else none := by
      rw [take_snoc hi, List.find?_append, hf, List.find?_cons, List.find?_nil]
      cases hitB s c l m <;> rfl
    refine wg_name ?_
    walk_at "sx"
    refine wr_ixt (d := .int m.x) rfl ?_
    walk_at "sx"
    · refine wr_ixt (d := .int m.x) rfl ?_
      walk_at "sx"
    · walk_at "sx"
      refine ⟨fun z => ?_, fun z => ?_⟩
      · have z2 := z
        rw [Bool.and_eq_true] at z2
        have z3 := of_decide_eq_true z2.1
        have z4 := of_decide_eq_true z2.2
        walk_at "sx"
        refine wk_mp hs ⟨hmy, z3, z4⟩ ?_
        walk_at "sx"
        refine ⟨fun y => ?_, fun y => ?_⟩
        · have hh : hitB s c l m = true := by unfold hitB; rw [z, Bool.true_and]; exact y
          walk_at "sx"
          walk_at "rx"
          show _ = shD s c l (ms.find? (hitB s c l))
          have e2 : ms.find? (hitB s c l) = some m := by
            rw [← List.take_append_drop (i + 1) ms, List.find?_append, et, if_pos hh]; rfl
          rw [e2]; rfl
        · have hh : hitB s c l m = false := by unfold hitB; rw [z, Bool.true_and]; exact y
          refine ws_next (nx_here ⟨_, _, rfl, rfl, ?_⟩)
          rw [et, if_neg (by rw [hh]; exact Bool.false_ne_true)]
      · have hh : hitB s c l m = false := by unfold hitB; rw [z, Bool.false_and]
        refine ws_next (nx_here ⟨_, _, rfl, rfl, ?_⟩)
        rw [et, if_neg (by rw [hh]; exact Bool.false_ne_true)]
  · rintro g' C' ⟨o1, o2, rfl, rfl, hf⟩
    walk_at "sx"
    walk_at "rx"
    show _ = shD s c l (ms.find? (hitB s c l))
    rw [List.take_length] at hf
    rw [hf]; rfl

theorem pure_tile_dots (vs : List V) (H : Hp) (Q : VK) (E : XK) (h : c_tile_dots.sp K vs H Q E) : t_tile_dots K E { nx := fun _ H' => Q .non H', rt := Q } (L2.start N_tile_dots vs) H := by
  refine Cp.body (N := N_tile_dots) h fun B (i : Td) e hp hX hB => ?_
  subst e
  obtain ⟨s, t, r, a, b⟩ := i
  obtain ⟨hs, ht, hr, hab⟩ : Sh s ∧ (0 ≤ t ∧ t < 32) ∧ (0 ≤ r ∧ r < 8) ∧ (0 ≤ a ∧ a ≤ b ∧ b ≤ 8) := hp
  unfold t_tile_dots
  show Ws B _ [some (.dat (nums s)), some (.dat (.int t)), some (.dat (.int r)), some (.dat (.int a)), some (.dat (.int b)), none, none, none, none] [] [] _
  walk_at "sx"
  refine wr_ixl .dat (gt_at hs (by omega) (by omega)) ?_
  walk_at "sx"
  refine wr_ixl .dat (gt_at hs (by omega) (by omega)) ?_
  walk_at "sx"
  refine we_lc1 (rng a b) (fun x => .dat (.int x)) (fun k => .int (pixI s t r k)) (by rw [rng_len]; have := line_ge; omega) (wsrc_rng2 ?_)
  walk_at "sx"
  refine ⟨rfl, by omega, fun k hk S' acc => ?_, ?_⟩
  · have := mem_rng hk
    walk_at "sx"
    refine wk_bit (by omega) ?_
    walk_at "sx"
    refine wk_bit (by omega) ?_
    walk_at "sx"
  · walk_at "rx"
    show _ = nums ((runI a b).map fun k => pixI s t r k)
    unfold nums
    rw [List.map_map]
    rfl
end
end K04

set_option Elab.async false
set_option linter.all false
set_option maxRecDepth 100000
set_option maxHeartbeats 1000000
namespace K04
open PySem PySem.Spec PyProof.Rows L2 Sy
local macro_rules | `(tactic| walk_at "s1") => `(tactic| first
  | ((with_reducible refine' we_var ?hv ?_); (case hv => rfl))
  | with_reducible refine we_int ?_ | with_reducible refine we_op ?_ | with_reducible refine we_cb ?_ | with_reducible refine wa_cons ?_ | with_reducible refine wa_nil ?_
  | with_reducible refine wr_plus ?_ | with_reducible refine wr_sb ?_ | ((with_reducible refine wr_md ?hc ?_); (case hc => decide)) | ((with_reducible refine wr_dv ?hc ?_); (case hc => exact ⟨by decide, by decide⟩))
  | ((with_reducible refine wr_times ?hc ?_); (case hc => first | exact cmul_r (by decide) (by decide) | exact cmul_l (by decide) (by decide)))
  | ((with_reducible refine wr_pw ?hc ?_); (case hc => exact ⟨by decide, by decide, by decide⟩))
  | with_reducible refine wr_lt ?_ | with_reducible refine wr_le ?_ | with_reducible refine wr_gt ?_ | with_reducible refine wr_ge ?_ | with_reducible refine wr_eqI ?_ | with_reducible refine wr_neI ?_ | with_reducible refine wr_eqS ?_ | with_reducible refine wr_neS ?_
  | with_reducible refine we_str ?_ | with_reducible refine we_bl ?_ | with_reducible refine we_non ?_
  | with_reducible refine wc_int ?_ | with_reducible refine wc_intB ?_ | with_reducible refine wc_abs ?_ | with_reducible refine wc_min2 ?_ | with_reducible refine wc_max2 ?_ | with_reducible refine wc_lenScr ?_
  | ((with_reducible refine' wc_len (.cell ?hl) ?_); (case hl => rfl)) | with_reducible refine wc_len .dat ?_ | with_reducible refine wc_lenT ?_
  | with_reducible refine ws_asgG ?_ | refine wg_tup rfl ?_ | refine wgs_cons ?_ | refine wgs_nil ?_ | with_reducible refine wg_name ?_ | ((with_reducible refine' wgw_name ?hj ?_); (case hj => decide)) | refine wgw_tup rfl ?_ | refine wgsw_cons ?_ | refine wgsw_nil ?_
  | with_reducible refine wt_test ?_ | with_reducible refine wt_B ?_ | with_reducible refine wt_not ?_
  | with_reducible refine ws_seq ?_ | with_reducible refine ws_asg ?_ | with_reducible refine ws_ret ?_ | with_reducible refine ws_if ?_ | with_reducible refine ws_par ?_ | with_reducible refine ws_par3 ?_
  | with_reducible refine we_chLL ?_ | with_reducible refine we_chLE ?_ | with_reducible refine we_ng ?_ | with_reducible refine we_notV ?_
  | with_reducible refine wt_and ?_ | with_reducible refine wt_or ?_ | with_reducible refine we_andV ?_ | with_reducible refine we_orV ?_ | with_reducible refine wr_isN ?_ | with_reducible refine wr_notN ?_
  | with_reducible refine we_tupX ?_ | with_reducible refine we_lstX ?_ | with_reducible refine we_callN ?_
  | (with_reducible apply Exists.intro; with_reducible refine And.intro ?ds (And.intro ?ln ?_); (case ds => repeat (first | exact DS.nil | apply DS.cons)); (case ln => exact len_ok rfl))
  | (with_reducible apply Exists.intro; with_reducible refine And.intro (fun _ => ?_) ?_)
  | (with_reducible apply Exists.intro; with_reducible apply Exists.intro; with_reducible refine And.intro rfl (And.intro (fun _ => ?_) ?_))
  | (apply Exists.intro; apply Exists.intro; apply Exists.intro; with_reducible refine And.intro rfl (And.intro rfl (And.intro ?_ ?_)))
  | with_reducible refine wc_allM ?_ | with_reducible refine wc_anyM ?_ | with_reducible refine wc_sumM ?_ | with_reducible exact lv_map
  | with_reducible refine wa_star ?_ | with_reducible refine we_sl ?_ | with_reducible refine wo_some ?_ | with_reducible refine wo_no ?_ | with_reducible refine wl_q .dat ?_ | ((with_reducible refine' wl_q (.cell ?hl) ?_); (case hl => rfl)) | with_reducible refine ⟨_, .dat, ?_⟩
  | (with_reducible apply Exists.intro; with_reducible apply Exists.intro; with_reducible refine And.intro (fun _ => ?_) (And.intro (fun _ => ?_) ?_))
  | with_reducible exact ⟨rfl, rfl⟩
  | with_reducible refine ⟨_, rfl, ?_⟩ | with_reducible refine ⟨_, _, rfl, ?_⟩ | with_reducible refine ⟨_, _, _, rfl, ?_⟩)
local macro_rules | `(tactic| walk_at "sx") => `(tactic| repeat (walk_at "s1"))
local macro_rules | `(tactic| walk_at "rx") => `(tactic| (show Rx _ _ _ _; refine rx_here ⟨_, rfl, ?_⟩))
local macro_rules | `(tactic| walk_at "mx") => `(tactic| first
  | (with_reducible refine wk_mixG ?hd ?hm (fun _ _ => ?_); (case hd => assumption); (case hm => first | omega | (split <;> omega)))
  | (refine' wr_ixG ?il ?h0 ?h1 (fun _ hm => ?_); (case il => repeat (first | exact IL.nil | apply IL.cons)); (case h0 => first | omega | (split <;> omega)); (case h1 => simp only [List.length_cons, List.length_nil]; first | omega | (split <;> omega)); (simp only [List.mem_cons, List.not_mem_nil, or_false] at hm))
  | walk_at "s1")
local macro_rules | `(tactic| walk_at "sm") => `(tactic| repeat (walk_at "mx"))
local macro_rules | `(tactic| walk_at "sa") => `(tactic| repeat (first | with_reducible refine ws_ifA ?_ | (with_reducible apply Exists.intro; with_reducible apply Exists.intro; refine And.intro rfl (And.intro (fun _ => ?_) ?_)) | walk_at "s1"))
section
variable {K : PySem.W.Frag} {mg : Str → Option Value}
theorem gnd_b (s : List Int) (x : St4) (c l : Int) : (0 ≤ (gndI s x c l).1 ∧ (gndI s x c l).1 < 4) ∧ (0 ≤ (gndI s x c l).2 ∧ (gndI s x c l).2 < 4) := by
  unfold gndI
  split
  · exact ⟨⟨by decide, by decide⟩, ⟨by decide, by decide⟩⟩
  · exact ⟨pix03 _ _ _ _, ⟨Int.emod_nonneg _ (by decide), Int.emod_lt_of_pos _ (by decide)⟩⟩
theorem no_none {p : Prop} (h : (!isNoneD PyData.none) = true) : p := absurd h (by decide)
theorem gt_r {s : List Int} (h : Sh s) {i j : Int} (h0 : 0 ≤ i) (h1 : i < 1024) (e : i = j) : atI ((s.map PyData.int).map SV.dat) i = some (.dat (.int (gt s j))) := by subst e; exact gt_at h h0 h1

theorem pure_dot_in (vs : List V) (H : Hp) (Q : VK) (E : XK) (h : c_dot_in.sp K vs H Q E) : t_dot_in K E { nx := fun _ H' => Q .non H', rt := Q } (L2.start N_dot_in vs) H := by
  refine Cp.body (N := N_dot_in) h fun B (i : Dt) e hp hX hB => ?_
  subst e
  obtain ⟨s, x, ms, c, l⟩ := i
  obtain ⟨hs, hm⟩ : Sh s ∧ Mvs ms l := hp
  unfold t_dot_in
  show Ws B _ [some (.dat (nums s)), some (.dat x.D), some (.dat (msD ms)), some (.dat (.int c)), some (.dat (.int l)), none, none, none, none, none] [] [] _
  have hg := gnd_b s x c l
  have hd : dotI s x ms l c = (gt s (colI s (gndI s x c l) (shI s ms c l) c l) % 64, hitI (gndI s x c l) (shI s ms c l)) := rfl
  walk_at "sx"
  refine wk_gndin hs ?_
  walk_at "sx"
  refine wk_show hs hm ?_
  generalize gndI s x c l = gg at hg hd
  obtain ⟨n, q⟩ := gg
  obtain ⟨⟨n0, n4⟩, ⟨q0, q4⟩⟩ : (0 ≤ n ∧ n < 4) ∧ (0 ≤ q ∧ q < 4) := hg
  generalize ho : shI s ms c l = oo at hd
  cases oo with
  | none =>
    rw [show shD s c l none = PyData.none from rfl]
    walk_at "sx"
    · exact no_none (by assumption)
    any_goals exact false
    walk_at "sx"
    · exact no_none (by assumption)
    any_goals exact false
    walk_at "sx"
    refine ⟨fun z => no_none (by assumption), fun _ => ?_⟩
    refine ws_asg ?_
    walk_at "sx"
    refine we_ifI ?_
    walk_at "sx"
    refine wr_ixl .dat (gt_r hs (j := colI s (n, q) none c l) (by split <;> omega) (by split <;> omega) ?_) ?_
    · show _ = 96 + (if n = 0 then 0 else 4 * q + n)
      by_cases e : n = 0 <;> simp [e]
    walk_at "sx"
    walk_at "rx"
    show _ = dotD (dotI s x ms l c)
    rw [hd]
    rfl
  | some m =>
    have hb := List.find?_some ho
    have hmm := hm.2 m (List.mem_of_find?_eq_some ho)
    unfold hitB at hb
    rw [Bool.and_eq_true, Bool.and_eq_true] at hb
    obtain ⟨⟨h1, h2⟩, _⟩ := hb
    have h1 := of_decide_eq_true h1
    have h2 := of_decide_eq_true h2
    have hp3 : 0 ≤ mpI s m c l ∧ mpI s m c l < 4 := pix03 _ _ _ _
    have l0 : 0 ≤ m.looks % 4 ∧ m.looks % 4 < 4 := ⟨Int.emod_nonneg _ (by decide), Int.emod_lt_of_pos _ (by decide)⟩
    rw [show shD s c l (some m) = PyData.tuple [m.D, .int (mpI s m c l)] from rfl]
    generalize hmp : mpI s m c l = mp at hp3
    walk_at "sx"
    · refine wr_ixt (d := m.D) rfl ?_
      walk_at "sx"
      refine wr_ixt (d := .int m.own) rfl ?_
      walk_at "sx"
    walk_at "sx"
    · refine wr_ixt (d := m.D) rfl ?_
      walk_at "sx"
      refine wr_ixt (d := .int m.looks) rfl ?_
      walk_at "sx"
      refine wk_bit (by decide) ?_
      walk_at "sx"
    walk_at "sx"
    refine ⟨fun z => ?_, fun z => ?_⟩
    · walk_at "sx"
      refine wr_ixt (d := m.D) rfl ?_
      walk_at "sx"
      refine wr_ixt (d := .int m.looks) rfl ?_
      walk_at "sx"
      refine wr_ixt (d := .int mp) rfl ?_
      walk_at "sx"
      refine wr_ixl .dat (gt_r hs (j := colI s (n, q) (some m) c l) (by omega) (by omega) ?_) ?_
      · rw [colI, hmp, if_pos (by simpa [isNoneD] using z)]
      walk_at "sx"
      walk_at "rx"
      show _ = dotD (dotI s x ms l c)
      rw [hd]
      rfl
    · refine ws_asg ?_
      walk_at "sx"
      refine we_ifI ?_
      walk_at "sx"
      refine wr_ixl .dat (gt_r hs (j := colI s (n, q) (some m) c l) (by split <;> omega) (by split <;> omega) ?_) ?_
      · have z' : ¬ (bitI m.looks 5 = 0 ∨ n = 0) := by simpa [isNoneD] using z
        show _ = (if bitI m.looks 5 = 0 ∨ n = 0 then 112 + 4 * (m.looks % 4) + mpI s m c l else 96 + (if n = 0 then 0 else 4 * q + n))
        rw [if_neg z']
        by_cases e : n = 0 <;> simp [e]
      walk_at "sx"
      walk_at "rx"
      show _ = dotD (dotI s x ms l c)
      rw [hd]
      rfl

theorem pure_l_law_movers (vs : List V) (H : Hp) (Q : VK) (E : XK) (h : c_l_law_movers.sp K vs H Q E) : t_l_law_movers K E { nx := fun _ H' => Q .non H', rt := Q } (L2.start N_l_law_movers vs) H := by
  refine Cp.body (N := N_l_law_movers) h fun B (i : Lm) e hp hX hB => ?_
  subst e
  obtain ⟨ds, k, c, l⟩ := i
  obtain ⟨hd, hk, hc, hl⟩ : Dr ds ∧ (0 ≤ k ∧ k < 10000) ∧ (0 ≤ c ∧ c < 32) ∧ (0 ≤ l ∧ l < 24) := hp
  unfold t_l_law_movers
  show Ws B _ [some (.dat (nums ds)), some (.dat (.int k)), some (.dat (.int c)), some (.dat (.int l)), none, none, none, none] [] [] _
  walk_at "sx"
  refine we_lstC (wa_nil ⟨Nat.zero_le _, ?_⟩)
  walk_at "sx"
  refine ws_for1 ?_
  walk_at "sx"
  refine ⟨by decide, fun (i : Nat) (g : Gs) (C : Cs) => ∃ (ms : List Mv), ∃ o1 o2 o3, g = [some (.dat (nums ds)), some (.dat (.int k)), some (.dat (.int c)), some (.dat (.int l)), some (.ref 0), o1, o2, o3] ∧ C = [some (.lst ((ms.map Mv.D).map .dat))] ∧ ms.length ≤ i ∧ ∀ m ∈ ms, (m.y ≤ l ∧ l < m.y + 8) ∧ (0 ≤ m.x ∧ m.x < 1000), ⟨[], _, _, _, rfl, rfl, Nat.le_refl _, fun m h => (nomatch h)⟩, ?_, ?_⟩
  · rintro i g' C' hi ⟨ms, o1, o2, o3, rfl, rfl, hn, hm⟩
    walk_at "sx"
    · refine wk_mix hd (by omega) ?_
      walk_at "sx"
    refine ⟨fun z => ?_, fun z => ?_⟩
    · walk_at "sm"
      refine ws_app rfl ⟨_, rfl⟩ ?_
      walk_at "sm"
      rename_i v1 a1 v2 a2 v3 a3 v4 a4 v5 a5 r ar t at' lk alk
      refine ⟨by have := line_ge; rw [List.length_map, List.length_map]; omega, nx_here ⟨ms ++ [⟨i, l - r, t, lk, v5⟩], _, _, _, rfl, by rw [List.map_append, List.map_append]; rfl, by rw [List.length_append, List.length_singleton]; omega, fun m hmm => ?_⟩⟩
      rcases List.mem_append.mp hmm with h1 | h1
      · exact hm m h1
      · rw [List.mem_singleton.mp h1]
        show (l - r ≤ l ∧ l < l - r + 8) ∧ (0 ≤ v5 ∧ v5 < 1000)
        have a := ar.2
        have : r < 8 := by split at a <;> omega
        refine ⟨by omega, ?_⟩
        rcases a5 with e | e | e
        · rw [e]; split <;> omega
        · omega
        · omega
    · exact ws_next (nx_here ⟨ms, _, _, _, rfl, rfl, by omega, hm⟩)
  · rintro g' C' ⟨ms, o1, o2, o3, rfl, rfl, hn, hm⟩
    walk_at "sx"
    refine rx_frz (c := .lst _) rfl (fzn_lst _) (by rw [hB]; exact Nat.zero_le _) ⟨_, rfl, ms, rfl, hn, hm⟩

theorem pure_l_law_dot (vs : List V) (H : Hp) (Q : VK) (E : XK) (h : c_l_law_dot.sp K vs H Q E) : t_l_law_dot K E { nx := fun _ H' => Q .non H', rt := Q } (L2.start N_l_law_dot vs) H := by
  refine Cp.body (N := N_l_law_dot) h fun B (i : Dt) e hp hX hB => ?_
  subst e
  obtain ⟨s, x, ms, c, l⟩ := i
  obtain ⟨hs, hm⟩ : Sh s ∧ Mvs ms l := hp
  unfold t_l_law_dot
  show Ws B _ [some (.dat (nums s)), some (.dat x.D), some (.dat (msD ms)), some (.dat (.int c)), some (.dat (.int l)), none, none, none, none, none, none, none, none, none, none, none, none, none] [] [] _
  have hg := gnd_b s x c l
  have hd : dotI s x ms l c = (gt s (colI s (gndI s x c l) (shI s ms c l) c l) % 64, hitI (gndI s x c l) (shI s ms c l)) := rfl
  walk_at "sx"
  refine wk_lgnd hs ?_
  walk_at "sx"
  generalize gndI s x c l = gg at hg hd
  obtain ⟨n, q⟩ := gg
  obtain ⟨⟨n0, n4⟩, ⟨q0, q4⟩⟩ : (0 ≤ n ∧ n < 4) ∧ (0 ≤ q ∧ q < 4) := hg
  refine wr_ixI (ns := [0, 4 * q + n]) (.cons (.cons .nil)) (by split <;> omega) (by simp only [List.length_cons, List.length_nil]; split <;> omega) ?_
  have e0 : 96 + [0, 4 * q + n].getD (if decide (0 < n) = true then (1 : Int) else 0).toNat 0 = colI s (n, q) none c l := by
    show _ = 96 + (if n = 0 then 0 else 4 * q + n)
    by_cases e : n = 0
    · subst e; rfl
    · rw [if_neg e, if_pos (decide_eq_true (by omega))]; rfl
  walk_at "sx"
  rw [show [0, 4 * (n, q).2 + (n, q).1].getD (if decide (0 < (n, q).1) = true then (1 : Int) else 0).toNat 0 = [0, 4 * q + n].getD (if decide (0 < n) = true then (1 : Int) else 0).toNat 0 from rfl, e0]
  refine ws_forD ms Mv.D ?_
  walk_at "sx"
  refine ⟨rfl, fun (i : Nat) (g : Gs) (C : Cs) => ∃ oo o1 o2 o3 o4 o5 o6 o7 o8, (ms.take i).find? (hitB s c l) = oo ∧ g = [some (.dat (nums s)), some (.dat x.D), some (.dat (msD ms)), some (.dat (.int c)), some (.dat (.int l)), some (.dat (.int n)), some (.dat (.int q)), some (.dat (.int (colI s (n, q) oo c l))), some (.dat (.bool (hitI (n, q) oo))), some (.dat (.bool oo.isSome)), o1, o2, o3, o4, o5, o6, o7, o8] ∧ C = [], ⟨none, _, _, _, _, _, _, _, _, rfl, rfl, rfl⟩, ?_, ?_⟩
  · rintro i m g' C' hi ⟨oo, o1, o2, o3, o4, o5, o6, o7, o8, hf, rfl, rfl⟩
    have hmy := (hm.2 m (List.mem_of_getElem? hi)).1
    have et : (ms.take (i + 1)).find? (hitB s c l) = if oo.isSome then oo else if hitB s c l m then some m else none := by
      rw [take_snoc hi, List.find?_append, hf, List.find?_cons, List.find?_nil]
      cases oo with
      | some _ => rfl
      | none => cases hitB s c l m <;> rfl
    walk_at "sx"
    refine ⟨fun z => ?_, fun z => ?_⟩
    · rw [Bool.and_eq_true, Bool.and_eq_true, Bool.and_eq_true, Bool.and_eq_true] at z
      obtain ⟨z1, ⟨z2, z3⟩, ⟨z4, z5⟩⟩ := z
      have z2 := of_decide_eq_true z2
      have z3 := of_decide_eq_true z3
      cases oo with
      | some _ => cases z1
      | none =>
        walk_at "sa"
        refine wk_lbit (by decide) ?_
        walk_at "sa"
        refine wk_lbit (by decide) ?_
        walk_at "sa"
        refine wk_lpix hs ⟨by omega, by split <;> omega, by split <;> omega⟩ ?_
        have emp : pixI s (m.tile % 32) (if decide (bitI m.looks 7 = 1) = true then 7 - (l - m.y) else l - m.y) (if decide (bitI m.looks 6 = 1) = true then 7 - (c - m.x) else c - m.x) = mpI s m c l := by
          unfold mpI
          simp only [decide_eq_true_eq]
        rw [emp]
        have hmp := pix03 s (m.tile % 32) (if decide (bitI m.looks 7 = 1) = true then 7 - (l - m.y) else l - m.y) (if decide (bitI m.looks 6 = 1) = true then 7 - (c - m.x) else c - m.x)
        rw [emp] at hmp
        have hx : hitB s c l m = !decide (mpI s m c l = 0) := by
          unfold hitB
          rw [decide_eq_true z2, decide_eq_true z3]; rfl
        have hz : decide (0 < mpI s m c l) = hitB s c l m := by
          rw [hx, ← decide_not]
          exact decide_eq_decide.mpr (by omega)
        walk_at "sx"
        rw [hz]
        refine ⟨fun y => ?_, fun y => ?_⟩
        · rw [if_neg (by decide), if_pos y] at et
          walk_at "sa"
          refine wk_lbit (by decide) ?_
          walk_at "sa"
          have ec : (if (decide (bitI m.looks 5 = 0) || decide (n = 0)) = true then 112 + 4 * (m.looks % 4) + mpI s m c l else colI s (n, q) none c l) = colI s (n, q) (some m) c l := by
            show _ = (if bitI m.looks 5 = 0 ∨ n = 0 then 112 + 4 * (m.looks % 4) + mpI s m c l else colI s (n, q) none c l)
            simp only [Bool.or_eq_true, decide_eq_true_eq]
          have eh : (decide (m.own = 0) && decide (0 < n)) = hitI (n, q) (some m) := by
            show _ = (decide (m.own = 0) && !decide (n = 0))
            rw [← decide_not]
            congr 1
            exact decide_eq_decide.mpr (by omega)
          rw [ec, eh]
          exact nx_here ⟨some m, _, _, _, _, _, _, _, _, et, rfl, rfl⟩
        · rw [if_neg (by decide), if_neg (by rw [y]; decide)] at et
          exact ws_next (nx_here ⟨none, _, _, _, _, _, _, _, _, et, rfl, rfl⟩)
    · have hh : (oo.isSome || !(hitB s c l m)) = true := by
        unfold hitB
        rw [decide_eq_true hmy.1, decide_eq_true hmy.2] at z
        cases oo with
        | some _ => rfl
        | none =>
          simp at z ⊢
          omega
      refine ws_next (nx_here ⟨oo, _, _, _, _, _, _, _, _, ?_, rfl, rfl⟩)
      rw [et]
      cases oo with
      | some _ => rfl
      | none =>
        rw [if_neg (by decide), if_neg]
        simpa using hh
  · rintro g' C' ⟨oo, o1, o2, o3, o4, o5, o6, o7, o8, hf, rfl, rfl⟩
    rw [List.take_length] at hf
    have hf' : shI s ms c l = oo := hf
    have hcb : 0 ≤ colI s (n, q) oo c l ∧ colI s (n, q) oo c l < 1024 := by
      have h0 : 0 ≤ 96 + (if n = 0 then 0 else 4 * q + n) ∧ 96 + (if n = 0 then 0 else 4 * q + n) < 1024 := by split <;> omega
      cases oo with
      | none => exact h0
      | some m =>
        have hmp := pix03 s (m.tile % 32) (if bitI m.looks 7 = 1 then 7 - (l - m.y) else l - m.y) (if bitI m.looks 6 = 1 then 7 - (c - m.x) else c - m.x)
        have hmp : 0 ≤ mpI s m c l ∧ mpI s m c l < 4 := hmp
        show 0 ≤ (if bitI m.looks 5 = 0 ∨ n = 0 then 112 + 4 * (m.looks % 4) + mpI s m c l else 96 + (if n = 0 then 0 else 4 * q + n)) ∧ (if bitI m.looks 5 = 0 ∨ n = 0 then 112 + 4 * (m.looks % 4) + mpI s m c l else 96 + (if n = 0 then 0 else 4 * q + n)) < 1024
        by_cases e : bitI m.looks 5 = 0 ∨ n = 0
        · rw [if_pos e]; omega
        · rw [if_neg e]; exact h0
    walk_at "sx"
    refine wr_ixl .dat (gt_at hs hcb.1 hcb.2) ?_
    walk_at "sx"
    walk_at "rx"
    show _ = dotD (dotI s x ms l c)
    rw [hd, hf']
    rfl
end
end K04

set_option Elab.async false
set_option linter.all false
set_option maxRecDepth 100000
set_option maxHeartbeats 1000000
namespace K04
open PySem PySem.Spec PyProof.Rows L2 Sy
local macro_rules | `(tactic| walk_at "s1") => `(tactic| first
  | ((with_reducible refine' we_var ?hv ?_); (case hv => rfl))
  | with_reducible refine we_int ?_ | with_reducible refine we_op ?_ | with_reducible refine we_cb ?_ | with_reducible refine wa_cons ?_ | with_reducible refine wa_nil ?_
  | with_reducible refine wr_plus ?_ | with_reducible refine wr_sb ?_ | ((with_reducible refine wr_md ?hc ?_); (case hc => decide)) | ((with_reducible refine wr_dv ?hc ?_); (case hc => exact ⟨by decide, by decide⟩))
  | ((with_reducible refine wr_times ?hc ?_); (case hc => first | exact cmul_r (by decide) (by decide) | exact cmul_l (by decide) (by decide)))
  | ((with_reducible refine wr_pw ?hc ?_); (case hc => exact ⟨by decide, by decide, by decide⟩))
  | with_reducible refine wr_lt ?_ | with_reducible refine wr_le ?_ | with_reducible refine wr_gt ?_ | with_reducible refine wr_ge ?_ | with_reducible refine wr_eqI ?_ | with_reducible refine wr_neI ?_ | with_reducible refine wr_eqS ?_ | with_reducible refine wr_neS ?_
  | with_reducible refine we_str ?_ | with_reducible refine we_bl ?_ | with_reducible refine we_non ?_
  | with_reducible refine wc_int ?_ | with_reducible refine wc_intB ?_ | with_reducible refine wc_abs ?_ | with_reducible refine wc_min2 ?_ | with_reducible refine wc_max2 ?_ | with_reducible refine wc_lenScr ?_
  | ((with_reducible refine' wc_len (.cell ?hl) ?_); (case hl => rfl)) | with_reducible refine wc_len .dat ?_ | with_reducible refine wc_lenT ?_
  | with_reducible refine ws_asgG ?_ | refine wg_tup rfl ?_ | refine wgs_cons ?_ | refine wgs_nil ?_ | with_reducible refine wg_name ?_ | ((with_reducible refine' wgw_name ?hj ?_); (case hj => decide)) | refine wgw_tup rfl ?_ | refine wgsw_cons ?_ | refine wgsw_nil ?_
  | with_reducible refine wt_test ?_ | with_reducible refine wt_B ?_ | with_reducible refine wt_not ?_
  | with_reducible refine ws_seq ?_ | with_reducible refine ws_asg ?_ | with_reducible refine ws_ret ?_ | with_reducible refine ws_if ?_ | with_reducible refine ws_par ?_ | with_reducible refine ws_par3 ?_
  | with_reducible refine we_chLL ?_ | with_reducible refine we_chLE ?_ | with_reducible refine we_ng ?_ | with_reducible refine we_notV ?_
  | with_reducible refine wt_and ?_ | with_reducible refine wt_or ?_ | with_reducible refine we_andV ?_ | with_reducible refine we_orV ?_ | with_reducible refine wr_isN ?_ | with_reducible refine wr_notN ?_
  | with_reducible refine we_tupX ?_ | with_reducible refine we_lstX ?_ | with_reducible refine we_callN ?_
  | (with_reducible apply Exists.intro; with_reducible refine And.intro ?ds (And.intro ?ln ?_); (case ds => repeat (first | exact DS.nil | apply DS.cons)); (case ln => exact len_ok rfl))
  | (with_reducible apply Exists.intro; with_reducible refine And.intro (fun _ => ?_) ?_)
  | (with_reducible apply Exists.intro; with_reducible apply Exists.intro; with_reducible refine And.intro rfl (And.intro (fun _ => ?_) ?_))
  | (apply Exists.intro; apply Exists.intro; apply Exists.intro; with_reducible refine And.intro rfl (And.intro rfl (And.intro ?_ ?_)))
  | with_reducible refine wc_allM ?_ | with_reducible refine wc_anyM ?_ | with_reducible refine wc_sumM ?_ | with_reducible exact lv_map
  | with_reducible refine wa_star ?_ | with_reducible refine we_sl ?_ | with_reducible refine wo_some ?_ | with_reducible refine wo_no ?_ | with_reducible refine wl_q .dat ?_ | ((with_reducible refine' wl_q (.cell ?hl) ?_); (case hl => rfl)) | with_reducible refine ⟨_, .dat, ?_⟩
  | (with_reducible apply Exists.intro; with_reducible apply Exists.intro; with_reducible refine And.intro (fun _ => ?_) (And.intro (fun _ => ?_) ?_))
  | with_reducible exact ⟨rfl, rfl⟩
  | with_reducible refine ⟨_, rfl, ?_⟩ | with_reducible refine ⟨_, _, rfl, ?_⟩ | with_reducible refine ⟨_, _, _, rfl, ?_⟩)
local macro_rules | `(tactic| walk_at "sx") => `(tactic| repeat (walk_at "s1"))
local macro_rules | `(tactic| walk_at "rx") => `(tactic| (show Rx _ _ _ _; refine rx_here ⟨_, rfl, ?_⟩))
local macro_rules | `(tactic| walk_at "mx") => `(tactic| first
  | (with_reducible refine wk_mixG ?hd ?hm (fun _ _ => ?_); (case hd => assumption); (case hm => first | omega | (split <;> omega)))
  | (refine' wr_ixG ?il ?h0 ?h1 (fun _ hm => ?_); (case il => repeat (first | exact IL.nil | apply IL.cons)); (case h0 => first | omega | (split <;> omega)); (case h1 => simp only [List.length_cons, List.length_nil]; first | omega | (split <;> omega)); (simp only [List.mem_cons, List.not_mem_nil, or_false] at hm))
  | walk_at "s1")
local macro_rules | `(tactic| walk_at "sm") => `(tactic| repeat (walk_at "mx"))
local macro_rules | `(tactic| walk_at "sa") => `(tactic| repeat (first | with_reducible refine ws_ifA ?_ | (with_reducible apply Exists.intro; with_reducible apply Exists.intro; refine And.intro rfl (And.intro (fun _ => ?_) ?_)) | walk_at "s1"))
section
variable {K : PySem.W.Frag} {mg : Str → Option Value}
theorem run_at {a b : Int} {i : Nat} (h : i < (b - a).toNat) : (runI a b)[i]? = some (a + i) := rng_at h
theorem run_len (a b : Int) : (runI a b).length = (b - a).toNat := rng_len a b
theorem run_nil (a : Int) : runI a a = [] := by simp [runI]
theorem run_app {a b c : Int} (h1 : a ≤ b) (h2 : b ≤ c) : runI a c = runI a b ++ runI b c := by
  refine List.ext_getElem? fun i => ?_
  by_cases h : i < (b - a).toNat
  · rw [List.getElem?_append_left (by rw [run_len]; exact h), run_at h, run_at (by omega)]
  · rw [List.getElem?_append_right (by rw [run_len]; omega), run_len]
    by_cases h3 : i < (c - a).toNat
    · rw [run_at h3, run_at (by omega)]
      congr 1
      omega
    · rw [List.getElem?_eq_none (by rw [run_len]; omega), List.getElem?_eq_none (by rw [run_len]; omega)]
theorem run_snoc {a b : Int} (h : a ≤ b) : runI a (b + 1) = runI a b ++ [b] := by
  rw [run_app h (by omega : b ≤ b + 1)]
  congr 1
  unfold runI
  rw [show (b + 1 - b).toNat = 1 by omega]
  simp
theorem run_map {a b c d : Int} {α : Type} {f g : Int → α} (h : b - a = d - c) (e : ∀ j : Nat, (j : Int) < b - a → f (a + j) = g (c + j)) : (runI a b).map f = (runI c d).map g := by
  refine List.ext_getElem? fun i => ?_
  rw [List.getElem?_map, List.getElem?_map]
  by_cases h1 : i < (b - a).toNat
  · rw [run_at h1, run_at (by omega)]
    exact congrArg some (e i (by omega))
  · rw [List.getElem?_eq_none (by rw [run_len]; omega), List.getElem?_eq_none (by rw [run_len]; omega)]
    rfl
theorem nums_map {α : Type} (f : α → Int) (as : List α) : nums (as.map f) = .list (as.map fun x => .int (f x)) := by
  unfold nums
  rw [List.map_map]; rfl

theorem pure_ground_dots (vs : List V) (H : Hp) (Q : VK) (E : XK) (h : c_ground_dots.sp K vs H Q E) : t_ground_dots K E { nx := fun _ H' => Q .non H', rt := Q } (L2.start N_ground_dots vs) H := by
  refine Cp.body (N := N_ground_dots) h fun B (i : Gd) e hp hX hB => ?_
  subst e
  obtain ⟨s, x, l, a, b⟩ := i
  obtain ⟨hs, ha, hab, hb⟩ : Sh s ∧ (0 ≤ a ∧ a ≤ b ∧ b ≤ 100) := hp
  unfold t_ground_dots
  show Ws B _ [some (.dat (nums s)), some (.dat x.D), some (.dat (.int l)), some (.dat (.int a)), some (.dat (.int b)), none, none, none, none, none, none, none, none, none, none, none, none] [] [] _
  have LG := line_ge
  walk_at "sx"
  refine wk_bit (by decide) ?_
  walk_at "sx"
  refine ⟨fun z => ?_, fun z => ?_⟩
  · walk_at "sx"
    refine wr_timesL .dat (by omega) (by omega) ?_ ?_
    · rw [List.length_singleton]; omega
    walk_at "rx"
    show _ = PyData.list ((runI a b).map fun c => prD (gndI s x c l))
    have e : ∀ c, prD (gndI s x c l) = .tuple [.int 0, .int 0] := fun c => by rw [gndI, if_pos (of_decide_eq_true z)]; rfl
    simp only [e]
    rw [List.map_const', run_len]
    congr 1
    generalize (b - a).toNat = n
    induction n with
    | zero => rfl
    | succ n ih => rw [List.replicate_succ, List.replicate_succ, List.flatten_cons, ih]; rfl
  · have hz := of_decide_eq_false z
    refine ws_next ?_
    walk_at "sx"
    refine we_lstC (wa_nil ⟨Nat.zero_le _, ?_⟩)
    walk_at "sx"
    refine ws_while (m0 := (b - a).toNat) (fun (m : Nat) (g : Gs) (C : Cs) => ∃ (cl : Int) (o1 o2 o3 o4 o5 : Option SV), m = (b - cl).toNat ∧ (a ≤ cl ∧ cl ≤ b) ∧ g = [some (.dat (nums s)), some (.dat x.D), some (.dat (.int l)), some (.dat (.int a)), some (.dat (.int b)), some (.dat (.int x.r)), some (.dat (.int x.d)), some (.dat (.int x.t)), some (.dat (.int x.o)), some (.dat (.int ((l + x.d) % 64))), some (.ref 0), some (.dat (.int cl)), o1, o2, o3, o4, o5] ∧ C = [some (.lst (((runI a cl).map fun c => prD (gndI s x c l)).map .dat))]) ⟨a, _, _, _, _, _, rfl, ⟨Int.le_refl _, hab⟩, rfl, by rw [run_nil]; rfl⟩ ?_
    rintro m g' C' ⟨cl, o1, o2, o3, o4, o5, hm, ⟨h1, h2⟩, rfl, rfl⟩
    walk_at "sx"
    refine ⟨fun y => ?_, fun y => ?_⟩
    · have y := of_decide_eq_true y
      walk_at "sx"
      refine wr_ixl .dat (gt_at hs (by omega) (by omega)) ?_
      generalize hby : gt s ((l + x.d) % 64 / 8 * 8 + (cl + x.r) % 64 / 8) = by'
      walk_at "sx"
      generalize hst : (if cl + 8 - (cl + x.r) % 64 % 8 < b then cl + 8 - (cl + x.r) % 64 % 8 else b) = st
      have hs1 : cl < st ∧ st ≤ b ∧ st ≤ cl + 8 - (cl + x.r) % 64 % 8 := by rw [← hst]; split <;> omega
      refine wk_tile hs (by omega) ?_
      walk_at "sx"
      refine ws_ext rfl ⟨_, rfl⟩ ?_
      refine we_lc1 ((runI ((cl + x.r) % 64 % 8) ((cl + x.r) % 64 % 8 + st - cl)).map fun k => pixI s (by' % 32) ((l + x.d) % 64 % 8) k) (fun z => .dat (.int z)) (fun z => .tuple [.int z, .int (by' / 32 % 4)]) (by rw [List.length_map, run_len]; omega) (wsrc_list ?_)
      walk_at "sx"
      refine ⟨lv_map, fun z hz S' acc => ?_, ?_⟩
      · walk_at "sx"
      · walk_at "sx"
        refine ⟨_, _, rfl, rfl, by simp only [List.length_map, run_len]; omega, ?_⟩
        walk_at "sx"
        refine nx_here ⟨(b - st).toNat, by omega, st, _, _, _, _, _, rfl, ⟨by omega, hs1.2.1⟩, rfl, ?_⟩
        rw [run_app h1 (by omega : cl ≤ st), List.map_append, List.map_append]
        have e : ((runI ((cl + x.r) % 64 % 8) ((cl + x.r) % 64 % 8 + st - cl)).map ((fun z => PyData.tuple [.int z, .int (by' / 32 % 4)]) ∘ fun k => pixI s (by' % 32) ((l + x.d) % 64 % 8) k)) = (runI cl st).map fun c => prD (gndI s x c l) := by
          refine run_map (by omega) fun j hj => ?_
          have e1 : (cl + (j : Int) + x.r) % 64 = (cl + x.r) % 64 + j := by omega
          have e2 : ((cl + x.r) % 64 + (j : Int)) / 8 = (cl + x.r) % 64 / 8 := by omega
          have e3 : ((cl + x.r) % 64 + (j : Int)) % 8 = (cl + x.r) % 64 % 8 + j := by omega
          show PyData.tuple [.int (pixI s (by' % 32) ((l + x.d) % 64 % 8) ((cl + x.r) % 64 % 8 + j)), .int (by' / 32 % 4)] = prD (gndI s x (cl + j) l)
          rw [gndI, if_neg hz]
          simp only [e1, e2, e3, hby]
          rfl
        rw [← e, ← List.map_map]
        rfl
    · have y := of_decide_eq_false y
      have e : cl = b := by omega
      subst e
      walk_at "sx"
      exact rx_frz (c := .lst _) rfl (fzn_lst _) (by rw [hB]; exact Nat.zero_le _) ⟨_, rfl, rfl⟩

theorem valA_len {α : Type} {kvs : List (Key × α)} : (kvs.map fun q => (q.1, q.2)).length = kvs.length := by simp
theorem md_take {s : List Int} {ms : List Mv} {l a b : Int} {i : Nat} {m : Mv} (hi : ms[i]? = some m) (c : Int) (hc : a ≤ c ∧ c < b) : mdV s (ms.take (i + 1)) l a b c = match mdV s (ms.take i) l a b c with
    | some d => some d
    | none => if hitB s c l m then some (.tuple [m.D, .int (mpI s m c l)]) else none := by
  unfold mdV
  rw [if_pos hc, if_pos hc]
  unfold shI
  rw [take_snoc hi, List.find?_append, List.find?_cons, List.find?_nil]
  cases (ms.take i).find? (hitB s c l) with
  | some _ => rfl
  | none => cases hitB s c l m <;> rfl
theorem md_out {s : List Int} {ms : List Mv} {l a b : Int} (c : Int) (hc : ¬ (a ≤ c ∧ c < b)) : mdV s ms l a b c = none := by unfold mdV; rw [if_neg hc]

theorem pure_mover_dots (vs : List V) (H : Hp) (Q : VK) (E : XK) (h : c_mover_dots.sp K vs H Q E) : t_mover_dots K E { nx := fun _ H' => Q .non H', rt := Q } (L2.start N_mover_dots vs) H := by
  refine Cp.body (N := N_mover_dots) h fun B (i : Md) e hp hX hB => ?_
  subst e
  obtain ⟨s, ms, l, a, b⟩ := i
  obtain ⟨hs, hm, ha, hab, hb⟩ : Sh s ∧ Mvs ms l ∧ (0 ≤ a ∧ a ≤ b ∧ b ≤ 100) := hp
  unfold t_mover_dots
  show Ws B _ [some (.dat (nums s)), some (.dat (msD ms)), some (.dat (.int l)), some (.dat (.int a)), some (.dat (.int b)), none, none, none, none] [] [] _
  have LG := line_ge
  walk_at "sx"
  refine we_dnew ?_
  walk_at "sx"
  refine ws_forD ms Mv.D ?_
  walk_at "sx"
  refine ⟨rfl, fun (i : Nat) (g : Gs) (C : Cs) => ∃ (kvs : List (Key × D)) (o1 o2 o3 : Option SV), g = [some (.dat (nums s)), some (.dat (msD ms)), some (.dat (.int l)), some (.dat (.int a)), some (.dat (.int b)), some (.ref 0), o1, o2, o3] ∧ C = [some (.dct (kvs.map fun q => (q.1, .dat q.2)))] ∧ kvs.length ≤ 8 * i ∧ ∀ c, valA kvs (.inl c) = mdV s (ms.take i) l a b c, ⟨[], _, _, _, rfl, rfl, Nat.zero_le _, fun c => ?_⟩, ?_, ?_⟩
  · show none = mdV s [] l a b c
    unfold mdV shI
    split <;> rfl
  · rintro i m g' C' hi ⟨kvs, o1, o2, o3, rfl, rfl, hn, hv⟩
    have hmy := (hm.2 m (List.mem_of_getElem? hi)).1
    have hmx := (hm.2 m (List.mem_of_getElem? hi)).2
    have hil := (List.getElem?_eq_some_iff.mp hi).1
    have h8 := hm.1
    refine wg_name ?_
    refine ws_for2 ?_
    walk_at "sx"
    refine wr_ixt (d := .int m.x) rfl ?_
    walk_at "sx"
    refine wr_ixt (d := .int m.x) rfl ?_
    walk_at "sx"
    generalize hlo : (if m.x > a then m.x else a) = lo
    generalize hhi : (if m.x + 8 < b then m.x + 8 else b) = hh
    have hlo2 : a ≤ lo ∧ m.x ≤ lo ∧ (lo = a ∨ lo = m.x) := by rw [← hlo]; split <;> omega
    have hhi2 : hh ≤ b ∧ hh ≤ m.x + 8 ∧ (hh = b ∨ hh = m.x + 8) := by rw [← hhi]; split <;> omega
    clear hlo hhi
    refine ⟨by omega, fun (j : Nat) (g : Gs) (C : Cs) => ∃ (kvs : List (Key × D)) (o2 o3 : Option SV), g = [some (.dat (nums s)), some (.dat (msD ms)), some (.dat (.int l)), some (.dat (.int a)), some (.dat (.int b)), some (.ref 0), some (.dat m.D), o2, o3] ∧ C = [some (.dct (kvs.map fun q => (q.1, .dat q.2)))] ∧ kvs.length ≤ 8 * i + j ∧ ∀ c, valA kvs (.inl c) = if lo ≤ c ∧ c < lo + j then mdV s (ms.take (i + 1)) l a b c else mdV s (ms.take i) l a b c, ⟨kvs, _, _, rfl, rfl, hn, fun c => ?_⟩, ?_, ?_⟩
    · rw [hv, if_neg (by omega)]
    · rintro j g' C' hj ⟨kvs, o2, o3, rfl, rfl, hn, hv⟩
      walk_at "sx"
      refine wk_mp hs ⟨hmy, by omega⟩ ?_
      walk_at "sx"
      refine we_dnotin ?_
      walk_at "sx"
      refine ⟨.inl (lo + j), _, rfl, .cell rfl (valA_mapv SV.dat (.inl (lo + j)) kvs), ?_⟩
      have hc0 : a ≤ lo + j ∧ lo + j < b := by omega
      have hb : hitB s (lo + j) l m = !decide (mpI s m (lo + j) l = 0) := by
        unfold hitB
        rw [decide_eq_true (by omega : m.x ≤ lo + j), decide_eq_true (by omega : lo + j < m.x + 8)]; rfl
      have hvc := hv (lo + j)
      rw [if_neg (by omega)] at hvc
      have hmt := md_take (l := l) (a := a) (b := b) hi (lo + j) hc0 (s := s)
      walk_at "sx"
      have step : ∀ c, (if lo ≤ c ∧ c < lo + ((j + 1 : Nat) : Int) then mdV s (ms.take (i + 1)) l a b c else mdV s (ms.take i) l a b c) = if c = lo + j then mdV s (ms.take (i + 1)) l a b c else if lo ≤ c ∧ c < lo + j then mdV s (ms.take (i + 1)) l a b c else mdV s (ms.take i) l a b c := fun c => by
        by_cases e : c = lo + j
        · rw [if_pos e, if_pos (by omega)]
        · rw [if_neg e]
          by_cases e2 : lo ≤ c ∧ c < lo + j
          · rw [if_pos e2, if_pos (by omega)]
          · rw [if_neg e2, if_neg (by omega)]
      refine ⟨fun z => ?_, fun z => ?_⟩
      · rw [Bool.and_eq_true, ← hb] at z
        have hno : valA kvs (.inl (lo + j)) = none := by
          have := z.1
          cases e : valA kvs (.inl (lo + j)) with
          | none => rfl
          | some v => rw [e] at this; cases this
        rw [hvc] at hno
        rw [hno, if_pos z.2] at hmt
        refine ws_dput ?_
        walk_at "sx"
        refine ⟨0, _, .inl (lo + j), rfl, rfl, rfl, by rw [List.length_map]; omega, ?_⟩
        rw [← putA_mapv SV.dat (.inl (lo + j)) (.tuple [m.D, .int (mpI s m (lo + j) l)]) kvs]
        refine nx_here ⟨_, _, _, rfl, rfl, ?_, fun c => ?_⟩
        · have := putA_len kvs (.inl (lo + j)) (PyData.tuple [m.D, .int (mpI s m (lo + j) l)])
          omega
        · rw [valA_put, step c]
          by_cases e : c = lo + j
          · rw [if_pos (by rw [e]), if_pos e, e, hmt]
          · rw [if_neg (fun z => e (Sum.inl.inj z)), if_neg e, hv]
      · refine ws_next (nx_here ⟨kvs, _, _, rfl, rfl, by omega, fun c => ?_⟩)
        rw [step c, hv]
        by_cases e : c = lo + j
        · subst e
          rw [if_pos rfl, if_neg (by omega), hmt]
          rw [hvc, ← hb] at z
          cases e2 : mdV s (ms.take i) l a b (lo + j) with
          | some v => rfl
          | none =>
            rw [e2] at z
            have z : hitB s (lo + j) l m = false := by simpa using z
            rw [z]; rfl
        · rw [if_neg e]
    · rintro g' C' ⟨kvs, o2, o3, rfl, rfl, hn, hv⟩
      refine nx_here ⟨kvs, _, _, _, rfl, rfl, by omega, fun c => ?_⟩
      rw [hv]
      by_cases e : lo ≤ c ∧ c < lo + ((hh - lo).toNat : Int)
      · rw [if_pos e]
      · rw [if_neg e]
        by_cases hc : a ≤ c ∧ c < b
        · rw [md_take hi c hc]
          have hb : hitB s c l m = false := by
            unfold hitB
            have : ¬ (m.x ≤ c ∧ c < m.x + 8) := by omega
            by_cases h1 : m.x ≤ c
            · rw [decide_eq_false (by omega : ¬ c < m.x + 8), Bool.and_false, Bool.false_and]
            · rw [decide_eq_false h1, Bool.false_and, Bool.false_and]
          rw [hb]
          cases mdV s (ms.take i) l a b c <;> rfl
        · rw [md_out c hc, md_out c hc]
  · rintro g' C' ⟨kvs, o1, o2, o3, rfl, rfl, hn, hv⟩
    walk_at "sx"
    refine rx_frz (c := .dct _) rfl (fzn_dct _) (by rw [hB]; exact Nat.zero_le _) ⟨_, rfl, kvs, rfl, fun c => ?_⟩
    rw [hv, List.take_length]

theorem fst_run (s : List Int) (x : St4) (l a b : Int) {i : Nat} {p : Int × Int} (h : ((runI a b).map fun c => gndI s x c l)[i]? = some p) : p = gndI s x (a + i) l ∧ (i : Int) < b - a := by
  rw [List.getElem?_map] at h
  by_cases hi : i < (b - a).toNat
  · rw [run_at hi] at h
    exact ⟨(Option.some.inj h).symm, by omega⟩
  · rw [List.getElem?_eq_none (by rw [run_len]; omega)] at h
    cases h

theorem pure_dots_of (vs : List V) (H : Hp) (Q : VK) (E : XK) (h : c_dots_of.sp K vs H Q E) : t_dots_of K E { nx := fun _ H' => Q .non H', rt := Q } (L2.start N_dots_of vs) H := by
  refine Cp.body (N := N_dots_of) h fun B (i : Ds) e hp hX hB => ?_
  subst e
  obtain ⟨s, x, ms, l, a, b⟩ := i
  obtain ⟨hs, hm, ha, hab, hb⟩ : Sh s ∧ Mvs ms l ∧ (0 ≤ a ∧ a ≤ b ∧ b ≤ 100) := hp
  unfold t_dots_of
  show Ws B _ [some (.dat (nums s)), some (.dat x.D), some (.dat (msD ms)), some (.dat (.int l)), some (.dat (.int a)), some (.dat (.int b)), none, none, none, none, none, none, none, none, none] [] [] _
  have LG := line_ge
  walk_at "sx"
  refine wk_mdots hs ⟨hm, ha, hab, hb⟩ fun kvs hv => ?_
  walk_at "sx"
  refine we_lstC (wa_nil ⟨Nat.zero_le _, ?_⟩)
  walk_at "sx"
  refine ws_forED ((runI a b).map fun c => gndI s x c l) prD ?_
  walk_at "sx"
  refine wk_gdots hs ⟨ha, hab, hb⟩ ?_
  walk_at "sx"
  refine ⟨by rw [List.map_map]; rfl, fun (i : Nat) (g : Gs) (C : Cs) => ∃ (o1 o2 o3 o4 o5 o6 : Option SV), g = [some (.dat (nums s)), some (.dat x.D), some (.dat (msD ms)), some (.dat (.int l)), some (.dat (.int a)), some (.dat (.int b)), some (.dat (dictD kvs)), some (.ref 0), some (.dat (.bool ((runI a (a + i)).any fun c => (dotI s x ms l c).2))), o1, o2, o3, o4, o5, o6] ∧ C = [some (.lst (((runI a (a + i)).map fun c => .int (dotI s x ms l c).1).map .dat))], ⟨_, _, _, _, _, _, by simp only [Int.natCast_zero, Int.add_zero, run_nil]; rfl, by simp only [Int.natCast_zero, Int.add_zero, run_nil]; rfl⟩, ?_, ?_⟩
  · rintro i p g' C' hi ⟨o1, o2, o3, o4, o5, o6, rfl, rfl⟩
    obtain ⟨hp, hi⟩ := fst_run s x l a b hi
    have hg := gnd_b s x (a + i) l
    have hd : dotI s x ms l (a + i) = (gt s (colI s (gndI s x (a + i) l) (shI s ms (a + i) l) (a + i) l) % 64, hitI (gndI s x (a + i) l) (shI s ms (a + i) l)) := rfl
    have hva : valA kvs (.inl (a + i)) = (shI s ms (a + i) l).map fun m => .tuple [m.D, .int (mpI s m (a + i) l)] := by rw [hv]; unfold mdV; rw [if_pos (by omega)]
    rw [← hp] at hg hd
    clear hp
    obtain ⟨n, q⟩ := p
    obtain ⟨⟨n0, n4⟩, ⟨q0, q4⟩⟩ : (0 ≤ n ∧ n < 4) ∧ (0 ≤ q ∧ q < 4) := hg
    have hsn : runI a (a + ((i + 1 : Nat) : Int)) = runI a (a + i) ++ [a + i] := by
      rw [← run_snoc (by omega : a ≤ a + (i : Int))]
      congr 1
      omega
    have hl1 : ((runI a (a + (i : Int))).map fun c => PyData.int (dotI s x ms l c).1).length = i := by rw [List.length_map, run_len]; omega
    generalize ho : shI s ms (a + i) l = oo at hd hva
    walk_at "sx"
    refine we_ifI ?_
    walk_at "sx"
    generalize hpl : 96 + (if (!decide (n = 0)) = true then 4 * q + n else 0) = pl
    have hpl2 : pl = 96 + (if n = 0 then 0 else 4 * q + n) := by
      rw [← hpl]
      by_cases e : n = 0 <;> simp [e]
    have hplb : 0 ≤ pl ∧ pl < 200 := by rw [hpl2]; split <;> omega
    refine we_din ?_
    walk_at "sx"
    refine ⟨.inl (a + i), _, rfl, .dat hva, ?_⟩
    walk_at "sx"
    cases oo with
    | none =>
      refine ⟨fun z => (nomatch z), fun _ => ?_⟩
      refine ws_next ?_
      refine ws_app rfl ⟨_, rfl⟩ ?_
      walk_at "sx"
      refine wr_ixl .dat (gt_r hs (j := colI s (n, q) none (a + i) l) (by omega) (by omega) hpl2) ?_
      walk_at "sx"
      refine ⟨by rw [List.length_map, hl1]; omega, ?_⟩
      have hany : ((runI a (a + i)).any fun c => (dotI s x ms l c).2) = ((runI a (a + ((i + 1 : Nat) : Int))).any fun c => (dotI s x ms l c).2) := by
        rw [hsn, List.any_append, List.any_cons, List.any_nil, hd]
        simp only [hitI, Bool.or_false]
      rw [hany]
      refine nx_here ⟨_, _, _, _, _, _, rfl, ?_⟩
      rw [hsn, List.map_append, List.map_append, List.map_cons, List.map_nil, hd]
      rfl
    | some m =>
      have hb := List.find?_some ho
      have hmm := hm.2 m (List.mem_of_find?_eq_some ho)
      have hp3 : 0 ≤ mpI s m (a + i) l ∧ mpI s m (a + i) l < 4 := pix03 _ _ _ _
      have l0 : 0 ≤ m.looks % 4 ∧ m.looks % 4 < 4 := ⟨Int.emod_nonneg _ (by decide), Int.emod_lt_of_pos _ (by decide)⟩
      refine ⟨fun _ => ?_, fun z => (nomatch z)⟩
      walk_at "sx"
      refine we_dgetA ?_
      walk_at "sx"
      refine ⟨.inl (a + i), _, rfl, .dat hva, ?_⟩
      generalize hmp : mpI s m (a + i) l = mp at hp3
      walk_at "sx"
      · refine wr_ixt (d := .int m.own) rfl ?_
        walk_at "sx"
      have hany : (((runI a (a + i)).any fun c => (dotI s x ms l c).2) || (decide (m.own = 0) && !decide (n = 0))) = ((runI a (a + ((i + 1 : Nat) : Int))).any fun c => (dotI s x ms l c).2) := by
        rw [hsn, List.any_append, List.any_cons, List.any_nil, hd]
        simp only [hitI, Bool.or_false]
      rw [hany]
      walk_at "sa"
      · refine wr_ixt (d := .int m.looks) rfl ?_
        walk_at "sx"
        refine wk_bit (by decide) ?_
        walk_at "sx"
      walk_at "sa"
      · refine wr_ixt (d := .int m.looks) rfl ?_
        walk_at "sx"
      have ec : (if (decide (n = 0) || decide (bitI m.looks 5 = 0)) = true then 112 + 4 * (m.looks % 4) + mpI s m (a + i) l else pl) = colI s (n, q) (some m) (a + i) l := by
        show _ = (if bitI m.looks 5 = 0 ∨ n = 0 then 112 + 4 * (m.looks % 4) + mpI s m (a + i) l else 96 + (if n = 0 then 0 else 4 * q + n))
        rw [← hpl2]
        simp only [Bool.or_eq_true, decide_eq_true_eq, Or.comm]
      rw [ec]
      have hcb : 0 ≤ colI s (n, q) (some m) (a + i) l ∧ colI s (n, q) (some m) (a + i) l < 1024 := by rw [← ec, hmp]; split <;> omega
      refine ws_app rfl ⟨_, rfl⟩ ?_
      walk_at "sx"
      refine wr_ixl .dat (gt_at hs hcb.1 hcb.2) ?_
      walk_at "sx"
      refine ⟨by rw [List.length_map, hl1]; omega, ?_⟩
      refine nx_here ⟨_, _, _, _, _, _, rfl, ?_⟩
      rw [hsn, List.map_append, List.map_append, List.map_cons, List.map_nil, hd]
      rfl
  · rintro g' C' ⟨o1, o2, o3, o4, o5, o6, rfl, rfl⟩
    have e : a + (((runI a b).map fun c => gndI s x c l).length : Int) = b := by rw [List.length_map, run_len]; omega
    rw [e]
    refine ws_frz (j := 7) rfl rfl (fzn_lst _) (by rw [hB]; exact Nat.zero_le _) ?_
    walk_at "sx"
    walk_at "rx"
    show _ = PyData.tuple [nums _, .bool _]
    rw [nums_map]
end
end K04

set_option Elab.async false
set_option linter.all false
set_option maxRecDepth 100000
set_option maxHeartbeats 1000000
namespace K04
open PySem PySem.Spec PyProof.Rows L2 Sy
local macro_rules | `(tactic| walk_at "s1") => `(tactic| first
  | ((with_reducible refine' we_var ?hv ?_); (case hv => rfl))
  | with_reducible refine we_int ?_ | with_reducible refine we_op ?_ | with_reducible refine we_cb ?_ | with_reducible refine wa_cons ?_ | with_reducible refine wa_nil ?_
  | with_reducible refine wr_plus ?_ | with_reducible refine wr_sb ?_ | ((with_reducible refine wr_md ?hc ?_); (case hc => decide)) | ((with_reducible refine wr_dv ?hc ?_); (case hc => exact ⟨by decide, by decide⟩))
  | ((with_reducible refine wr_times ?hc ?_); (case hc => first | exact cmul_r (by decide) (by decide) | exact cmul_l (by decide) (by decide)))
  | ((with_reducible refine wr_pw ?hc ?_); (case hc => exact ⟨by decide, by decide, by decide⟩))
  | with_reducible refine wr_lt ?_ | with_reducible refine wr_le ?_ | with_reducible refine wr_gt ?_ | with_reducible refine wr_ge ?_ | with_reducible refine wr_eqI ?_ | with_reducible refine wr_neI ?_ | with_reducible refine wr_eqS ?_ | with_reducible refine wr_neS ?_
  | with_reducible refine we_str ?_ | with_reducible refine we_bl ?_ | with_reducible refine we_non ?_
  | with_reducible refine wc_int ?_ | with_reducible refine wc_intB ?_ | with_reducible refine wc_abs ?_ | with_reducible refine wc_min2 ?_ | with_reducible refine wc_max2 ?_ | with_reducible refine wc_lenScr ?_
  | ((with_reducible refine' wc_len (.cell ?hl) ?_); (case hl => rfl)) | with_reducible refine wc_len .dat ?_ | with_reducible refine wc_lenT ?_
  | with_reducible refine ws_asgG ?_ | refine wg_tup rfl ?_ | refine wgs_cons ?_ | refine wgs_nil ?_ | with_reducible refine wg_name ?_ | ((with_reducible refine' wgw_name ?hj ?_); (case hj => decide)) | refine wgw_tup rfl ?_ | refine wgsw_cons ?_ | refine wgsw_nil ?_
  | with_reducible refine wt_test ?_ | with_reducible refine wt_B ?_ | with_reducible refine wt_not ?_
  | with_reducible refine ws_seq ?_ | with_reducible refine ws_asg ?_ | with_reducible refine ws_ret ?_ | with_reducible refine ws_if ?_ | with_reducible refine ws_par ?_ | with_reducible refine ws_par3 ?_
  | with_reducible refine we_chLL ?_ | with_reducible refine we_chLE ?_ | with_reducible refine we_ng ?_ | with_reducible refine we_notV ?_
  | with_reducible refine wt_and ?_ | with_reducible refine wt_or ?_ | with_reducible refine we_andV ?_ | with_reducible refine we_orV ?_ | with_reducible refine wr_isN ?_ | with_reducible refine wr_notN ?_
  | with_reducible refine we_tupX ?_ | with_reducible refine we_lstX ?_ | with_reducible refine we_callN ?_
  | (with_reducible apply Exists.intro; with_reducible refine And.intro ?ds (And.intro ?ln ?_); (case ds => repeat (first | exact DS.nil | apply DS.cons)); (case ln => exact len_ok rfl))
  | (with_reducible apply Exists.intro; with_reducible refine And.intro (fun _ => ?_) ?_)
  | (with_reducible apply Exists.intro; with_reducible apply Exists.intro; with_reducible refine And.intro rfl (And.intro (fun _ => ?_) ?_))
  | (apply Exists.intro; apply Exists.intro; apply Exists.intro; with_reducible refine And.intro rfl (And.intro rfl (And.intro ?_ ?_)))
  | with_reducible refine wc_allM ?_ | with_reducible refine wc_anyM ?_ | with_reducible refine wc_sumM ?_ | with_reducible exact lv_map
  | with_reducible refine wa_star ?_ | with_reducible refine we_sl ?_ | with_reducible refine wo_some ?_ | with_reducible refine wo_no ?_ | with_reducible refine wl_q .dat ?_ | ((with_reducible refine' wl_q (.cell ?hl) ?_); (case hl => rfl)) | with_reducible refine ⟨_, .dat, ?_⟩
  | (with_reducible apply Exists.intro; with_reducible apply Exists.intro; with_reducible refine And.intro (fun _ => ?_) (And.intro (fun _ => ?_) ?_))
  | with_reducible exact ⟨rfl, rfl⟩
  | with_reducible refine ⟨_, rfl, ?_⟩ | with_reducible refine ⟨_, _, rfl, ?_⟩ | with_reducible refine ⟨_, _, _, rfl, ?_⟩)
local macro_rules | `(tactic| walk_at "sx") => `(tactic| repeat (walk_at "s1"))
local macro_rules | `(tactic| walk_at "rx") => `(tactic| (show Rx _ _ _ _; refine rx_here ⟨_, rfl, ?_⟩))
local macro_rules | `(tactic| walk_at "mx") => `(tactic| first
  | (with_reducible refine wk_mixG ?hd ?hm (fun _ _ => ?_); (case hd => assumption); (case hm => first | omega | (split <;> omega)))
  | (refine' wr_ixG ?il ?h0 ?h1 (fun _ hm => ?_); (case il => repeat (first | exact IL.nil | apply IL.cons)); (case h0 => first | omega | (split <;> omega)); (case h1 => simp only [List.length_cons, List.length_nil]; first | omega | (split <;> omega)); (simp only [List.mem_cons, List.not_mem_nil, or_false] at hm))
  | walk_at "s1")
local macro_rules | `(tactic| walk_at "sm") => `(tactic| repeat (walk_at "mx"))
local macro_rules | `(tactic| walk_at "sa") => `(tactic| repeat (first | with_reducible refine ws_ifA ?_ | (with_reducible apply Exists.intro; with_reducible apply Exists.intro; refine And.intro rfl (And.intro (fun _ => ?_) ?_)) | walk_at "s1"))
section
variable {K : PySem.W.Frag} {mg : Str → Option Value}
theorem shp_dot {p : Int × Bool} : Shp 1 (dotD p) := shp_tuple (shp_cons shp_int (shp_cons shp_bool shp_nil))
theorem shp_pr {p : Int × Int} : Shp 1 (prD p) := shp_tuple (shp_cons shp_int (shp_cons shp_int shp_nil))
theorem any_empty {α β : Type} (p : α → Bool) (f : α → β) (as : List α) : (!((as.filter p).map f).isEmpty) = as.any p := by
  induction as with
  | nil => rfl
  | cons a as ih =>
    rw [List.filter_cons, List.any_cons]
    cases p a with
    | true => rfl
    | false => exact ih
theorem rows_eq (tl : List Int) (ln : Int) : (((rng 0 8).filter fun z => decide (gt tl (64 + 4 * z) ≤ ln) && decide (ln < gt tl (64 + 4 * z) + 8)).map fun z => PyData.tuple ([.int z] ++ cutL (tl.map PyData.int) (some (64 + 4 * z)) (some (68 + 4 * z)))) = rowsI tl ln := by
  rw [show rng 0 8 = (List.range 8).map (fun (i : Nat) => (i : Int)) from by simp [rng], List.filter_map, List.map_map]
  unfold rowsI
  refine List.map_congr_left fun k _ => ?_
  show PyData.tuple ([.int (k : Int)] ++ cutL (tl.map PyData.int) (some (64 + 4 * (k : Int))) (some (68 + 4 * (k : Int)))) = _
  rw [show (68 : Int) + 4 * (k : Int) = 64 + 4 * (k : Int) + 4 by omega]
  rfl
theorem mem_cut {α : Type} {xs : List α} {lo hi : Option Int} {x : α} (h : x ∈ cutL xs lo hi) : x ∈ xs := List.mem_of_mem_drop (List.mem_of_mem_take h)
theorem shp_rows {s : List Int} {l : Int} : ∀ y ∈ rowsI s l, Shp 1 y := fun y hy => by
  unfold rowsI at hy
  obtain ⟨k, _, e⟩ := List.mem_map.mp hy
  rw [← e]
  refine shp_tuple (shp_cons shp_int fun z hz => ?_)
  obtain ⟨w, _, e2⟩ := List.mem_map.mp (mem_cut hz)
  rw [← e2]; exact shp_int
theorem shp_mvs {s : List Int} {x : St4} {l : Int} : Shp 3 (mvsD s x l) := by
  unfold mvsD
  split
  · exact shp_tuple (shp_cons (shp_list (n := 1) shp_nil) (shp_cons shp_bool shp_nil))
  · exact shp_tuple (shp_cons (shp_list (n := 1) fun y hy => shp_rows y (mem_cut hy)) (shp_cons shp_bool shp_nil))
theorem run_rng (a b : Int) : runI a b = rng a b := rfl
theorem cut_run {α : Type} {f : Int → α} {a b n : Int} (ha : 0 ≤ a) (hab : a ≤ b) (hb : b ≤ n) : cutL ((rng 0 n).map f) (some a) (some b) = (rng a b).map f := by
  have e : rng 0 n = rng 0 a ++ (rng a b ++ rng b n) := by rw [← run_rng, ← run_rng, ← run_rng, ← run_rng, run_app ha (by omega : a ≤ n), run_app hab hb]
  have hl : ((rng 0 n).map f).length = n.toNat := by rw [List.length_map, rng_len]; omega
  have h1 : HT.sIx n.toNat 0 (some a) = a.toNat := by
    show (if a < 0 then (a + ((n.toNat : Nat) : Int)).toNat else min a.toNat n.toNat) = a.toNat
    rw [if_neg (by omega)]
    omega
  have h2 : HT.sIx n.toNat n.toNat (some b) = b.toNat := by
    show (if b < 0 then (b + ((n.toNat : Nat) : Int)).toNat else min b.toNat n.toNat) = b.toNat
    rw [if_neg (by omega)]
    omega
  unfold cutL
  rw [hl, h1, h2, e, List.map_append, List.map_append]
  rw [List.drop_left' (by rw [List.length_map, rng_len]; omega), List.take_left' (by rw [List.length_map, rng_len]; omega)]

theorem pure_law (vs : List V) (H : Hp) (Q : VK) (E : XK) (h : c_law.sp K vs H Q E) : t_law K E { nx := fun _ H' => Q .non H', rt := Q } (L2.start N_law vs) H := by
  refine Cp.body (N := N_law) h fun B (i : List Int) e hp hX hB => ?_
  subst e
  have hns : i.length ≤ 63 := hp
  unfold t_law
  show Ws B _ [some (.scr i), none, none, none, none, none, none, none, none, none, none, none, none, none, none, none, none, none, none, none, none, none, none] [] [] _
  have LG := line_ge
  walk_at "sx"
  refine wk_draws hns fun ds hd => ?_
  walk_at "sx"
  refine wk_mixG hd (by omega) fun kd hkd => ?_
  walk_at "sx"
  apply we_lc1 (rng 0 1024) (fun x => .dat (.int x))
  · rw [rng_len]; omega
  refine wsrc_rng1 ?_
  walk_at "sx"
  refine ⟨rfl, by decide, fun z hz S' acc => ?_, ?_⟩
  · have hz := mem_rng hz
    have hm2 := mix_lt (ds := ds) (k := 100 + z % 200) (many := 256) (by decide)
    have hm3 := mix_lt (ds := ds) (k := 100 + z % 200) (many := 3) (by decide)
    walk_at "sx"
    refine wk_mix hd (by omega) ?_
    walk_at "sx"
    refine wr_times (cmul_l (by omega) (by omega)) ?_
    walk_at "sx"
    refine wr_times (cmul_l (by omega) (by omega)) ?_
    walk_at "sx"
    refine wk_mix hd (by omega) ?_
    refine wr_ixI (ns := [255, 0, 170]) (.cons (.cons (.cons .nil))) (by omega) (by simp only [List.length_cons, List.length_nil]; omega) ?_
    walk_at "sx"
    refine wk_mix hd (by omega) ?_
    walk_at "sx"
    refine wr_ixI (.cons (.cons (.cons .nil))) (by omega) (by simp only [List.length_cons, List.length_nil]; omega) ?_
    walk_at "sx"
  have eF : ((rng 0 1024).map fun z => PyData.int ([mix ds (100 + z % 200) 256 * (z + 1) + z * z / 7, [255, 0, 170].getD (mix ds (100 + z % 200) 3).toNat 0, mix ds (100 + z % 200) 256].getD kd.toNat 0)) = ((rng 0 1024).map fun z => ([mix ds (100 + z % 200) 256 * (z + 1) + z * z / 7, [255, 0, 170].getD (mix ds (100 + z % 200) 3).toNat 0, mix ds (100 + z % 200) 256].getD kd.toNat 0)).map .int := by
    rw [List.map_map]; rfl
  rw [eF]
  have hlen : ((rng 0 1024).map fun z => ([mix ds (100 + z % 200) 256 * (z + 1) + z * z / 7, [255, 0, 170].getD (mix ds (100 + z % 200) 3).toNat 0, mix ds (100 + z % 200) 256].getD kd.toNat 0)).length = 1024 := by rw [List.length_map, rng_len]; rfl
  generalize ((rng 0 1024).map fun z => ([mix ds (100 + z % 200) 256 * (z + 1) + z * z / 7, [255, 0, 170].getD (mix ds (100 + z % 200) 3).toNat 0, mix ds (100 + z % 200) 256].getD kd.toNat 0)) = s0 at hlen
  clear eF
  walk_at "sx"
  refine we_lc1 s0 (fun x => .dat (.int x)) (fun x => .int (x % 256)) (by omega) (wsrc_list ?_)
  walk_at "sx"
  refine ⟨lv_map, fun z hz S' acc => ?_, ?_⟩
  · walk_at "sx"
  have hs : Sh (s0.map (· % 256)) := ⟨by rw [List.length_map, hlen], fun b hb => by
    obtain ⟨z, _, e⟩ := List.mem_map.mp hb
    rw [← e]
    exact ⟨Int.emod_nonneg _ (by decide), Int.emod_lt_of_pos _ (by decide)⟩⟩
  rw [← nums_map (fun x => x % 256) s0]
  generalize s0.map (fun x => x % 256) = s at hs
  clear hlen
  walk_at "sx"
  refine wc_list .dat ?_
  walk_at "sx"
  refine ws_for1 ?_
  walk_at "sx"
  refine ⟨by decide, fun (t : Nat) (g : Gs) (C : Cs) => (∃ o2 o4 : Option SV, g = [some (.scr i), some (.dat (nums ds)), o2, some (.dat (nums s)), o4, some (.dat (nums s)), none, none, none, none, none, none, none, none, none, none, none, none, none, none, none, none, none]) ∧ C = [], ⟨⟨_, _, rfl⟩, rfl⟩, ?_, ?_⟩
  · rintro t g' C' ht ⟨⟨o2, o4, rfl⟩, rfl⟩
    walk_at "sm"
    rename_i sr _ sd _ st0 _ _ _ _ _ so hso ln hln col hcol
    refine wk_movers hd (by omega) fun ms hms => ?_
    walk_at "sx"
    apply we_lc1 (rng 0 32) (fun x => .dat (.int x))
    · rw [rng_len]; omega
    refine wsrc_rng1 ?_
    walk_at "sx"
    refine ⟨rfl, by decide, fun z hz S' acc => ?_, ?_⟩
    · walk_at "sx"
      refine wk_ldot (x := ⟨sr, sd, st0, so⟩) hs hms ?_
      walk_at "sx"
    walk_at "sx"
    apply we_lc1 (rng 0 32) (fun x => .dat (.int x))
    · rw [rng_len]; omega
    refine wsrc_rng1 ?_
    walk_at "sx"
    refine ⟨rfl, by decide, fun z hz S' acc => ?_, ?_⟩
    · walk_at "sx"
      refine wc_list .dat ?_
      walk_at "sx"
      refine wk_dot (x := ⟨sr, sd, st0, so⟩) hs hms ?_
      walk_at "sx"
    walk_at "sx"
    refine wr_neSame 2 (shp_list (shp_map fun _ => shp_dot)) rfl (by decide) ?_
    walk_at "sx"
    refine ⟨fun z => (nomatch z), fun _ => ws_next ?_⟩
    walk_at "sm"
    rename_i fs hfs dl hdl
    refine wc_list .dat ?_
    walk_at "sx"
    refine wk_dots (x := ⟨sr, sd, st0, so⟩) hs ⟨hms, by omega, by omega, by omega⟩ ?_
    walk_at "sx"
    apply we_lc1 (rng fs (fs + dl)) (fun z => .dat (dotD (dotI s ⟨sr, sd, st0, so⟩ ms ln z)))
    · rw [rng_len]; omega
    refine wsrc_list ?_
    walk_at "sx"
    rw [cut_run (by omega) (by omega) (by omega)]
    refine ⟨lv_map, fun z hz S' acc => ?_, ?_⟩
    · walk_at "sx"
      refine wr_ixt (d := .int (dotI s ⟨sr, sd, st0, so⟩ ms ln z).1) rfl ?_
      walk_at "sx"
    walk_at "sx"
    apply we_lc1F (rng fs (fs + dl)) (fun z => .dat (dotD (dotI s ⟨sr, sd, st0, so⟩ ms ln z))) (fun z => (dotI s ⟨sr, sd, st0, so⟩ ms ln z).2)
    · rw [rng_len]; omega
    refine wsrc_list ?_
    walk_at "sx"
    rw [cut_run (by omega) (by omega) (by omega)]
    refine ⟨lv_map, fun z hz S' acc => ?_, fun z hz _ S' acc => ?_, ?_⟩
    · walk_at "sx"
      refine wr_ixt (d := .bool (dotI s ⟨sr, sd, st0, so⟩ ms ln z).2) rfl ?_
      walk_at "sx"
    · walk_at "sx"
    refine we_lst (wa_nil ⟨[], rfl, len_ok rfl, ?_⟩)
    refine wr_neD (shaped_of (n := 2) (shp_list (shp_map fun _ => shp_dot)) (by decide)) (shaped_of (n := 2) (shp_list shp_nil) (by decide)) ?_
    rw [eqv_nil, any_empty]
    walk_at "sx"
    refine wr_neSame 3 (shp_tuple (shp_cons (shp_list (n := 1) (shp_map fun _ => shp_int)) (shp_cons shp_bool shp_nil))) ?_ (by decide) ?_
    · rw [nums_map]; rfl
    walk_at "sx"
    refine ⟨fun z => (nomatch z), fun _ => ws_next ?_⟩
    walk_at "sx"
    apply we_lc1 (rng 0 32) (fun x => .dat (.int x))
    · rw [rng_len]; omega
    refine wsrc_rng1 ?_
    walk_at "sx"
    refine ⟨rfl, by decide, fun z hz S' acc => ?_, ?_⟩
    · walk_at "sx"
      refine wk_gnd (x := ⟨sr, sd, st0, so⟩) hs ?_
      walk_at "sx"
    apply we_lc1 (rng 0 32) (fun x => .dat (.int x))
    · rw [rng_len]; omega
    refine wsrc_rng1 ?_
    walk_at "sx"
    refine ⟨rfl, by decide, fun z hz S' acc => ?_, ?_⟩
    · walk_at "sx"
      refine wk_lgnd (x := ⟨sr, sd, st0, so⟩) hs ?_
      walk_at "sx"
    refine wr_neSame 2 (shp_list (shp_map fun _ => shp_pr)) rfl (by decide) ?_
    walk_at "sx"
    refine ⟨fun z => (nomatch z), fun _ => ws_next ?_⟩
    walk_at "sm"
    rename_i tl htl rw' hrw
    apply we_lc1 (rng 0 8) (fun x => .dat (.int x))
    · rw [rng_len]; omega
    refine wsrc_rng1 ?_
    walk_at "sx"
    refine ⟨rfl, by decide, fun z hz S' acc => ?_, ?_⟩
    · have hz := mem_rng hz
      walk_at "sx"
      refine wk_pix hs (by omega) ?_
      walk_at "sx"
    apply we_lc1 (rng 0 8) (fun x => .dat (.int x))
    · rw [rng_len]; omega
    refine wsrc_rng1 ?_
    walk_at "sx"
    refine ⟨rfl, by decide, fun z hz S' acc => ?_, ?_⟩
    · have hz := mem_rng hz
      walk_at "sx"
      refine wk_lpix hs (by omega) ?_
      walk_at "sx"
    refine wr_neSame 1 (shp_list (shp_map fun _ => shp_int)) rfl (by decide) ?_
    walk_at "sx"
    refine ⟨fun z => (nomatch z), fun _ => ws_next ?_⟩
    walk_at "sx"
    refine wc_listC .dat ?_
    walk_at "sx"
    refine ws_for1 ?_
    walk_at "sx"
    refine ⟨by decide, fun (u : Nat) (g : Gs) (C : Cs) => ∃ (tl' : List Int) (o2 o4 o6 o10 o11 o12 o13 o14 o15 o16 o17 o18 o20 : Option SV), Sh tl' ∧ g = [some (.scr i), some (.dat (nums ds)), o2, some (.dat (nums s)), o4, some (.dat (nums s)), o6, some (.dat (.int (400 + 70 * t))), some (.dat (.tuple [.int sr, .int sd, .int st0, .int so])), some (.dat (.int ln)), o10, o11, o12, o13, o14, o15, o16, o17, o18, some (.ref 0), o20, none, none] ∧ C = [some (.lst ((tl'.map PyData.int).map .dat))], ⟨s, _, _, _, _, _, _, _, _, _, _, _, _, _, hs, rfl, rfl⟩, ?_, ?_⟩
    · rintro u g' C' hu ⟨tl', p2, p4, p6, p10, p11, p12, p13, p14, p15, p16, p17, p18, p20, htl', rfl, rfl⟩
      walk_at "sm"
      rename_i mx hmx m7 hm7 v hv
      refine wg_slc ?_
      walk_at "sx"
      have hvb : 0 ≤ v ∧ v < 256 := by
        rcases hv with e | e | e | e | e | e | e
        · omega
        · rw [e]; split <;> omega
        · rw [e]; split <;> omega
        · omega
        · omega
        · omega
        · omega
      refine ⟨_, _, _, _, _, rfl, rfl, rfl, rfl, rfl, by omega, by omega, by rw [List.length_map, List.length_map, htl'.len]; omega, by rw [List.length_map, List.length_map, htl'.len]; simp only [List.length_cons, List.length_nil]; omega, ?_⟩
      refine nx_here ⟨tl'.take (64 + 4 * (u : Int)).toNat ++ [v, u, 5 * u, 9 * u] ++ tl'.drop (68 + 4 * (u : Int)).toNat, _, _, _, _, _, _, _, _, _, _, _, _, _, ⟨?_, fun b hb => ?_⟩, rfl, ?_⟩
      · rw [List.length_append, List.length_append, List.length_take, List.length_drop, htl'.len]
        simp only [List.length_cons, List.length_nil]
        omega
      · rcases List.mem_append.mp hb with h1 | h1
        · rcases List.mem_append.mp h1 with h1 | h1
          · exact htl'.byte b (List.mem_of_mem_take h1)
          · simp only [List.mem_cons, List.not_mem_nil, or_false] at h1
            omega
        · exact htl'.byte b (List.mem_of_mem_drop h1)
      · rw [List.map_append, List.map_append, List.map_append, List.map_append, List.map_take, List.map_take, List.map_drop, List.map_drop]
        rfl
    · rintro g' C' ⟨tl', p2, p4, p6, p10, p11, p12, p13, p14, p15, p16, p17, p18, p20, htl', rfl, rfl⟩
      refine ws_frz (j := 19) rfl rfl (fzn_lst _) (by rw [hB]; exact Nat.zero_le _) ?_
      walk_at "sx"
      apply we_lc1F (rng 0 8) (fun x => .dat (.int x)) (fun z => decide (gt tl' (64 + 4 * z) ≤ ln) && decide (ln < gt tl' (64 + 4 * z) + 8))
      · rw [rng_len]; omega
      refine wsrc_rng1 ?_
      walk_at "sx"
      refine ⟨rfl, by decide, fun z hz S' acc => ?_, fun z hz _ S' acc => ?_, ?_⟩
      · have hz := mem_rng hz
        walk_at "sx"
        refine wr_ixl .dat (gt_at htl' (by omega) (by omega)) ?_
        walk_at "sx"
        · refine wr_ixl .dat (gt_at htl' (by omega) (by omega)) ?_
          walk_at "sx"
        walk_at "sx"
      · have hz := mem_rng hz
        walk_at "sx"
        refine wc_tuple .dat ?_
        have hcl := cutL_len (tl'.map PyData.int) (some (64 + 4 * z)) (some (68 + 4 * z))
        rw [List.length_map, htl'.len] at hcl
        refine wr_plusT (by simp) (by rw [List.length_singleton]; omega) ?_
        walk_at "sx"
      rw [rows_eq]
      walk_at "sx"
      refine we_lst (wa_nil ⟨[], rfl, len_ok rfl, ?_⟩)
      walk_at "sx"
      refine wr_ixt (d := .int so) rfl ?_
      walk_at "sx"
      refine wk_lbit (by decide) ?_
      have hb1 := bit01 so 1
      refine wr_ixD (by omega) (by simp only [List.length_cons, List.length_nil]; omega) ?_
      walk_at "sx"
      refine wc_list .dat ?_
      walk_at "sx"
      refine wk_mvat (x := ⟨sr, sd, st0, so⟩) htl' ?_
      walk_at "sx"
      refine wr_neSame 3 shp_mvs ?_ (by decide) ?_
      · rcases (by omega : bitI so 1 = 0 ∨ bitI so 1 = 1) with e | e
        · rw [mvsD, if_pos (Or.inl e), e]; rfl
        · rw [mvsD, if_neg (show ¬ (bitI so 1 = 0 ∨ 24 ≤ ln) by omega), e]
          show PyData.tuple [.list (cutL (rowsI tl' ln) none (some 4)), .bool (decide ((4 : Int) < (((rowsI tl' ln).map SV.dat).length : Int)))] = _
          rw [List.length_map]
          congr 4
          exact decide_eq_decide.mpr (by omega)
      walk_at "sx"
      · refine wc_list .dat ?_
        walk_at "sm"
        rename_i m8 hm8
        refine wk_mvat (x := ⟨sr, sd, st0, so⟩) htl' ?_
        walk_at "sx"
        refine we_lst (wa_nil ⟨[], rfl, len_ok rfl, ?_⟩)
        walk_at "sx"
        refine wr_neSame 3 shp_mvs ?_ (by decide) ?_
        · rw [mvsD, if_pos (Or.inr (by omega))]
        walk_at "sx"
      refine ⟨fun z => (nomatch z), fun _ => ws_next ?_⟩
      refine nx_gc [some (.scr i), some (.dat (nums ds)), none, some (.dat (nums s)), none, some (.dat (nums s)), none, none, none, none, none, none, none, none, none, none, none, none, none, none, none, none, none] ?_ rfl hB ⟨⟨_, _, rfl⟩, rfl⟩
      repeat (first | exact Sub.nil | apply Sub.drop | apply Sub.keep rfl)
  · rintro g' C' ⟨⟨o2, o4, rfl⟩, rfl⟩
    walk_at "sx"
    refine wr_eqSame 1 (shp_list (shp_map fun _ => shp_int)) rfl (by decide) ?_
    walk_at "rx"
    rfl
end
end K04

set_option Elab.async false
set_option linter.all false
set_option maxRecDepth 100000
set_option maxHeartbeats 0
namespace K04
open PySem PySem.Spec PyProof.Rows L2 Sy
def d_check_sheet : He.DefD := ⟨("check_sheet", none), "check_sheet", "check_sheet", defArgs s_check_sheet, defBody s_check_sheet, defScope s_check_sheet, [], []⟩
def d_bit : He.DefD := ⟨("bit", none), "bit", "bit", defArgs s_bit, defBody s_bit, defScope s_bit, [], []⟩
def d_pixel_in : He.DefD := ⟨("pixel_in", none), "pixel_in", "pixel_in", defArgs s_pixel_in, defBody s_pixel_in, defScope s_pixel_in, [], []⟩
def d_pixel : He.DefD := ⟨("pixel", none), "pixel", "pixel", defArgs s_pixel, defBody s_pixel, defScope s_pixel, [], []⟩
def d_ground_in : He.DefD := ⟨("ground_in", none), "ground_in", "ground_in", defArgs s_ground_in, defBody s_ground_in, defScope s_ground_in, [], []⟩
def d_ground_at : He.DefD := ⟨("ground_at", none), "ground_at", "ground_at", defArgs s_ground_at, defBody s_ground_at, defScope s_ground_at, [], []⟩
def d_movers_in : He.DefD := ⟨("movers_in", none), "movers_in", "movers_in", defArgs s_movers_in, defBody s_movers_in, defScope s_movers_in, [], []⟩
def d_movers_at : He.DefD := ⟨("movers_at", none), "movers_at", "movers_at", defArgs s_movers_at, defBody s_movers_at, defScope s_movers_at, [], []⟩
def d_mover_pixel : He.DefD := ⟨("mover_pixel", none), "mover_pixel", "mover_pixel", defArgs s_mover_pixel, defBody s_mover_pixel, defScope s_mover_pixel, [], []⟩
def d_showing : He.DefD := ⟨("showing", none), "showing", "showing", defArgs s_showing, defBody s_showing, defScope s_showing, [], []⟩
def d_dot_in : He.DefD := ⟨("dot_in", none), "dot_in", "dot_in", defArgs s_dot_in, defBody s_dot_in, defScope s_dot_in, [], []⟩
def d_dot_at : He.DefD := ⟨("dot_at", none), "dot_at", "dot_at", defArgs s_dot_at, defBody s_dot_at, defScope s_dot_at, [], []⟩
def d_tile_dots : He.DefD := ⟨("tile_dots", none), "tile_dots", "tile_dots", defArgs s_tile_dots, defBody s_tile_dots, defScope s_tile_dots, [], []⟩
def d_ground_dots : He.DefD := ⟨("ground_dots", none), "ground_dots", "ground_dots", defArgs s_ground_dots, defBody s_ground_dots, defScope s_ground_dots, [], []⟩
def d_mover_dots : He.DefD := ⟨("mover_dots", none), "mover_dots", "mover_dots", defArgs s_mover_dots, defBody s_mover_dots, defScope s_mover_dots, [], []⟩
def d_dots_of : He.DefD := ⟨("dots_of", none), "dots_of", "dots_of", defArgs s_dots_of, defBody s_dots_of, defScope s_dots_of, [], []⟩
def d_l_law_draws : He.DefD := ⟨("_law_draws", none), "_law_draws", "_law_draws", defArgs s_l_law_draws, defBody s_l_law_draws, defScope s_l_law_draws, [], []⟩
def d_l_law_mix : He.DefD := ⟨("_law_mix", none), "_law_mix", "_law_mix", defArgs s_l_law_mix, defBody s_l_law_mix, defScope s_l_law_mix, [], []⟩
def d_l_law_bit : He.DefD := ⟨("_law_bit", none), "_law_bit", "_law_bit", defArgs s_l_law_bit, defBody s_l_law_bit, defScope s_l_law_bit, [], []⟩
def d_l_law_pixel : He.DefD := ⟨("_law_pixel", none), "_law_pixel", "_law_pixel", defArgs s_l_law_pixel, defBody s_l_law_pixel, defScope s_l_law_pixel, [], []⟩
def d_l_law_ground : He.DefD := ⟨("_law_ground", none), "_law_ground", "_law_ground", defArgs s_l_law_ground, defBody s_l_law_ground, defScope s_l_law_ground, [], []⟩
def d_l_law_dot : He.DefD := ⟨("_law_dot", none), "_law_dot", "_law_dot", defArgs s_l_law_dot, defBody s_l_law_dot, defScope s_l_law_dot, [], []⟩
def d_l_law_movers : He.DefD := ⟨("_law_movers", none), "_law_movers", "_law_movers", defArgs s_l_law_movers, defBody s_l_law_movers, defScope s_l_law_movers, [], []⟩
def d_law : He.DefD := ⟨("law", none), "law", "law", defArgs s_law, defBody s_law, defScope s_law, [], []⟩
def fn : List He.DefD := [d_check_sheet, d_bit, d_pixel_in, d_pixel, d_ground_in, d_ground_at, d_movers_in, d_movers_at, d_mover_pixel, d_showing, d_dot_in, d_dot_at, d_tile_dots, d_ground_dots, d_mover_dots, d_dots_of, d_l_law_draws, d_l_law_mix, d_l_law_bit, d_l_law_pixel, d_l_law_ground, d_l_law_dot, d_l_law_movers, d_law]
def fa : List He.Fa := [.glo "check_sheet", .glo "bit", .glo "pixel_in", .glo "pixel", .glo "ground_in", .glo "ground_at", .glo "movers_in", .glo "movers_at", .glo "mover_pixel", .glo "showing", .glo "dot_in", .glo "dot_at", .glo "tile_dots", .glo "ground_dots", .glo "mover_dots", .glo "dots_of", .glo "_law_draws", .glo "_law_mix", .glo "_law_bit", .glo "_law_pixel", .glo "_law_ground", .glo "_law_dot", .glo "_law_movers", .glo "law", .free "abs", .free "all", .free "enumerate", .free "int", .free "len", .free "list", .free "max", .free "min", .free "range", .free "super", .free "tuple", .free "ValueError", .int "SHEET" 1024, .int "MOVERS" 64, .int "COLOURS" 96, .int "MOVER_COLOURS" 112, .int "TILES" 128, .glo "POWERS", .int "MOST_SHOWN" 4, .int "LINES" 24, .int "TILE" 8, .int "MAP" 64, .glo "BoxError", .glo "BadSheet"]
def ex (K : PySem.W.Frag) : Bool := (He.tupB K "POWERS" [(.int 1), (.int 2), (.int 4), (.int 8), (.int 16), (.int 32), (.int 64), (.int 128)] && true)
abbrev Rr : PySem.W.OpenRow := PySem.W.OpenLaw.row PySem.Challenge.rw_caughtup_k04_whole_dots_of_any_movers
abbrev hk : PySem.W.Hook := He.hookX 5 fa fn [] [] ex
def ob (s : PySem.W.SharedT) : He.AlX := He.obsX 5 fa fn [] [] ex (HandSHeadRun.getT s)
theorem ob_eq (s : PySem.W.SharedT) : ob s = hk.obs s.abs := He.obsX_eq (HandSHeadRun.getT_eq s)
def loose0 : List PySem.Str := ["BoxError", "BadSheet", "SHEET", "MOVERS", "COLOURS", "MOVER_COLOURS", "TILES", "POWERS", "MOST_SHOWN", "LINES", "check_sheet", "bit", "pixel_in", "pixel", "ground_in", "ground_at", "movers_in", "movers_at", "mover_pixel", "showing", "dot_in", "dot_at", "TILE", "MAP", "tile_dots", "ground_dots", "mover_dots", "dots_of", "_law_draws", "_law_mix"]
def loose1 : List PySem.Str := ["_law_bit", "_law_pixel", "_law_ground", "_law_dot", "_law_movers"]
def loose : List PySem.Str := loose0 ++ loose1
theorem run_eq (w : World) : HandSHeadRun.RunEq Rr (PySem.W.view Rr.prog [39]) hk ob 3000 loose w := by
  intro os
  kernel_rfl
section
variable {P : Program} {w : World} {K : PySem.W.Frag} {h : Heap} {mg : Str → Option Value} {base : Heap}
theorem tx_of (X : K.In h) (G : h.Ns mainGlobals mg) (c : He.SaysD fa fn K) (m : ex K = true) : Tx K mg where
  g_check_sheet := He.glo_ok X G (c.fact 0 (f := .glo "check_sheet") rfl)
  g_bit := He.glo_ok X G (c.fact 1 (f := .glo "bit") rfl)
  g_pixel_in := He.glo_ok X G (c.fact 2 (f := .glo "pixel_in") rfl)
  g_pixel := He.glo_ok X G (c.fact 3 (f := .glo "pixel") rfl)
  g_ground_in := He.glo_ok X G (c.fact 4 (f := .glo "ground_in") rfl)
  g_ground_at := He.glo_ok X G (c.fact 5 (f := .glo "ground_at") rfl)
  g_movers_in := He.glo_ok X G (c.fact 6 (f := .glo "movers_in") rfl)
  g_movers_at := He.glo_ok X G (c.fact 7 (f := .glo "movers_at") rfl)
  g_mover_pixel := He.glo_ok X G (c.fact 8 (f := .glo "mover_pixel") rfl)
  g_showing := He.glo_ok X G (c.fact 9 (f := .glo "showing") rfl)
  g_dot_in := He.glo_ok X G (c.fact 10 (f := .glo "dot_in") rfl)
  g_dot_at := He.glo_ok X G (c.fact 11 (f := .glo "dot_at") rfl)
  g_tile_dots := He.glo_ok X G (c.fact 12 (f := .glo "tile_dots") rfl)
  g_ground_dots := He.glo_ok X G (c.fact 13 (f := .glo "ground_dots") rfl)
  g_mover_dots := He.glo_ok X G (c.fact 14 (f := .glo "mover_dots") rfl)
  g_dots_of := He.glo_ok X G (c.fact 15 (f := .glo "dots_of") rfl)
  g__law_draws := He.glo_ok X G (c.fact 16 (f := .glo "_law_draws") rfl)
  g__law_mix := He.glo_ok X G (c.fact 17 (f := .glo "_law_mix") rfl)
  g__law_bit := He.glo_ok X G (c.fact 18 (f := .glo "_law_bit") rfl)
  g__law_pixel := He.glo_ok X G (c.fact 19 (f := .glo "_law_pixel") rfl)
  g__law_ground := He.glo_ok X G (c.fact 20 (f := .glo "_law_ground") rfl)
  g__law_dot := He.glo_ok X G (c.fact 21 (f := .glo "_law_dot") rfl)
  g__law_movers := He.glo_ok X G (c.fact 22 (f := .glo "_law_movers") rfl)
  g_law := He.glo_ok X G (c.fact 23 (f := .glo "law") rfl)
  f_abs := He.free_ok X G (c.fact 24 (f := .free "abs") rfl)
  f_all := He.free_ok X G (c.fact 25 (f := .free "all") rfl)
  f_enumerate := He.free_ok X G (c.fact 26 (f := .free "enumerate") rfl)
  f_int := He.free_ok X G (c.fact 27 (f := .free "int") rfl)
  f_len := He.free_ok X G (c.fact 28 (f := .free "len") rfl)
  f_list := He.free_ok X G (c.fact 29 (f := .free "list") rfl)
  f_max := He.free_ok X G (c.fact 30 (f := .free "max") rfl)
  f_min := He.free_ok X G (c.fact 31 (f := .free "min") rfl)
  f_range := He.free_ok X G (c.fact 32 (f := .free "range") rfl)
  f_super := He.free_ok X G (c.fact 33 (f := .free "super") rfl)
  f_tuple := He.free_ok X G (c.fact 34 (f := .free "tuple") rfl)
  f_ValueError := He.free_ok X G (c.fact 35 (f := .free "ValueError") rfl)
  i_SHEET := He.int_ok X G (c.fact 36 (f := .int "SHEET" 1024) rfl)
  i_MOVERS := He.int_ok X G (c.fact 37 (f := .int "MOVERS" 64) rfl)
  i_COLOURS := He.int_ok X G (c.fact 38 (f := .int "COLOURS" 96) rfl)
  i_MOVER_COLOURS := He.int_ok X G (c.fact 39 (f := .int "MOVER_COLOURS" 112) rfl)
  i_TILES := He.int_ok X G (c.fact 40 (f := .int "TILES" 128) rfl)
  g_POWERS := He.glo_ok X G (c.fact 41 (f := .glo "POWERS") rfl)
  i_MOST_SHOWN := He.int_ok X G (c.fact 42 (f := .int "MOST_SHOWN" 4) rfl)
  i_LINES := He.int_ok X G (c.fact 43 (f := .int "LINES" 24) rfl)
  i_TILE := He.int_ok X G (c.fact 44 (f := .int "TILE" 8) rfl)
  i_MAP := He.int_ok X G (c.fact 45 (f := .int "MAP" 64) rfl)
  g_BoxError := He.glo_ok X G (c.fact 46 (f := .glo "BoxError") rfl)
  g_BadSheet := He.glo_ok X G (c.fact 47 (f := .glo "BadSheet") rfl)
  t_POWERS := fun H => He.tupB_ok (Bool.and_eq_true_iff.mp m).1 H
theorem law_ok (T : Tx K mg) (c : He.SaysD fa fn K) {fd : FuncData} (F : FunD K "law" "law" (defArgs s_law) (defBody s_law) (defScope s_law) [] [] (He.fAd K ("law", none)) fd) : FnOk P w K mg base (L2.CX P w) 7 (He.fAd K ("law", none)) fd ["script"] (c_law.sp K) := by
  have h_bit := ok_bit (P := P) (w := w) (base := base) T (c.def_ 1 (d := d_bit) rfl) (fun vs H Q E h => pure_bit T vs H Q E h)
  have h_l_law_draws := ok_l_law_draws (P := P) (w := w) (base := base) T (c.def_ 16 (d := d_l_law_draws) rfl) (fun vs H Q E h => Sy.pure_draws vs H Q E h)
  have h_l_law_mix := ok_l_law_mix (P := P) (w := w) (base := base) T (c.def_ 17 (d := d_l_law_mix) rfl) (fun vs H Q E h => Sy.pure_mix vs H Q E h)
  have h_l_law_bit := ok_l_law_bit (P := P) (w := w) (base := base) T (c.def_ 18 (d := d_l_law_bit) rfl) (fun vs H Q E h => pure_l_law_bit vs H Q E h)
  have h_pixel_in := ok_pixel_in (P := P) (w := w) (base := base) T (c.def_ 2 (d := d_pixel_in) rfl) h_bit (fun vs H Q E h => pure_pixel_in vs H Q E h)
  have h_movers_in := ok_movers_in (P := P) (w := w) (base := base) T (c.def_ 6 (d := d_movers_in) rfl) h_bit (fun vs H Q E h => pure_movers_in vs H Q E h)
  have h_tile_dots := ok_tile_dots (P := P) (w := w) (base := base) T (c.def_ 12 (d := d_tile_dots) rfl) h_bit (fun vs H Q E h => pure_tile_dots vs H Q E h)
  have h_l_law_pixel := ok_l_law_pixel (P := P) (w := w) (base := base) T (c.def_ 19 (d := d_l_law_pixel) rfl) h_l_law_bit (fun vs H Q E h => pure_l_law_pixel vs H Q E h)
  have h_l_law_movers := ok_l_law_movers (P := P) (w := w) (base := base) T (c.def_ 22 (d := d_l_law_movers) rfl) h_l_law_mix (fun vs H Q E h => pure_l_law_movers vs H Q E h)
  have h_ground_in := ok_ground_in (P := P) (w := w) (base := base) T (c.def_ 4 (d := d_ground_in) rfl) h_bit h_pixel_in (fun vs H Q E h => pure_ground_in vs H Q E h)
  have h_mover_pixel := ok_mover_pixel (P := P) (w := w) (base := base) T (c.def_ 8 (d := d_mover_pixel) rfl) h_bit h_pixel_in (fun vs H Q E h => pure_mover_pixel vs H Q E h)
  have h_ground_dots := ok_ground_dots (P := P) (w := w) (base := base) T (c.def_ 13 (d := d_ground_dots) rfl) h_bit h_tile_dots (fun vs H Q E h => pure_ground_dots vs H Q E h)
  have h_l_law_ground := ok_l_law_ground (P := P) (w := w) (base := base) T (c.def_ 20 (d := d_l_law_ground) rfl) h_l_law_bit h_l_law_pixel (fun vs H Q E h => pure_l_law_ground vs H Q E h)
  have h_showing := ok_showing (P := P) (w := w) (base := base) T (c.def_ 9 (d := d_showing) rfl) h_mover_pixel (fun vs H Q E h => pure_showing vs H Q E h)
  have h_mover_dots := ok_mover_dots (P := P) (w := w) (base := base) T (c.def_ 14 (d := d_mover_dots) rfl) h_mover_pixel (fun vs H Q E h => pure_mover_dots vs H Q E h)
  have h_l_law_dot := ok_l_law_dot (P := P) (w := w) (base := base) T (c.def_ 21 (d := d_l_law_dot) rfl) h_l_law_ground h_l_law_bit h_l_law_pixel (fun vs H Q E h => pure_l_law_dot vs H Q E h)
  have h_check_sheet := ok_check_sheet (P := P) (w := w) (base := base) T (c.def_ 0 (d := d_check_sheet) rfl) (fun vs H Q E h => pure_check_sheet vs H Q E h)
  have h_dot_in := ok_dot_in (P := P) (w := w) (base := base) T (c.def_ 10 (d := d_dot_in) rfl) h_ground_in h_showing h_bit (fun vs H Q E h => pure_dot_in vs H Q E h)
  have h_dots_of := ok_dots_of (P := P) (w := w) (base := base) T (c.def_ 15 (d := d_dots_of) rfl) h_mover_dots h_ground_dots h_bit (fun vs H Q E h => pure_dots_of vs H Q E h)
  have h_pixel := ok_pixel (P := P) (w := w) (base := base) T (c.def_ 3 (d := d_pixel) rfl) h_check_sheet h_pixel_in (fun vs H Q E h => pure_pixel vs H Q E h)
  have h_ground_at := ok_ground_at (P := P) (w := w) (base := base) T (c.def_ 5 (d := d_ground_at) rfl) h_check_sheet h_ground_in (fun vs H Q E h => pure_ground_at vs H Q E h)
  have h_movers_at := ok_movers_at (P := P) (w := w) (base := base) T (c.def_ 7 (d := d_movers_at) rfl) h_check_sheet h_movers_in (fun vs H Q E h => pure_movers_at vs H Q E h)
  have h_dot_at := ok_dot_at (P := P) (w := w) (base := base) T (c.def_ 11 (d := d_dot_at) rfl) h_check_sheet h_dot_in (fun vs H Q E h => pure_dot_at vs H Q E h)
  exact okF_law T F h_l_law_draws h_l_law_mix h_l_law_movers h_l_law_dot h_dot_at h_dots_of h_ground_at h_l_law_ground h_pixel h_l_law_pixel h_l_law_bit h_movers_at (fun vs H Q E h => pure_law vs H Q E h)
theorem facts {f : Addr} (X : K.In h) (G : h.Ns mainGlobals mg) (hfa : mg ("law" : Str) = some (.ref f)) (c : He.SaysD fa fn K) (m : ex K = true) :
    ∃ fd : FuncData, (∀ (s : Shared) (v : Value), BindsTo s fd ⟨[v], []⟩ [("script", v)]) ∧
      ∀ b2 : Heap, K.In b2 → b2.Ns mainGlobals mg → FnOk P w K mg b2 (L2.CX P w) 7 f fd ["script"] (c_law.sp K) := by
  have T := tx_of X G c m
  have e := hfa.symm.trans T.g_law
  cases e
  obtain ⟨fd, F⟩ := c.def_ 23 (d := d_law) rfl
  have b := FunD.bindsA (ps := ["script"]) F fun _ _ _ _ _ _ us hl => match us, hl with | [_], _ => rfl
  exact ⟨fd, fun s v => b s [v] rfl, fun b2 _ _ => law_ok T c F⟩
end
theorem walk_w {l : PySem.W.OpenLaw} {n k : Nat} {q : Program} {loose : List Str} {XP : (Str → Option Value) → Heap → Prop} {YP : World → Heap → Prop} {d : DefRec} {CX : World → CXT} {x : Str}
    (m1 : l.most = some n) (m2 : n ≤ sizeLine) (m3 : d.params.defaults = []) (m4 : Room k callerA)
    (F : ∀ (w : World) (mg : Str → Option Value) (fa : Addr) (h : Heap), YP w h → h.Ns mainGlobals mg → mg d.name = some (.ref fa) → ∃ (K : PySem.W.Frag) (fd : FuncData) (sp : Sp), K.In h ∧ (∀ (s : Shared) (u : Value), BindsTo s fd ⟨[u], []⟩ [(x, u)]) ∧
        (∀ (H : Hp) (a : Addr) (ns : List Int), ns.length ≤ n → Only H → SqL K H a (ns.map V.int) → sp [.ref a] H (fun v _ => v = .bl true) fun _ _ _ => False) ∧ (∀ b2 : Heap, K.In b2 → b2.Ns mainGlobals mg → FnOk l.prog w K mg b2 (CX w) k fa fd [x] sp))
    (no : ∀ (w : World) (H : Hp) (s : Shared) (e : Value) (s' : Shared), CX w [] H s (fun _ _ _ => False) e s' → False) : PySem.W.WalkO q loose XP YP l.row.toRowW d [] (fun f vs => PySem.call f vs) := by
  refine Att.attach_call m1 m3 fun w s₀ s₁ mg mb fa o pm cd doc a vs ns G Y ho h1 h2 h3 hobj hints h4 h5 => ?_
  obtain ⟨K, fd, sp, KX, hb, hsp, hF⟩ := F w mg fa _ Y G.T.g h3
  refine law_call KX G.T.g G.T.b G.T.builtins G.T.nolimit h5 hobj hints (Nat.le_trans h4 m2) m4 hF hb ?_ ?_
  · exact fun H hO hS => hsp H a ns h4 hO hS
  · exact fun H e s' => no w H s₁ e s'

end K04
open PySem PySem.W PySem.Calls PyProof.Rows
theorem PySem.Challenge.cw_caughtup_k04_whole_dots_of_any_movers_holds : PySem.Challenge.rw_caughtup_k04_whole_dots_of_any_movers.Holds := by
  w_on; o_law
  refine HandSHeadRun.head_any (r := OpenLaw.row PySem.Challenge.rw_caughtup_k04_whole_dots_of_any_movers) (q := view (OpenLaw.row PySem.Challenge.rw_caughtup_k04_whole_dots_of_any_movers).prog [39]) (H := K04.hk) (ob := K04.ob) (M := 3000) (loose := K04.loose)
    (d := HandSHeadRun.topDef (OpenLaw.row PySem.Challenge.rw_caughtup_k04_whole_dots_of_any_movers).prog 39) (kwd := []) K04.ob_eq (by kernel_rfl) (fun s => by kernel_rfl) K04.run_eq (by kernel_rfl) (by kernel_rfl)
    (by kernel_rfl) (by rfl) (by first | assumption | decide +kernel) (by decide +kernel)
    ⟨rfl, rfl, rfl, rfl, rfl, by decide +kernel⟩ ?hw ?hc
  case hw => w_witness2
  case hc =>
    refine K04.walk_w (l := PySem.Challenge.rw_caughtup_k04_whole_dots_of_any_movers) (n := 63) (k := 7) (x := "script") (CX := fun w => L2.CX (PySem.Challenge.rw_caughtup_k04_whole_dots_of_any_movers).prog w)
      rfl (by decide) (by kernel_rfl) ⟨rfl, by decide, by decide⟩ ?F ?no
    case no =>
      rintro w H s e s' ⟨a, b, c, d, z⟩
      simp at z
    intro w mg fa h Y G hmg0
    obtain ⟨K, KX, c⟩ := Y
    have hmg : mg ("law" : PySem.Str) = some (.ref fa) := by
      have en : (HandSHeadRun.topDef (OpenLaw.row PySem.Challenge.rw_caughtup_k04_whole_dots_of_any_movers).prog 39).name = ("law" : PySem.Str) := by kernel_rfl
      rw [← en]
      exact hmg0
    obtain ⟨fd, hb, hF⟩ := K04.facts (P := (PySem.Challenge.rw_caughtup_k04_whole_dots_of_any_movers).prog) (w := w) KX G hmg c.t.d c.more
    refine ⟨K, fd, K04.c_law.sp K, KX, hb, fun H a ns hl _ hS => ?_, hF⟩
    refine ⟨ns, H, hl, Sy.Le.rfl', rfl, .cons ⟨a, rfl, hS⟩ .nil, fun d v F' H' hd _ _ _ _ hv => ?_, fun cls n dd fs H' x => x.elim⟩
    have hd' : d = PyData.bool true := hd
    subst hd'
    exact Sy.Is.bl_inv hv
