import PyProof.Rows.All
import Wide.All
import OpenK.AllK
import Wide.FinOn
import HandS.ForMost
import HandS.Walk
import HandS.Wide
import HandS.TupAny
import HandS.IsInst
import HandS.Conv
import HandS.WideBits
import KE.GoesEnum
import KE.GoesMore
import HandS.Style
import HandS.SetFor
import HandS.Sort
import PyProof.StrWalks
import PyProof.ListStr
import HandS.Defaults
import PySem.Challenge.RW_eithermended_k01_types_and_what_is_none
import HandS.Codes
set_option Elab.async false
set_option linter.all false
set_option maxRecDepth 100000
/-! DL1: plain data over the hand layer: values by content, what may change by address; the judgements lifted to it. -/
namespace DL
open PySem PySem.Spec L2
open PyProof.Rows hiding St

/-- plain data; ref: an object told by its address -/
inductive D where
  | non | bl (b : Bool) | int (i : Int) | str (x : Str) | tup (xs : List D) | lst (xs : List D) | slst (xs : List D) | ref (a : Addr) | dct (ks : List (Int ⊕ Str)) (xs : List D)

mutual
inductive Rp (K : PySem.W.Frag) (F : Hp) : V → D → Prop
  | non : Rp K F .non .non
  | bl (b : Bool) : Rp K F (.bl b) (.bl b)
  | int (i : Int) : Rp K F (.int i) (.int i)
  | str (x : Str) : Rp K F (.str x) (.str x)
  | ref (a : Addr) : Rp K F (.ref a) (.ref a)
  | tup {a : Addr} {xs : List V} {ds : List D} : SqT K F a xs → RpAll K F xs ds → Rp K F (.ref a) (.tup ds)
  | lst {a : Addr} {xs : List V} {ds : List D} : F a = some (.lst xs) → RpAll K F xs ds → Rp K F (.ref a) (.lst ds)
  | slst {a : Addr} {xs : List V} {ds : List D} : SqL K F a xs → RpAll K F xs ds → Rp K F (.ref a) (.slst ds)
  | dct {a : Addr} {ks : List (Int ⊕ Str)} {xs : List V} {ds : List D} : F a = some (.dK (ks.zip xs)) → ks.length = xs.length → RpAll K F xs ds → Rp K F (.ref a) (.dct ks ds)
inductive RpAll (K : PySem.W.Frag) (F : Hp) : List V → List D → Prop
  | nil : RpAll K F [] []
  | cons {v : V} {vs : List V} {d : D} {ds : List D} : Rp K F v d → RpAll K F vs ds → RpAll K F (v :: vs) (d :: ds)
end

theorem Same.tseq {K : PySem.W.Frag} {H H' : Hp} {a : Addr} {xs : List V} (e : Same H H') (h : SqT K H a xs) : SqT K H' a xs := by
  rcases h with (h | ⟨o, h⟩) | h
  · exact .inl (.inl (e _ _ h))
  · exact .inl (.inr ⟨o, e _ _ h⟩)
  · exact .inr h
mutual
theorem Rp.mono {K : PySem.W.Frag} {F F' : Hp} (e : Same F F') : ∀ {v : V} {d : D}, Rp K F v d → Rp K F' v d
  | _, _, .non => .non
  | _, _, .bl b => .bl b
  | _, _, .int i => .int i
  | _, _, .str x => .str x
  | _, _, .ref a => .ref a
  | _, _, .tup s r => .tup (Same.tseq e s) (RpAll.mono e r)
  | _, _, .lst s r => .lst (e _ _ s) (RpAll.mono e r)
  | _, _, .slst s r => .slst (e.seq s) (RpAll.mono e r)
  | _, _, .dct h l r => .dct (e _ _ h) l (RpAll.mono e r)
theorem RpAll.mono {K : PySem.W.Frag} {F F' : Hp} (e : Same F F') : ∀ {vs : List V} {ds : List D}, RpAll K F vs ds → RpAll K F' vs ds
  | _, _, .nil => .nil
  | _, _, .cons h t => .cons (Rp.mono e h) (RpAll.mono e t)
end
theorem RpAll.length {K : PySem.W.Frag} {F : Hp} : ∀ {vs : List V} {ds : List D}, RpAll K F vs ds → vs.length = ds.length
  | _, _, .nil => rfl
  | _, _, .cons _ t => congrArg (· + 1) (RpAll.length t)
theorem RpAll.get {K : PySem.W.Frag} {F : Hp} : ∀ {vs : List V} {ds : List D} {i : Nat} {d : D}, RpAll K F vs ds → ds[i]? = some d → ∃ v, vs[i]? = some v ∧ Rp K F v d
  | _, _, _, _, .nil, e => by simp at e
  | _, _, 0, _, .cons h _, e => by simp at e; subst e; exact ⟨_, rfl, h⟩
  | _, _, i + 1, _, .cons _ t, e => by
    obtain ⟨v, h1, h2⟩ := RpAll.get (i := i) t (by simpa using e)
    exact ⟨v, by simpa using h1, h2⟩
theorem RpAll.get' {K : PySem.W.Frag} {F : Hp} : ∀ {vs : List V} {ds : List D} {i : Nat} {v : V}, RpAll K F vs ds → vs[i]? = some v → ∃ d, ds[i]? = some d ∧ Rp K F v d
  | _, _, _, _, .nil, e => by simp at e
  | _, _, 0, _, .cons h _, e => by simp at e; subst e; exact ⟨_, rfl, h⟩
  | _, _, i + 1, _, .cons _ t, e => by
    obtain ⟨v, h1, h2⟩ := RpAll.get' (i := i) t (by simpa using e)
    exact ⟨v, by simpa using h1, h2⟩
theorem RpAll.append {K : PySem.W.Frag} {F : Hp} : ∀ {vs ws : List V} {ds es : List D}, RpAll K F vs ds → RpAll K F ws es → RpAll K F (vs ++ ws) (ds ++ es)
  | _, _, _, _, .nil, s => s
  | _, _, _, _, .cons h t, s => .cons h (RpAll.append t s)
theorem RpAll.take {K : PySem.W.Frag} {F : Hp} : ∀ {vs : List V} {ds : List D} (n : Nat), RpAll K F vs ds → RpAll K F (vs.take n) (ds.take n)
  | _, _, 0, _ => by simpa using RpAll.nil
  | _, _, _ + 1, .nil => .nil
  | _, _, n + 1, .cons h t => .cons h (RpAll.take n t)
theorem RpAll.drop {K : PySem.W.Frag} {F : Hp} : ∀ {vs : List V} {ds : List D} (n : Nat), RpAll K F vs ds → RpAll K F (vs.drop n) (ds.drop n)
  | _, _, 0, r => by simpa using r
  | _, _, _ + 1, .nil => .nil
  | _, _, n + 1, .cons _ t => RpAll.drop n t
theorem RpAll.set {K : PySem.W.Frag} {F : Hp} {v : V} {d : D} (h : Rp K F v d) : ∀ {vs : List V} {ds : List D} (n : Nat), RpAll K F vs ds → RpAll K F (vs.set n v) (ds.set n d)
  | _, _, _, .nil => .nil
  | _, _, 0, .cons _ t => .cons h t
  | _, _, n + 1, .cons x t => .cons x (RpAll.set h n t)
theorem RpAll.dropLast {K : PySem.W.Frag} {F : Hp} {vs : List V} {ds : List D} (h : RpAll K F vs ds) : RpAll K F vs.dropLast ds.dropLast := by
  rw [List.dropLast_eq_take, List.dropLast_eq_take, h.length]
  exact h.take _
theorem RpAll.eraseIdx {K : PySem.W.Frag} {F : Hp} : ∀ {vs : List V} {ds : List D} (n : Nat), RpAll K F vs ds → RpAll K F (vs.eraseIdx n) (ds.eraseIdx n)
  | _, _, _, .nil => .nil
  | _, _, 0, .cons _ t => t
  | _, _, n + 1, .cons x t => .cons x (RpAll.eraseIdx n t)
theorem RpAll.reverse {K : PySem.W.Frag} {F : Hp} : ∀ {vs : List V} {ds : List D}, RpAll K F vs ds → RpAll K F vs.reverse ds.reverse
  | _, _, .nil => .nil
  | _, _, .cons h t => by
    rw [List.reverse_cons, List.reverse_cons]
    exact (RpAll.reverse t).append (.cons h .nil)
theorem RpAll.rep {K : PySem.W.Frag} {F : Hp} {vs : List V} {ds : List D} (h : RpAll K F vs ds) : ∀ k : Nat, RpAll K F (List.replicate k vs).flatten (List.replicate k ds).flatten
  | 0 => .nil
  | k + 1 => by
    rw [List.replicate_succ, List.replicate_succ, List.flatten_cons, List.flatten_cons]
    exact h.append (RpAll.rep h k)

/-! ### what may change -/
inductive MO where
  | lst (ds : List D)
abbrev Mp := Addr → Option MO
def mu (M : Mp) (a : Addr) (o : MO) : Mp := fun b => if b = a then some o else M b
theorem mu_same {M : Mp} {a : Addr} {o : MO} : mu M a o a = some o := by unfold mu; rw [if_pos rfl]
theorem mu_ne {M : Mp} {a b : Addr} {o : MO} (h : b ≠ a) : mu M a o b = M b := by unfold mu; rw [if_neg h]
theorem mu_mu {M : Mp} {a : Addr} {o u : MO} : mu (mu M a o) a u = mu M a u := by
  funext b; unfold mu; split <;> rfl
def md (M : Mp) (a : Addr) : Mp := fun b => if b = a then none else M b
theorem md_mu {M : Mp} {a : Addr} {o : MO} (h : M a = none) : md (mu M a o) a = M := by
  funext b; unfold md mu
  by_cases e : b = a
  · rw [if_pos e, e, h]
  · rw [if_neg e, if_neg e]

def RepO (K : PySem.W.Frag) (F : Hp) : HO → MO → Prop
  | .lst xs, .lst ds => RpAll K F xs ds
  | _, _ => False
theorem RepO.mono {K : PySem.W.Frag} {F F' : Hp} (e : Same F F') {o : HO} {m : MO} (h : RepO K F o m) : RepO K F' o m := by
  cases o <;> cases m <;> simp only [RepO] at h ⊢
  exact h.mono e
structure Rel (K : PySem.W.Frag) (F : Hp) (M : Mp) (H : Hp) : Prop where
  sub : Same F H
  mt : ∀ a m, M a = some m → F a = none ∧ ∃ o, H a = some o ∧ RepO K F o m

/-- a step of the state: what is held fast stays, what isn't told stays untouched and untold -/
structure Stp (K : PySem.W.Frag) (F : Hp) (M : Mp) (H : Hp) (F' : Hp) (M' : Mp) (H' : Hp) : Prop where
  same : Same F F'
  rel : Rel K F' M' H'
  fr : ∀ a o, H a = some o → F a = none → M a = none → H' a = some o ∧ F' a = none ∧ M' a = none
theorem Stp.refl {K : PySem.W.Frag} {F : Hp} {M : Mp} {H : Hp} (R : Rel K F M H) : Stp K F M H F M H := ⟨Same.refl F, R, fun _ _ h f m => ⟨h, f, m⟩⟩
theorem Stp.trans {K : PySem.W.Frag} {F F1 F2 : Hp} {M M1 M2 : Mp} {H H1 H2 : Hp} (a : Stp K F M H F1 M1 H1) (b : Stp K F1 M1 H1 F2 M2 H2) : Stp K F M H F2 M2 H2 :=
  ⟨a.same.trans b.same, b.rel, fun x o h f m => let ⟨h1, f1, m1⟩ := a.fr x o h f m; b.fr x o h1 f1 m1⟩
section
variable {K : PySem.W.Frag} {F : Hp} {M : Mp} {H : Hp}
theorem Rel.fnone (R : Rel K F M H) {p : Addr} (h : H p = none) : F p = none := R.sub.free h
theorem Rel.mnone (R : Rel K F M H) {p : Addr} (h : H p = none) : M p = none := by
  cases q : M p with
  | none => rfl
  | some m =>
    obtain ⟨_, o, e, _⟩ := R.mt p m q
    rw [h] at e; cases e
theorem same_new {F : Hp} {p : Addr} {o : HO} (h : F p = none) : Same F (upd F p o) := fun b u q => by rw [upd_ne (ne_of_none q h)]; exact q
/-- a new object that never changes -/
theorem Rel.newF (R : Rel K F M H) {p : Addr} (h : H p = none) (o : HO) : Stp K F M H (upd F p o) M (upd H p o) := by
  have s : Same F (upd F p o) := same_new (R.fnone h)
  refine ⟨s, ⟨fun b u q => ?_, fun a m q => ?_⟩, fun a u q f m => ?_⟩
  · by_cases e : b = p
    · subst e; rw [upd_same] at q ⊢; exact q
    · rw [upd_ne e] at q ⊢; exact R.sub _ _ q
  · obtain ⟨f, u, e, r⟩ := R.mt a m q
    have ne : a ≠ p := ne_of_none e h
    exact ⟨by rw [upd_ne ne]; exact f, u, by rw [upd_ne ne]; exact e, r.mono s⟩
  · have ne : a ≠ p := ne_of_none q h
    rw [upd_ne ne, upd_ne ne]; exact ⟨q, f, m⟩
/-- a new object that may change -/
theorem Rel.newM (R : Rel K F M H) {p : Addr} (h : H p = none) {o : HO} {m : MO} (r : RepO K F o m) : Stp K F M H F (mu M p m) (upd H p o) := by
  refine ⟨Same.refl F, ⟨fun b u q => ?_, fun a n q => ?_⟩, fun a u q f n => ?_⟩
  · have e : b ≠ p := ne_of_none (R.sub _ _ q) h
    rw [upd_ne e]; exact R.sub _ _ q
  · by_cases e : a = p
    · subst e
      rw [mu_same] at q; cases q
      exact ⟨R.fnone h, o, upd_same, r⟩
    · rw [mu_ne e] at q
      obtain ⟨f, u, e2, r2⟩ := R.mt a n q
      exact ⟨f, u, by rw [upd_ne e]; exact e2, r2⟩
  · have ne : a ≠ p := ne_of_none q h
    rw [upd_ne ne, mu_ne ne]; exact ⟨q, f, n⟩
/-- an object that may change is changed -/
theorem Rel.set (R : Rel K F M H) {p : Addr} {m0 : MO} (h : M p = some m0) {o : HO} {m : MO} (r : RepO K F o m) : Stp K F M H F (mu M p m) (upd H p o) := by
  obtain ⟨f0, _, _, _⟩ := R.mt p m0 h
  refine ⟨Same.refl F, ⟨fun b u q => ?_, fun a n q => ?_⟩, fun a u q f n => ?_⟩
  · have e : b ≠ p := ne_of_none q f0
    rw [upd_ne e]; exact R.sub _ _ q
  · by_cases e : a = p
    · subst e
      rw [mu_same] at q; cases q
      exact ⟨f0, o, upd_same, r⟩
    · rw [mu_ne e] at q
      obtain ⟨f, u, e2, r2⟩ := R.mt a n q
      exact ⟨f, u, by rw [upd_ne e]; exact e2, r2⟩
  · have ne : a ≠ p := fun e => by subst e; rw [h] at n; cases n
    rw [upd_ne ne, mu_ne ne]; exact ⟨q, f, n⟩
/-- an object that may change is held fast from here on -/
theorem Rel.hold (R : Rel K F M H) {p : Addr} {ds : List D} (h : M p = some (.lst ds)) : ∃ F', Stp K F M H F' (md M p) H ∧ Rp K F' (.ref p) (.lst ds) := by
  obtain ⟨f0, o, e0, r0⟩ := R.mt p _ h
  cases o with
  | lst xs =>
    have s : Same F (upd F p (.lst xs)) := same_new f0
    refine ⟨upd F p (.lst xs), ⟨s, ⟨fun b u q => ?_, fun a m q => ?_⟩, fun a u q f n => ?_⟩, .lst upd_same (RpAll.mono s r0)⟩
    · by_cases e : b = p
      · subst e; rw [upd_same] at q; rw [e0, ← q]
      · rw [upd_ne e] at q; exact R.sub _ _ q
    · unfold md at q
      by_cases e : a = p
      · rw [if_pos e] at q; cases q
      · rw [if_neg e] at q
        obtain ⟨f, u, e2, r2⟩ := R.mt a m q
        exact ⟨by rw [upd_ne e]; exact f, u, e2, r2.mono s⟩
    · have ne : a ≠ p := fun e => by subst e; rw [h] at n; cases n
      unfold md
      rw [upd_ne ne, if_neg ne]; exact ⟨q, f, n⟩
  | _ => exact r0.elim
theorem Rel.lst (R : Rel K F M H) {p : Addr} {ds : List D} (h : M p = some (.lst ds)) : ∃ xs, H p = some (.lst xs) ∧ RpAll K F xs ds := by
  obtain ⟨_, o, e0, r0⟩ := R.mt p _ h
  cases o with
  | lst xs => exact ⟨xs, e0, r0⟩
  | _ => exact r0.elim
end

/-! ### the slots -/
abbrev Rho := List (Option D)
def RelS (K : PySem.W.Frag) (F : Hp) (σ : St) (ρ : Rho) : Prop := σ.length = ρ.length ∧ ∀ (i : Nat) (d : D), ρ[i]? = some (some d) → ∃ v, σ[i]? = some (some v) ∧ Rp K F v d
section
variable {K : PySem.W.Frag} {F F' : Hp} {σ : St} {ρ : Rho}
theorem RelS.mono (h : RelS K F σ ρ) (e : Same F F') : RelS K F' σ ρ := ⟨h.1, fun i d q => let ⟨v, a, b⟩ := h.2 i d q; ⟨v, a, b.mono e⟩⟩
theorem RelS.set (h : RelS K F σ ρ) {v : V} {d : D} (r : Rp K F v d) (i : Nat) : RelS K F (σ.set i (some v)) (ρ.set i (some d)) := by
  refine ⟨by rw [List.length_set, List.length_set]; exact h.1, fun j e q => ?_⟩
  by_cases ij : i = j
  · subst ij
    have hl : i < ρ.length := by
      have := List.getElem?_eq_some_iff.mp q
      obtain ⟨a, _⟩ := this
      simpa using a
    rw [List.getElem?_set_self hl] at q
    cases q
    exact ⟨v, by rw [List.getElem?_set_self (by rw [h.1]; exact hl)], r⟩
  · rw [List.getElem?_set_ne ij] at q ⊢
    exact h.2 j e q
def dwipe (ρ : Rho) : List Nat → Rho
  | [] => ρ
  | v :: vs => (dwipe ρ vs).set v none
theorem RelS.wipe (h : RelS K F σ ρ) : ∀ vs : List Nat, RelS K F (L2.wipe σ vs) (dwipe ρ vs)
  | [] => h
  | v :: vs => by
    have ih := RelS.wipe h vs
    unfold L2.wipe dwipe
    refine ⟨by rw [List.length_set, List.length_set]; exact ih.1, fun j e q => ?_⟩
    by_cases ij : v = j
    · subst ij
      by_cases hl : v < (dwipe ρ vs).length
      · rw [List.getElem?_set_self hl] at q; cases q
      · rw [List.getElem?_eq_none (by simpa using hl)] at q; cases q
    · rw [List.getElem?_set_ne ij] at q ⊢
      exact ih.2 j e q
end

/-! ### the judgements -/
abbrev DK := D → Mp → Prop
abbrev DTE := Rho → Mp → DK → Prop
abbrev DTT := Rho → Mp → (Bool → Mp → Prop) → Prop
abbrev DTA := Rho → Mp → (List D → Mp → Prop) → Prop
structure DEnds where
  nx : Rho → Mp → Prop
  rt : DK
  bk : Rho → Mp → Prop := fun _ _ => False
  ct : Rho → Mp → Prop := fun _ _ => False
abbrev DTS := DEnds → Rho → Mp → Prop

def canE (K : PySem.W.Frag) (t : DTE) : TE := fun σ H Q0 => ∃ F M ρ Q, RelS K F σ ρ ∧ Rel K F M H ∧ t ρ M Q ∧
  ∀ v d F' M' H', Stp K F M H F' M' H' → Rp K F' v d → Q d M' → Q0 v H'
def canT (K : PySem.W.Frag) (t : DTT) : TT := fun σ H Q0 => ∃ F M ρ Q, RelS K F σ ρ ∧ Rel K F M H ∧ t ρ M Q ∧
  ∀ b F' M' H', Stp K F M H F' M' H' → Q b M' → Q0 b H'
def canA (K : PySem.W.Frag) (t : DTA) : TA := fun σ H Q0 => ∃ F M ρ Q, RelS K F σ ρ ∧ Rel K F M H ∧ t ρ M Q ∧
  ∀ vs ds F' M' H', Stp K F M H F' M' H' → RpAll K F' vs ds → Q ds M' → Q0 vs H'
structure EndsOk (K : PySem.W.Frag) (F : Hp) (M : Mp) (H : Hp) (D : DEnds) (D0 : Ends) : Prop where
  nx : ∀ σ' ρ' F' M' H', Stp K F M H F' M' H' → RelS K F' σ' ρ' → D.nx ρ' M' → D0.nx σ' H'
  rt : ∀ v d F' M' H', Stp K F M H F' M' H' → Rp K F' v d → D.rt d M' → D0.rt v H'
  bk : ∀ σ' ρ' F' M' H', Stp K F M H F' M' H' → RelS K F' σ' ρ' → D.bk ρ' M' → D0.bk σ' H'
  ct : ∀ σ' ρ' F' M' H', Stp K F M H F' M' H' → RelS K F' σ' ρ' → D.ct ρ' M' → D0.ct σ' H'
theorem EndsOk.mono {K : PySem.W.Frag} {F F1 : Hp} {M M1 : Mp} {H H1 : Hp} {D : DEnds} {D0 : Ends} (e : EndsOk K F M H D D0) (s : Stp K F M H F1 M1 H1) : EndsOk K F1 M1 H1 D D0 :=
  ⟨fun a b c d f h => e.nx a b c d f (s.trans h), fun a b c d f h => e.rt a b c d f (s.trans h), fun a b c d f h => e.bk a b c d f (s.trans h), fun a b c d f h => e.ct a b c d f (s.trans h)⟩
def canS (K : PySem.W.Frag) (t : DTS) : TS := fun D0 σ H => ∃ F M ρ D, RelS K F σ ρ ∧ Rel K F M H ∧ t D ρ M ∧ EndsOk K F M H D D0

abbrev DE (X : Cx) (e : Expr) (t : DTE) : Prop := PE X e (canE X.K t)
abbrev DT (X : Cx) (e : Expr) (t : DTT) : Prop := PT X e (canT X.K t)
abbrev DW (X : Cx) (e : Expr) (t : DTT) : Prop := PW X e (canT X.K t)
abbrev DA (X : Cx) (es : List Expr) (t : DTA) : Prop := PA X es (canA X.K t)
abbrev DS (X : Cx) (s : Stmt) (t : DTS) : Prop := PS X s (canS X.K t)
abbrev DSs (X : Cx) (ss : List Stmt) (t : DTS) : Prop := PSs X ss (canS X.K t)

section
variable {X : Cx}
theorem PE.weak {e : Expr} {t u : TE} (h : PE X e t) (w : ∀ σ H Q, u σ H Q → t σ H Q) : PE X e u := ⟨fun p s σ H Q I q => h.run p s σ H Q I (w σ H Q q)⟩
theorem PT.weak {e : Expr} {t u : TT} (h : PT X e t) (w : ∀ σ H Q, u σ H Q → t σ H Q) : PT X e u := ⟨fun p s σ H Q I q => h.run p s σ H Q I (w σ H Q q)⟩
theorem PW.weak {e : Expr} {t u : TT} (h : PW X e t) (w : ∀ σ H Q, u σ H Q → t σ H Q) : PW X e u := ⟨fun wh p s σ H Q I q => h.run wh p s σ H Q I (w σ H Q q)⟩
theorem PA.weak {es : List Expr} {t u : TA} (h : PA X es t) (w : ∀ σ H Q, u σ H Q → t σ H Q) : PA X es u := ⟨fun ps p s σ H Q I q => h.run ps p s σ H Q I (w σ H Q q)⟩
theorem PS.weak {e : Stmt} {t u : TS} (h : PS X e t) (w : ∀ D σ H, u D σ H → t D σ H) : PS X e u := ⟨fun p s σ H D I q => h.run p s σ H D I (w D σ H q)⟩
theorem PSs.weak {e : List Stmt} {t u : TS} (h : PSs X e t) (w : ∀ D σ H, u D σ H → t D σ H) : PSs X e u := ⟨fun p s σ H D I q => h.run p s σ H D I (w D σ H q)⟩
theorem PTs.weak {ifs : List Expr} {t u : TT} (h : PTs X ifs t) (w : ∀ σ H Q, u σ H Q → t σ H Q) : PTs X ifs u := ⟨fun p s σ H Q I q => h.run p s σ H Q I (w σ H Q q)⟩
end
/-- the introduction of a reading over data -/
theorem canE.mk {K : PySem.W.Frag} {t : DTE} {σ : St} {H : Hp} {Q0 : VK} {F : Hp} {M : Mp} {ρ : Rho} {Q : DK} (s : RelS K F σ ρ) (r : Rel K F M H) (h : t ρ M Q)
    (k : ∀ v d F' M' H', Stp K F M H F' M' H' → Rp K F' v d → Q d M' → Q0 v H') : canE K t σ H Q0 := ⟨F, M, ρ, Q, s, r, h, k⟩

/-! ### names, constants -/
def dSlot (i : Nat) : DTE := fun ρ M Q => ∃ d, ρ[i]? = some (some d) ∧ Q d M
def dC (d : D) : DTE := fun _ M Q => Q d M
section
variable {X : Cx} {pos : Pos}
theorem de_v (i : Nat) {x : Str} (hN : X.N[i]? = some x := by rfl) (hv : Vis X.env.scope x := by first | exact Or.inl rfl | exact Or.inr (Or.inl rfl) | exact Or.inr (Or.inr rfl)) (hd : (x == ("__debug__" : Str)) = false := by decide)
    (hcd : (x == ("__classdict__" : Str)) = false := by decide) : DE X (.Name x pos) (dSlot i) := by
  refine PE.weak (pe_var hN hv hd hcd) ?_
  rintro σ H Q0 ⟨F, M, ρ, Q, rs, r, ⟨d, e, q⟩, k⟩
  obtain ⟨v, e1, rp⟩ := rs.2 i d e
  exact ⟨v, e1, k v d F M H (Stp.refl r) rp q⟩
theorem de_const {e : Expr} {v : V} {d : D} (h : PE X e (tC v)) (r : ∀ F, Rp X.K F v d) : DE X e (dC d) := by
  refine PE.weak h ?_
  rintro σ H Q0 ⟨F, M, ρ, Q, rs, rl, q, k⟩
  exact k v d F M H (Stp.refl rl) (r F) q
theorem de_int {i j} : DE X (.Constant (.int i) j pos) (dC (.int i)) := de_const pe_int fun _ => .int i
theorem de_bl {b j} : DE X (.Constant (.bool b) j pos) (dC (.bl b)) := de_const pe_bl fun _ => .bl b
theorem de_non {j} : DE X (.Constant .none j pos) (dC .non) := de_const pe_non fun _ => .non
theorem de_str {x j} : DE X (.Constant (.str x) j pos) (dC (.str x)) := de_const pe_str fun _ => .str x
/-- a name of the module whose value never changes -/
structure Glob (K : PySem.W.Frag) (mg : Str → Option Value) (x : Str) (d : D) : Prop where
  ex : ∃ v u, mg x = some u ∧ RelV v u ∧ ∀ F, Rp K F v d
theorem de_g {x : Str} {d : D} (G : Glob X.K X.mg x d) (hg : Gl X x := by rfl) (hd : (x == ("__debug__" : Str)) = false := by decide) : DE X (.Name x pos) (dC d) := by
  obtain ⟨v, u, m, rv, rp⟩ := G.ex
  exact de_const (pe_glob hg m rv hd) rp

/-! ### lists of arguments, displays -/
def dNil : DTA := fun _ M Q => Q [] M
def dCons (t : DTE) (u : DTA) : DTA := fun ρ M Q => t ρ M fun d M1 => u ρ M1 fun ds M2 => Q (d :: ds) M2
theorem da_nil : DA X [] dNil := by
  refine PA.weak pa_nil ?_
  rintro σ H Q0 ⟨F, M, ρ, Q, rs, r, q, k⟩
  exact k [] [] F M H (Stp.refl r) .nil q
theorem da_cons {e : Expr} {es : List Expr} {t : DTE} {u : DTA} (ha : DE X e t) (hr : DA X es u) (hs : starEach (e :: es) X.env = (false, eval e X.env) :: starEach es X.env := by rfl) : DA X (e :: es) (dCons t u) := by
  refine PA.weak (pa_cons ha hr hs) ?_
  rintro σ H Q0 ⟨F, M, ρ, Q, rs, r, q, k⟩
  refine ⟨F, M, ρ, _, rs, r, q, fun v d F1 M1 H1 s1 rp q1 => ?_⟩
  refine ⟨F1, M1, ρ, _, rs.mono s1.same, s1.rel, q1, fun vs ds F2 M2 H2 s2 rp2 q2 => ?_⟩
  exact k _ _ F2 M2 H2 (s1.trans s2) (.cons (rp.mono s2.same) rp2) q2
/-- a new list: held fast (fz), or to be changed -/
def newL (fz : Bool) (ds : List D) (M : Mp) (Q : DK) : Prop := if fz = true then Q (.lst ds) M else ∀ a, M a = none → Q (.ref a) (mu M a (.lst ds))
theorem newL_ok {K : PySem.W.Frag} {F : Hp} {M : Mp} {H : Hp} {fz : Bool} {xs : List V} {ds : List D} {Q : DK} {Q0 : VK} (R : Rel K F M H) (rp : RpAll K F xs ds) (h : newL fz ds M Q)
    (k : ∀ v d F' M' H', Stp K F M H F' M' H' → Rp K F' v d → Q d M' → Q0 v H') (p : Addr) (hp : H p = none) : Q0 (.ref p) (upd H p (.lst xs)) := by
  cases fz with
  | true =>
    have s1 := R.newF hp (.lst xs)
    exact k _ (.lst ds) _ M _ s1 (.lst upd_same (rp.mono s1.same)) h
  | false =>
    exact k _ (.ref p) F _ _ (R.newM hp (m := .lst ds) rp) (.ref p) (h p (R.mnone hp))
def dTup (t : DTA) : DTE := fun ρ M Q => t ρ M fun ds M1 => ds.length ≤ sizeLine ∧ Q (.tup ds) M1
def dLst (fz : Bool) (t : DTA) : DTE := fun ρ M Q => t ρ M fun ds M1 => ds.length ≤ sizeLine ∧ newL fz ds M1 Q
theorem newT_ok {K : PySem.W.Frag} {F : Hp} {M : Mp} {H : Hp} {xs : List V} {ds : List D} {Q : DK} {Q0 : VK} (R : Rel K F M H) (rp : RpAll K F xs ds) (h : Q (.tup ds) M)
    (k : ∀ v d F' M' H', Stp K F M H F' M' H' → Rp K F' v d → Q d M' → Q0 v H') (p : Addr) (hp : H p = none) : Q0 (.ref p) (upd H p (.tup xs)) := by
  have s1 := R.newF hp (.tup xs)
  exact k _ (.tup ds) _ M _ s1 (.tup (.inl (.inl upd_same)) (rp.mono s1.same)) h
theorem de_tup {es : List Expr} {x1} {t : DTA} (h : DA X es t) : DE X (.Tuple es x1 pos) (dTup t) := by
  refine PE.weak (pe_tup h) ?_
  rintro σ H Q0 ⟨F, M, ρ, Q, rs, r, q, k⟩
  refine ⟨F, M, ρ, _, rs, r, q, fun vs ds F1 M1 H1 s1 rp ⟨hl, q1⟩ => ⟨by rw [rp.length]; exact hl, fun p hp => ?_⟩⟩
  exact newT_ok s1.rel rp q1 (fun v d F' M' H' s => k v d F' M' H' (s1.trans s)) p hp
theorem de_lst (fz : Bool) {es : List Expr} {t : DTA} (h : DA X es t) : DE X (.List es pos) (dLst fz t) := by
  refine PE.weak (pe_lst h) ?_
  rintro σ H Q0 ⟨F, M, ρ, Q, rs, r, q, k⟩
  refine ⟨F, M, ρ, _, rs, r, q, fun vs ds F1 M1 H1 s1 rp ⟨hl, q1⟩ => ⟨by rw [rp.length]; exact hl, fun p hp => ?_⟩⟩
  exact newL_ok s1.rel rp q1 (fun v d F' M' H' s => k v d F' M' H' (s1.trans s)) p hp
/-- a list that was changed is held fast here -/
def dHold (t : DTE) : DTE := fun ρ M Q => t ρ M fun d M1 => ∃ a ds, d = .ref a ∧ M1 a = some (.lst ds) ∧ Q (.lst ds) (md M1 a)
theorem de_hold {e : Expr} {t : DTE} (h : DE X e t) : DE X e (dHold t) := by
  refine PE.weak h ?_
  rintro σ H Q0 ⟨F, M, ρ, Q, rs, r, q, k⟩
  refine ⟨F, M, ρ, _, rs, r, q, fun v d F1 M1 H1 s1 rp ⟨a, ds, e, hm, q1⟩ => ?_⟩
  subst e
  cases rp
  obtain ⟨F2, s2, rp2⟩ := s1.rel.hold hm
  exact k _ _ F2 _ H1 (s1.trans s2) rp2 q1
end
end DL

/-! DL2: tests, statements, targets, loops, comprehensions, defs and calls over data. -/
namespace DL
open PySem PySem.Spec L2
open PyProof.Rows hiding St

/-! ### tests -/
def dB (t : DTE) : DTT := fun ρ M Q => t ρ M fun d M1 => ∃ b, d = .bl b ∧ Q b M1
section
variable {X : Cx} {pos : Pos}
theorem canT_of_B {K : PySem.W.Frag} {t : DTE} {σ : St} {H : Hp} {Q : Bool → Hp → Prop} (h : canT K (dB t) σ H Q) : tB (canE K t) σ H Q := by
  obtain ⟨F, M, ρ, Q', rs, r, q, k⟩ := h
  refine ⟨F, M, ρ, _, rs, r, q, fun v d F1 M1 H1 s1 rp ⟨b, e, q1⟩ => ?_⟩
  subst e
  cases rp
  exact ⟨b, rfl, k b F1 M1 H1 s1 q1⟩
theorem dt_val {e : Expr} {t : DTE} (h : DE X e t) (he : ∀ whole, isTrue e X.env whole = (do let v ← whole; standAt e.pos; holding [v] (truthy v)) := by intro _; rfl) : DT X e (dB t) :=
  PT.weak (pt_val h he) fun _ _ _ q => canT_of_B q
def dNotT (t : DTT) : DTT := fun ρ M Q => t ρ M fun b M1 => Q (!b) M1
def dAndT (t u : DTT) : DTT := fun ρ M Q => t ρ M fun b M1 => if b = true then u ρ M1 Q else Q false M1
def dOrT (t u : DTT) : DTT := fun ρ M Q => t ρ M fun b M1 => if b = true then Q true M1 else u ρ M1 Q
theorem dt_not {a : Expr} {t : DTT} (h : DT X a t) : DT X (.UnaryOp .Not a pos) (dNotT t) := by
  refine PT.weak (pt_not h) ?_
  rintro σ H Q0 ⟨F, M, ρ, Q, rs, r, q, k⟩
  exact ⟨F, M, ρ, _, rs, r, q, fun b F1 M1 H1 s1 q1 => k _ F1 M1 H1 s1 q1⟩
theorem can_and {K : PySem.W.Frag} {t u : DTT} {σ : St} {H : Hp} {Q : Bool → Hp → Prop} (h : canT K (dAndT t u) σ H Q) : tAnd (canT K t) (canT K u) σ H Q := by
  obtain ⟨F, M, ρ, Q', rs, r, q, k⟩ := h
  refine ⟨F, M, ρ, _, rs, r, q, fun b F1 M1 H1 s1 q1 => ?_⟩
  cases b with
  | true => exact ⟨F1, M1, ρ, Q', rs.mono s1.same, s1.rel, q1, fun b F2 M2 H2 s2 => k b F2 M2 H2 (s1.trans s2)⟩
  | false => exact k _ F1 M1 H1 s1 q1
theorem can_or {K : PySem.W.Frag} {t u : DTT} {σ : St} {H : Hp} {Q : Bool → Hp → Prop} (h : canT K (dOrT t u) σ H Q) : tOr (canT K t) (canT K u) σ H Q := by
  obtain ⟨F, M, ρ, Q', rs, r, q, k⟩ := h
  refine ⟨F, M, ρ, _, rs, r, q, fun b F1 M1 H1 s1 q1 => ?_⟩
  cases b with
  | false => exact ⟨F1, M1, ρ, Q', rs.mono s1.same, s1.rel, q1, fun b F2 M2 H2 s2 => k b F2 M2 H2 (s1.trans s2)⟩
  | true => exact k _ F1 M1 H1 s1 q1
theorem dw_and1 {a : Expr} {t : DTT} (h : DT X a t) : DW X (.BoolOp .And [a] pos) t := pw_and1 h
theorem dw_or1 {a : Expr} {t : DTT} (h : DT X a t) : DW X (.BoolOp .Or [a] pos) t := pw_or1 h
theorem dw_and {a b : Expr} {rest : List Expr} {t u : DTT} (h : DT X a t) (h2 : DW X (.BoolOp .And (b :: rest) pos) u) : DW X (.BoolOp .And (a :: b :: rest) pos) (dAndT t u) :=
  PW.weak (pw_and h h2) fun _ _ _ q => can_and q
theorem dw_or {a b : Expr} {rest : List Expr} {t u : DTT} (h : DT X a t) (h2 : DW X (.BoolOp .Or (b :: rest) pos) u) : DW X (.BoolOp .Or (a :: b :: rest) pos) (dOrT t u) :=
  PW.weak (pw_or h h2) fun _ _ _ q => can_or q
theorem dt_w {e : Expr} {t : DTT} (h : DW X e t) : DT X e t := h.pt

/-! ### and, or, not as values; x if t else y -/
def dAndV (t u : DTE) : DTE := fun ρ M Q => t ρ M fun d M1 => ∃ b, d = .bl b ∧ if b = true then u ρ M1 Q else Q (.bl false) M1
def dOrV (t u : DTE) : DTE := fun ρ M Q => t ρ M fun d M1 => ∃ b, d = .bl b ∧ if b = true then Q (.bl true) M1 else u ρ M1 Q
def dNotV (t : DTE) : DTE := fun ρ M Q => t ρ M fun d M1 => ∃ b, d = .bl b ∧ Q (.bl (!b)) M1
def dIf (c : DTT) (t u : DTE) : DTE := fun ρ M Q => c ρ M fun b M1 => if b = true then t ρ M1 Q else u ρ M1 Q
theorem de_one {op} {a : Expr} {t : DTE} (h : DE X a t) : DE X (.BoolOp op [a] pos) t := pe_one h
theorem de_and {a b : Expr} {rest : List Expr} {t u : DTE} (h : DE X a t) (h2 : DE X (.BoolOp .And (b :: rest) pos) u) : DE X (.BoolOp .And (a :: b :: rest) pos) (dAndV t u) := by
  refine PE.weak (pe_and h h2) ?_
  rintro σ H Q0 ⟨F, M, ρ, Q, rs, r, q, k⟩
  refine ⟨F, M, ρ, _, rs, r, q, fun v d F1 M1 H1 s1 rp ⟨b, e, q1⟩ => ?_⟩
  subst e
  cases rp
  refine ⟨b, rfl, ?_⟩
  cases b with
  | true => exact ⟨F1, M1, ρ, Q, rs.mono s1.same, s1.rel, q1, fun v d F2 M2 H2 s2 => k v d F2 M2 H2 (s1.trans s2)⟩
  | false => exact k _ _ F1 M1 H1 s1 (.bl false) q1
theorem de_or {a b : Expr} {rest : List Expr} {t u : DTE} (h : DE X a t) (h2 : DE X (.BoolOp .Or (b :: rest) pos) u) : DE X (.BoolOp .Or (a :: b :: rest) pos) (dOrV t u) := by
  refine PE.weak (pe_or h h2) ?_
  rintro σ H Q0 ⟨F, M, ρ, Q, rs, r, q, k⟩
  refine ⟨F, M, ρ, _, rs, r, q, fun v d F1 M1 H1 s1 rp ⟨b, e, q1⟩ => ?_⟩
  subst e
  cases rp
  refine ⟨b, rfl, ?_⟩
  cases b with
  | false => exact ⟨F1, M1, ρ, Q, rs.mono s1.same, s1.rel, q1, fun v d F2 M2 H2 s2 => k v d F2 M2 H2 (s1.trans s2)⟩
  | true => exact k _ _ F1 M1 H1 s1 (.bl true) q1
theorem de_not {a : Expr} {t : DTE} (h : DE X a t) : DE X (.UnaryOp .Not a pos) (dNotV t) := by
  refine PE.weak (pe_not h) ?_
  rintro σ H Q0 ⟨F, M, ρ, Q, rs, r, q, k⟩
  refine ⟨F, M, ρ, _, rs, r, q, fun v d F1 M1 H1 s1 rp ⟨b, e, q1⟩ => ?_⟩
  subst e
  cases rp
  exact ⟨b, rfl, k _ _ F1 M1 H1 s1 (.bl _) q1⟩
theorem de_if {c a b : Expr} {tc : DTT} {t u : DTE} (hc : DT X c tc) (ha : DE X a t) (hb : DE X b u) : DE X (.IfExp c a b pos) (dIf tc t u) := by
  refine PE.weak (pe_ifExp hc ha hb) ?_
  rintro σ H Q0 ⟨F, M, ρ, Q, rs, r, q, k⟩
  refine ⟨F, M, ρ, _, rs, r, q, fun b F1 M1 H1 s1 q1 => ?_⟩
  cases b with
  | true => exact ⟨F1, M1, ρ, Q, rs.mono s1.same, s1.rel, q1, fun v d F2 M2 H2 s2 => k v d F2 M2 H2 (s1.trans s2)⟩
  | false => exact ⟨F1, M1, ρ, Q, rs.mono s1.same, s1.rel, q1, fun v d F2 M2 H2 s2 => k v d F2 M2 H2 (s1.trans s2)⟩
end

/-! ### blocks and small statements -/
def dNext : DTS := fun D ρ M => D.nx ρ M
def dSeq (t u : DTS) : DTS := fun D ρ M => t { D with nx := u D } ρ M
def dBreak : DTS := fun D ρ M => D.bk ρ M
def dCont : DTS := fun D ρ M => D.ct ρ M
def dDrop (t : DTE) : DTS := fun D ρ M => t ρ M fun _ M1 => D.nx ρ M1
def dRet (t : DTE) : DTS := fun D ρ M => t ρ M D.rt
def dRetN : DTS := fun D _ M => D.rt .non M
def dIfS (c : DTT) (t u : DTS) : DTS := fun D ρ M => c ρ M fun b M1 => if b = true then t D ρ M1 else u D ρ M1
section
variable {X : Cx} {pos : Pos}
theorem dss_nil : DSs X [] dNext := by
  refine PSs.weak pss_nil ?_
  rintro D0 σ H ⟨F, M, ρ, D, rs, r, q, k⟩
  exact k.nx σ ρ F M H (Stp.refl r) rs q
theorem dss_cons {st : Stmt} {rest : List Stmt} {t u : DTS} (h1 : DS X st t) (h2 : DSs X rest u) : DSs X (st :: rest) (dSeq t u) := by
  refine PSs.weak (pss_cons h1 h2) ?_
  rintro D0 σ H ⟨F, M, ρ, D, rs, r, q, k⟩
  refine ⟨F, M, ρ, _, rs, r, q, ⟨fun σ' ρ' F' M' H' s rs' q' => ?_, k.rt, k.bk, k.ct⟩⟩
  exact ⟨F', M', ρ', D, rs', s.rel, q', k.mono s⟩
theorem dss_one {st : Stmt} {t : DTS} (h1 : DS X st t) : DSs X [st] t := pss_one h1
theorem ds_pass : DS X (.Pass pos) dNext := by
  refine PS.weak ps_pass ?_
  rintro D0 σ H ⟨F, M, ρ, D, rs, r, q, k⟩
  exact k.nx σ ρ F M H (Stp.refl r) rs q
theorem ds_break : DS X (.Break pos) dBreak := by
  refine PS.weak ps_break ?_
  rintro D0 σ H ⟨F, M, ρ, D, rs, r, q, k⟩
  exact k.bk σ ρ F M H (Stp.refl r) rs q
theorem ds_continue : DS X (.Continue pos) dCont := by
  refine PS.weak ps_continue ?_
  rintro D0 σ H ⟨F, M, ρ, D, rs, r, q, k⟩
  exact k.ct σ ρ F M H (Stp.refl r) rs q
theorem ds_expr {e : Expr} {t : DTE} (he : DE X e t) (hs : swapsWith e none pos.line X.env = pure false := by rfl) : DS X (.Expr e pos) (dDrop t) := by
  refine PS.weak (ps_expr he hs) ?_
  rintro D0 σ H ⟨F, M, ρ, D, rs, r, q, k⟩
  exact ⟨F, M, ρ, _, rs, r, q, fun v d F1 M1 H1 s1 rp q1 => k.nx σ ρ F1 M1 H1 s1 (rs.mono s1.same) q1⟩
theorem ds_ret {e : Expr} {t : DTE} (he : DE X e t) : DS X (.Return (some e) pos) (dRet t) := by
  refine PS.weak (ps_ret he) ?_
  rintro D0 σ H ⟨F, M, ρ, D, rs, r, q, k⟩
  exact ⟨F, M, ρ, _, rs, r, q, fun v d F1 M1 H1 s1 rp q1 => k.rt v d F1 M1 H1 s1 rp q1⟩
theorem ds_retN : DS X (.Return none pos) dRetN := by
  refine PS.weak ps_retN ?_
  rintro D0 σ H ⟨F, M, ρ, D, rs, r, q, k⟩
  exact k.rt .non .non F M H (Stp.refl r) .non q
theorem ds_if {c : Expr} {a b : List Stmt} {tc : DTT} {t u : DTS} (hc : DT X c tc) (ha : DSs X a t) (hb : DSs X b u) : DS X (.If c a b pos) (dIfS tc t u) := by
  refine PS.weak (ps_if hc ha hb) ?_
  rintro D0 σ H ⟨F, M, ρ, D, rs, r, q, k⟩
  refine ⟨F, M, ρ, _, rs, r, q, fun b F1 M1 H1 s1 q1 => ?_⟩
  cases b with
  | true => exact ⟨F1, M1, ρ, D, rs.mono s1.same, s1.rel, q1, k.mono s1⟩
  | false => exact ⟨F1, M1, ρ, D, rs.mono s1.same, s1.rel, q1, k.mono s1⟩
end

/-! ### targets -/
abbrev DTG := D → Rho → Mp → (Rho → Mp → Prop) → Prop
abbrev DTGs := List D → Rho → Mp → (Rho → Mp → Prop) → Prop
/-- off the places ws the slots are as they were -/
def Off (ws : List Nat) (σ σ' : St) : Prop := σ'.length = σ.length ∧ ∀ j : Nat, j ∉ ws → σ'[j]? = σ[j]?
theorem Off.refl (ws : List Nat) (σ : St) : Off ws σ σ := ⟨rfl, fun _ _ => rfl⟩
theorem Off.trans {ws : List Nat} {σ σ1 σ2 : St} (a : Off ws σ σ1) (b : Off ws σ1 σ2) : Off ws σ σ2 := ⟨b.1.trans a.1, fun j h => (b.2 j h).trans (a.2 j h)⟩
theorem Off.more {ws ws' : List Nat} {σ σ' : St} (a : Off ws σ σ') (h : ∀ i ∈ ws, i ∈ ws') : Off ws' σ σ' := ⟨a.1, fun j q => a.2 j fun z => q (h j z)⟩
theorem Off.set (σ : St) (i : Nat) (v : Option V) : Off [i] σ (σ.set i v) := ⟨List.length_set, fun j h => List.getElem?_set_ne (fun e => h (by simp [e]))⟩
theorem wipe_get {σ : St} : ∀ {vs : List Nat} {j : Nat}, (L2.wipe σ vs)[j]? = if j ∈ vs ∧ j < σ.length then some none else σ[j]?
  | [], j => by simp [L2.wipe]
  | v :: vs, j => by
    unfold L2.wipe
    by_cases e : v = j
    · subst e
      by_cases h : v < σ.length
      · rw [List.getElem?_set_self (by rw [L2.wipe_length]; exact h)]; simp [h]
      · rw [List.getElem?_eq_none (by rw [List.length_set, L2.wipe_length]; omega)]; simp [h]
    · rw [List.getElem?_set_ne e, wipe_get (vs := vs)]
      have : (j ∈ v :: vs) ↔ j ∈ vs := by simp [List.mem_cons, Ne.symm e]
      simp only [this]
theorem Off.wipe {ws : List Nat} {σ σ' : St} (a : Off ws σ σ') : L2.wipe σ' ws = L2.wipe σ ws := by
  apply List.ext_getElem?
  intro j
  rw [wipe_get, wipe_get, a.1]
  by_cases h : j ∈ ws
  · by_cases hl : j < σ.length
    · simp [h, hl]
    · rw [if_neg (by simp [hl]), if_neg (by simp [hl]), List.getElem?_eq_none (by rw [a.1]; omega), List.getElem?_eq_none (by omega)]
  · rw [if_neg (by simp [h]), if_neg (by simp [h])]
    exact a.2 j h
theorem wipe_idem {σ : St} {ws : List Nat} : L2.wipe (L2.wipe σ ws) ws = L2.wipe σ ws := by
  apply List.ext_getElem?
  intro j
  rw [wipe_get, wipe_get, L2.wipe_length]
  by_cases h : j ∈ ws ∧ j < σ.length
  · rw [if_pos h, if_pos h]
  · rw [if_neg h, if_neg h]
def canG (K : PySem.W.Frag) (g : DTG) (ws : List Nat) : TG := fun v σ H Q0 => ∃ F M ρ d Q, Rp K F v d ∧ RelS K F σ ρ ∧ Rel K F M H ∧ g d ρ M Q ∧
  ∀ σ' ρ' F' M' H', Stp K F M H F' M' H' → RelS K F' σ' ρ' → Off ws σ σ' → Q ρ' M' → Q0 σ' H'
def canGs (K : PySem.W.Frag) (g : DTGs) (ws : List Nat) : TGs := fun vs σ H Q0 => ∃ F M ρ ds Q, RpAll K F vs ds ∧ RelS K F σ ρ ∧ Rel K F M H ∧ g ds ρ M Q ∧
  ∀ σ' ρ' F' M' H', Stp K F M H F' M' H' → RelS K F' σ' ρ' → Off ws σ σ' → Q ρ' M' → Q0 σ' H'
abbrev DG (X : Cx) (e : Expr) (g : DTG) (ws : List Nat) : Prop := PG X e (canG X.K g ws)
abbrev DGs (X : Cx) (es : List Expr) (g : DTGs) (ws : List Nat) : Prop := PGs X es (canGs X.K g ws)
section
variable {X : Cx} {pos : Pos}
theorem PG.weak {e : Expr} {t u : TG} (h : PG X e t) (w : ∀ v σ H Q, u v σ H Q → t v σ H Q) : PG X e u := ⟨fun p s σ H v z Q I r q => h.run p s σ H v z Q I r (w v σ H Q q)⟩
theorem PGs.weak {es : List Expr} {t u : TGs} (h : PGs X es t) (w : ∀ v σ H Q, u v σ H Q → t v σ H Q) : PGs X es u := ⟨fun p s σ H v z Q I r q => h.run p s σ H v z Q I r (w v σ H Q q)⟩
def dgName (i : Nat) : DTG := fun d ρ M Q => Q (ρ.set i (some d)) M
theorem dg_name {i : Nat} {x : Str} (hN : X.N.Nodup) (hi : X.N[i]? = some x) (hx : Loc X.env.scope x) (hf : X.fn x = true ∨ X.env.scope.names.lookup x = some .local := by first | exact .inl rfl | exact .inr rfl | assumption) : DG X (.Name x pos) (dgName i) [i] := by
  refine PG.weak (pg_name hN hi hx hf) ?_
  rintro v σ H Q0 ⟨F, M, ρ, d, Q, rp, rs, r, q, k⟩
  exact k _ _ F M H (Stp.refl r) (rs.set rp i) (Off.set σ i _) q
def dgNil : DTGs := fun ds ρ M Q => ds = [] ∧ Q ρ M
def dgCons (t : DTG) (u : DTGs) : DTGs := fun ds ρ M Q => ∃ d r, ds = d :: r ∧ t d ρ M fun ρ1 M1 => u r ρ1 M1 Q
theorem dgs_nil : DGs X [] dgNil [] := by
  refine PGs.weak pgs_nil ?_
  rintro vs σ H Q0 ⟨F, M, ρ, ds, Q, rp, rs, r, ⟨e, q⟩, k⟩
  subst e
  cases rp
  exact ⟨rfl, k _ _ F M H (Stp.refl r) rs (Off.refl _ _) q⟩
theorem dgs_cons {e : Expr} {es : List Expr} {t : DTG} {u : DTGs} {w1 w2 : List Nat} (h1 : DG X e t w1) (h2 : DGs X es u w2)
    (hs : (assignEach (e :: es) X.env).map (·.2) = assign e X.env :: (assignEach es X.env).map (·.2) := by rfl) : DGs X (e :: es) (dgCons t u) (w1 ++ w2) := by
  refine PGs.weak (pgs_cons h1 h2 hs) ?_
  rintro vs σ H Q0 ⟨F, M, ρ, ds, Q, rp, rs, r, ⟨d, rr, e, q⟩, k⟩
  subst e
  cases rp with
  | cons rh rt =>
    refine ⟨_, _, rfl, F, M, ρ, d, _, rh, rs, r, q, fun σ1 ρ1 F1 M1 H1 s1 rs1 o1 q1 => ?_⟩
    exact ⟨F1, M1, ρ1, rr, Q, rt.mono s1.same, rs1, s1.rel, q1, fun σ2 ρ2 F2 M2 H2 s2 rs2 o2 => k σ2 ρ2 F2 M2 H2 (s1.trans s2) rs2 ((o1.more fun i h => List.mem_append_left _ h).trans (o2.more fun i h => List.mem_append_right _ h))⟩
def dgTup (n : Nat) (t : DTGs) : DTG := fun d ρ M Q => ∃ ds, d = .tup ds ∧ ds.length = n ∧ t ds ρ M Q
theorem dg_tup {es : List Expr} {k : Nat} {t : DTGs} {n : Nat} {ws : List Nat} (hc : X.calm = true) (h : DGs X es t ws)
    (hn : (assignEach es X.env).length = n := by rfl) (hst : (assignEach es X.env).findIdx? (·.1) = none := by rfl) : DG X (.Tuple es k pos) (dgTup n t) ws := by
  refine PG.weak (pg_tup hc h hn hst) ?_
  rintro v σ H Q0 ⟨F, M, ρ, d, Q, rp, rs, r, ⟨ds, e, hl, q⟩, k⟩
  subst e
  cases rp with
  | tup sq ra =>
    have sq' := Same.tseq r.sub sq
    exact ⟨_, _, rfl, sq', by rw [ra.length]; exact hl, F, M, ρ, ds, Q, ra, rs, r, q, k⟩
/-- o[i] = v -/
abbrev DTSet := D → D → D → Mp → (Mp → Prop) → Prop
def canSet (K : PySem.W.Frag) (t : DTSet) : TSet := fun o i v H Q0 => ∃ F M od id vd Q, Rp K F o od ∧ Rp K F i id ∧ Rp K F v vd ∧ Rel K F M H ∧ t od id vd M Q ∧
  ∀ F' M' H', Stp K F M H F' M' H' → Q M' → Q0 H'
theorem PSet.weak {t u : TSet} (h : PSet X t) (w : ∀ o i v H Q, u o i v H Q → t o i v H Q) : PSet X u := fun p s σ H o i v ov iv z Q I r1 r2 r3 q => h p s σ H o i v ov iv z Q I r1 r2 r3 (w o i v H Q q)
def dgSub (to ti : DTE) (t : DTSet) : DTG := fun d ρ M Q => to ρ M fun o M1 => ti ρ M1 fun i M2 => t o i d M2 fun M3 => Q ρ M3
theorem dg_sub {o i : Expr} {to ti : DTE} {t : DTSet} (ho : DE X o to) (hi : DE X i ti) (hs : PSet X (canSet X.K t))
    (ha : ∀ v, assign (.Subscript o i pos) X.env v = (do
      let ov ← holding [v] (eval o X.env)
      let iv ← holding [v, ov] (eval i X.env)
      standAt pos
      holding [v, ov, iv] (setItem ov iv v)
      release [v, ov, iv] []) := by intro _; rfl) : DG X (.Subscript o i pos) (dgSub to ti t) [] := by
  refine PG.weak (pg_sub ho hi hs ha) ?_
  rintro v σ H Q0 ⟨F, M, ρ, d, Q, rp, rs, r, q, k⟩
  refine ⟨F, M, ρ, _, rs, r, q, fun ov od F1 M1 H1 s1 rp1 q1 => ?_⟩
  refine ⟨F1, M1, ρ, _, rs.mono s1.same, s1.rel, q1, fun iv id F2 M2 H2 s2 rp2 q2 => ?_⟩
  have s12 := s1.trans s2
  exact ⟨F2, M2, od, id, d, _, rp1.mono s2.same, rp2, rp.mono s12.same, s2.rel, q2, fun F3 M3 H3 s3 q3 => k σ ρ F3 M3 H3 (s12.trans s3) (rs.mono (s12.trans s3).same) (Off.refl _ _) q3⟩
def dAsg (t : DTE) (g : DTG) : DTS := fun D ρ M => t ρ M fun d M1 => g d ρ M1 D.nx
theorem can_asg {K : PySem.W.Frag} {t : DTE} {g : DTG} {ws : List Nat} {D0 : Ends} {σ : St} {H : Hp} (h : canS K (dAsg t g) D0 σ H) : tAsg (canE K t) (canG K g ws) D0 σ H := by
  obtain ⟨F, M, ρ, D, rs, r, q, k⟩ := h
  refine ⟨F, M, ρ, _, rs, r, q, fun v d F1 M1 H1 s1 rp q1 => ?_⟩
  exact ⟨F1, M1, ρ, d, D.nx, rp, rs.mono s1.same, s1.rel, q1, fun σ2 ρ2 F2 M2 H2 s2 rs2 _ q2 => k.nx σ2 ρ2 F2 M2 H2 (s1.trans s2) rs2 q2⟩
theorem ds_asg {tg e : Expr} {t : DTE} {g : DTG} {ws : List Nat} (he : DE X e t) (hg : DG X tg g ws) (hs : swapsWithSole [tg] e pos.line X.env = pure false := by rfl) (hw : swappedStores [tg] e X.env = pure none := by rfl)
    (h1 : (assignEach [tg] X.env).map (·.2) = [assign tg X.env] := by rfl) : DS X (.Assign [tg] e pos) (dAsg t g) :=
  PS.weak (ps_asg he hg hs hw h1) fun _ _ _ q => can_asg q
theorem ds_set {i : Nat} {x : Str} {e : Expr} {t : DTE} {pos' : Pos} (hN : X.N.Nodup) (hi : X.N[i]? = some x) (hx : Loc X.env.scope x) (he : DE X e t) (hs : swapsWith e (some (.Name x pos')) pos.line X.env = pure false := by rfl) (hf : X.fn x = true ∨ X.env.scope.names.lookup x = some .local := by first | exact .inl rfl | exact .inr rfl | assumption) :
    DS X (.Assign [.Name x pos'] e pos) (dAsg t (dgName i)) := by
  refine PS.weak (ps_set hN hi hx he hs hf) ?_
  rintro D0 σ H ⟨F, M, ρ, D, rs, r, q, k⟩
  refine ⟨F, M, ρ, _, rs, r, q, fun v d F1 M1 H1 s1 rp q1 => ?_⟩
  exact k.nx _ _ F1 M1 H1 s1 ((rs.mono s1.same).set rp i) q1
def dPar (i j : Nat) (t : DTA) : DTS := fun D ρ M => t ρ M fun ds M1 => ∃ d e, ds = [d, e] ∧ D.nx ((ρ.set i (some d)).set j (some e)) M1
theorem ds_par {i j : Nat} {x y : Str} {a b : Expr} {t : DTA} {px py pt : Pos} {kt k2 pt2} (hc : X.calm = true) (hN : X.N.Nodup) (hi : X.N[i]? = some x) (hj : X.N[j]? = some y) (hij : i ≠ j)
    (hx : X.env.scope.names.lookup x = some .local) (hy : X.env.scope.names.lookup y = some .local) (ha : DA X [a, b] t)
    (hw : swappedStores [.Tuple [.Name x px, .Name y py] kt pt] (.Tuple [a, b] k2 pt2) X.env = pure (some [x, y]) := by rfl) : DS X (.Assign [.Tuple [.Name x px, .Name y py] kt pt] (.Tuple [a, b] k2 pt2) pos) (dPar i j t) := by
  refine PS.weak (ps_par hc hN hi hj hij hx hy ha hw) ?_
  rintro D0 σ H ⟨F, M, ρ, D, rs, r, q, k⟩
  refine ⟨F, M, ρ, _, rs, r, q, fun vs ds F1 M1 H1 s1 rp ⟨d, e, he, q1⟩ => ?_⟩
  subst he
  cases rp with
  | cons r1 rt =>
    cases rt with
    | cons r2 rt2 =>
      cases rt2
      exact ⟨_, _, rfl, k.nx _ _ F1 M1 H1 s1 (((rs.mono s1.same).set r1 i).set r2 j) q1⟩
end

/-! ### while -/
def dWhile (c : DTT) (tb : DTS) : DTS := fun D ρ M => ∃ W : Nat → Rho → Mp → Prop, (∃ m, W m ρ M) ∧ ∀ m ρ M, W m ρ M →
  c ρ M fun b M1 => if b = true then ∃ N : Rho → Mp → Prop, (∀ ρ' M', N ρ' M' → ∃ m', m' < m ∧ W m' ρ' M') ∧ tb { D with nx := N, ct := N, bk := D.nx } ρ M1 else D.nx ρ M1
section
variable {X : Cx} {pos : Pos}
theorem ds_while {c : Expr} {body : List Stmt} {tc : DTT} {tb : DTS} (hp : PassesOwn (model X.prog X.w) X.A X.env X.xe) (hc : DT X c tc) (hb : DSs X body tb) : DS X (.While c body [] pos) (dWhile tc tb) := by
  refine PS.weak (ps_while hp hc hb) ?_
  rintro D0 σ H ⟨F, M, ρ, D, rs, r, ⟨W, ⟨m0, w0⟩, turn⟩, k⟩
  refine ⟨fun m σ' H' => ∃ F1 M1 ρ1, Stp X.K F M H F1 M1 H' ∧ RelS X.K F1 σ' ρ1 ∧ W m ρ1 M1, ⟨m0, F, M, ρ, Stp.refl r, rs, w0⟩, ?_⟩
  rintro m σ1 H1 ⟨F1, M1, ρ1, s1, rs1, w1⟩
  refine ⟨F1, M1, ρ1, _, rs1, s1.rel, turn m ρ1 M1 w1, fun b F2 M2 H2 s2 q2 => ?_⟩
  have s12 := s1.trans s2
  cases b with
  | false => exact k.nx σ1 ρ1 F2 M2 H2 s12 (rs1.mono s2.same) q2
  | true =>
    obtain ⟨N, hN, q2⟩ := q2
    refine iteT ?_
    refine ⟨fun σ' H' => ∃ m', m' < m ∧ ∃ F1 M1 ρ1, Stp X.K F M H F1 M1 H' ∧ RelS X.K F1 σ' ρ1 ∧ W m' ρ1 M1, fun σ' H' h => h, ?_⟩
    refine ⟨F2, M2, ρ1, _, rs1.mono s2.same, s2.rel, q2, ⟨fun σ' ρ' F' M' H' s rs' n => ?_, fun v d F' M' H' s => k.rt v d F' M' H' (s12.trans s), fun σ' ρ' F' M' H' s => k.nx σ' ρ' F' M' H' (s12.trans s), fun σ' ρ' F' M' H' s rs' n => ?_⟩⟩
    all_goals
      obtain ⟨m', hm, w'⟩ := hN ρ' M' n
      exact ⟨m', hm, F', M', ρ', s12.trans s, rs', w'⟩
end

/-! ### what is walked -/
structure JW (K : PySem.W.Frag) (F : Hp) (J : It) (items : List D) (G : Mp → Prop) : Prop where
  run : ∀ F1 M1 H1, Same F F1 → Rel K F1 M1 H1 → G M1 → J.stop items.length H1 ∧ ∀ (i : Nat) (d : D), items[i]? = some d → J.go i H1 ∧ ∀ x H2, J.yld i H1 x H2 → ∃ F2, Stp K F1 M1 H1 F2 M1 H2 ∧ Rp K F2 x d
abbrev DTI := Rho → Mp → (List D → (Mp → Prop) → Mp → Prop) → Prop
def canI (K : PySem.W.Frag) (wi : DTI) : TI := fun σ H R0 => ∃ F M ρ R, RelS K F σ ρ ∧ Rel K F M H ∧ wi ρ M R ∧
  ∀ J items G F' M' H', Stp K F M H F' M' H' → JW K F' J items G → R items G M' → R0 J H'
abbrev DI (X : Cx) (tg iter : Expr) (wi : DTI) : Prop := PI X tg iter (canI X.K wi)
section
variable {X : Cx} {pos : Pos}
theorem PI.weak {tg e : Expr} {t u : TI} (h : PI X tg e t) (w : ∀ σ H R, u σ H R → t σ H R) : PI X tg e u := ⟨fun p s σ H R I q => h.run p s σ H R I (w σ H R q)⟩
/-- a for over the items -/
def forW (g : DTG) (tb : DTS) (D : DEnds) (G : Mp → Prop) : List DL.D → Rho → Mp → Prop
  | [], ρ, M => G M ∧ D.nx ρ M
  | x :: xs, ρ, M => G M ∧ g x ρ M fun ρ2 M2 => tb { D with nx := forW g tb D G xs, ct := forW g tb D G xs, bk := D.nx } ρ2 M2
def dFor (wi : DTI) (g : DTG) (tb : DTS) : DTS := fun D ρ M => wi ρ M fun items G M1 => forW g tb D G items ρ M1
theorem ds_for {tg iter : Expr} {body : List Stmt} {wi : DTI} {g : DTG} {ws : List Nat} {tb : DTS} (hp : PassesOwn (model X.prog X.w) X.A X.env X.xe) (hc : X.calm = true) (hi : DI X tg iter wi) (hg : DG X tg g ws) (hb : DSs X body tb)
    (hs : ∀ x, foldedSetIterable iter X.env x = pure x := by intro _; rfl) : DS X (.For tg iter body [] pos) (dFor wi g tb) := by
  refine PS.weak (ps_for hp hc hi hg hb hs) ?_
  rintro D0 σ H ⟨F, M, ρ, D, rs, r, q, k⟩
  refine ⟨F, M, ρ, _, rs, r, q, fun J items G F1 M1 H1 s1 jw q1 => ?_⟩
  refine ⟨fun i m σ' H' => m = items.length - i ∧ i ≤ items.length ∧ ∃ F2 M2 ρ2, Stp X.K F1 M1 H1 F2 M2 H' ∧ RelS X.K F2 σ' ρ2 ∧ forW g tb D G (items.drop i) ρ2 M2,
    ⟨items.length, by simp, Nat.zero_le _, F1, M1, ρ, Stp.refl s1.rel, rs.mono s1.same, q1⟩, ?_⟩
  rintro i m σ' H' ⟨rfl, hi, F2, M2, ρ2, s2, rs2, q2⟩
  by_cases hlt : i < items.length
  · rw [List.drop_eq_getElem_cons hlt] at q2
    obtain ⟨g2, q2⟩ := q2
    have jj := (jw.run F2 M2 H' s2.same s2.rel g2).2 i items[i] (List.getElem?_eq_getElem hlt)
    refine .inr ⟨jj.1, fun σ3 H3 => ∃ m', m' < items.length - i ∧ (m' = items.length - (i + 1) ∧ i + 1 ≤ items.length ∧ ∃ F2 M2 ρ2, Stp X.K F1 M1 H1 F2 M2 H3 ∧ RelS X.K F2 σ3 ρ2 ∧ forW g tb D G (items.drop (i + 1)) ρ2 M2), fun σ3 H3 h => h, fun x H3 y => ?_⟩
    obtain ⟨F3, s3, rp⟩ := jj.2 x H3 y
    have s23 := s2.trans s3
    refine ⟨F3, M2, ρ2, items[i], _, rp, rs2.mono s3.same, s3.rel, q2, fun σ4 ρ4 F4 M4 H4 s4 rs4 _ q4 => ?_⟩
    have s24 := s23.trans s4
    refine ⟨F4, M4, ρ4, _, rs4, s4.rel, q4, ⟨fun σ5 ρ5 F5 M5 H5 s5 rs5 n => ?_, fun v d F' M' H' s => k.rt v d F' M' H' ((s1.trans s24).trans s), fun a b F' M' H' s => k.nx a b F' M' H' ((s1.trans s24).trans s), fun σ5 ρ5 F5 M5 H5 s5 rs5 n => ?_⟩⟩
    all_goals exact ⟨items.length - (i + 1), by omega, rfl, hlt, F5, M5, ρ5, s24.trans s5, rs5, n⟩
  · have e : i = items.length := by omega
    subst e
    rw [List.drop_length] at q2
    obtain ⟨g2, q2⟩ := q2
    exact .inl ⟨(jw.run F2 M2 H' s2.same s2.rel g2).1, k.nx σ' ρ2 F2 M2 H' (s1.trans s2) rs2 q2⟩

/-! ### list comprehensions -/
def dYes : DTT := fun _ M Q => Q true M
abbrev DTs (X : Cx) (ifs : List Expr) (t : DTT) : Prop := PTs X ifs (canT X.K t)
theorem dts_nil : DTs X [] dYes := by
  refine PTs.weak pts_nil ?_
  rintro σ H Q0 ⟨F, M, ρ, Q, rs, r, q, k⟩
  exact k true F M H (Stp.refl r) q
theorem dts_one {c : Expr} {t : DTT} (h : DT X c t) : DTs X [c] t := pts_one h
def lcW (g : DTG) (tt : DTT) (te : DTE) (G : Mp → Prop) (ρ : Rho) (k : List DL.D → Mp → Prop) : List DL.D → List DL.D → Mp → Prop
  | [], acc, M => G M ∧ k acc M
  | x :: xs, acc, M => G M ∧ g x ρ M fun ρ2 M2 => tt ρ2 M2 fun b M3 => if b = true then te ρ2 M3 fun d M4 => acc.length < sizeLine ∧ lcW g tt te G ρ k xs (acc ++ [d]) M4 else lcW g tt te G ρ k xs acc M3
def dLc (fz : Bool) (wi : DTI) (g : DTG) (tt : DTT) (te : DTE) (vs : List Nat) : DTE := fun ρ M Q => wi ρ M fun items G M1 => lcW g tt te G (dwipe ρ vs) (fun ds M2 => newL fz ds M2 Q) items [] M1
theorem can_lc {K : PySem.W.Frag} {fz : Bool} {wi : DTI} {g : DTG} {ws : List Nat} {tt : DTT} {te : DTE} {vs : List Nat} {σ : St} {H : Hp} {Q0 : VK} (hv : ∀ i ∈ ws, i ∈ vs) (h : canE K (dLc fz wi g tt te vs) σ H Q0) :
    tLc (canI K wi) (canG K g ws) (canT K tt) (canE K te) vs σ H Q0 := by
  obtain ⟨F, M, ρ, Q, rs, r, q, k⟩ := h
  refine ⟨F, M, ρ, _, rs, r, q, fun J items G F1 M1 H1 s1 jw q1 => ?_⟩
  intro D hD
  have fD : F1 D = none := s1.rel.fnone hD
  have mD : M1 D = none := s1.rel.mnone hD
  -- the new list stands beside what is told
  let Pv : Nat → Hp → Prop := fun i H' => i ≤ items.length ∧ ∃ F2 M2 acc xs, Stp K F1 M1 H1 F2 M2 H' ∧ F2 D = none ∧ M2 D = none ∧ H' D = some (.lst xs) ∧ RpAll K F2 xs acc ∧ lcW g tt te G (dwipe ρ vs) (fun ds M2 => newL fz ds M2 Q) (items.drop i) acc M2
  have s0 : Stp K F1 M1 H1 F1 M1 (upd H1 D (.lst [])) := by
    refine ⟨Same.refl F1, ⟨fun b u z => ?_, fun a m z => ?_⟩, fun a o h f m => ?_⟩
    · rw [upd_ne (ne_of_none (s1.rel.sub _ _ z) hD)]; exact s1.rel.sub _ _ z
    · obtain ⟨f, o, e, rr⟩ := s1.rel.mt a m z
      exact ⟨f, o, by rw [upd_ne (ne_of_none e hD)]; exact e, rr⟩
    · rw [upd_ne (ne_of_none h hD)]; exact ⟨h, f, m⟩
  refine ⟨fun i m H' => m = items.length - i ∧ Pv i H', ⟨items.length, by simp, Nat.zero_le _, F1, M1, [], [], s0, fD, mD, upd_same, .nil, q1⟩, ?_⟩
  rintro i m H2 ⟨rfl, hi, F2, M2, acc, xs, s2, f2, m2, h2, ra, q2⟩
  by_cases hlt : i < items.length
  · rw [List.drop_eq_getElem_cons hlt] at q2
    obtain ⟨g2, q2⟩ := q2
    have jj := (jw.run F2 M2 H2 s2.same s2.rel g2).2 i items[i] (List.getElem?_eq_getElem hlt)
    refine .inr ⟨jj.1, fun H3 => ∃ m', m' < items.length - i ∧ (m' = items.length - (i + 1) ∧ Pv (i + 1) H3), fun H3 h => h, fun x H3 y => ?_⟩
    obtain ⟨F3, s3, rp⟩ := jj.2 x H3 y
    obtain ⟨h3, f3, m3⟩ := s3.fr D _ h2 f2 m2
    have s23 := s2.trans s3
    refine ⟨F3, M2, dwipe ρ vs, items[i], _, rp, ((rs.mono s1.same).mono s23.same).wipe vs, s3.rel, q2, fun σ4 ρ4 F4 M4 H4 s4 rs4 o4 q4 => ?_⟩
    obtain ⟨h4, f4, m4⟩ := s4.fr D _ h3 f3 m3
    have s24 := s23.trans s4
    refine ⟨(o4.more hv).wipe.trans wipe_idem, F4, M4, ρ4, _, rs4, s4.rel, q4, fun b F5 M5 H5 s5 q5 => ?_⟩
    obtain ⟨h5, f5, m5⟩ := s5.fr D _ h4 f4 m4
    have s25 := s24.trans s5
    cases b with
    | false =>
      refine iteF ?_
      exact ⟨items.length - (i + 1), by omega, rfl, hlt, F5, M5, acc, xs, s25, f5, m5, h5, (((ra.mono s3.same).mono s4.same).mono s5.same), q5⟩
    | true =>
      refine iteT ?_
      refine ⟨F5, M5, ρ4, _, rs4.mono s5.same, s5.rel, q5, fun v d F6 M6 H6 s6 rp6 ⟨hl, q6⟩ => ?_⟩
      obtain ⟨h6, f6, m6⟩ := s6.fr D _ h5 f5 m5
      have s26 := s25.trans s6
      have ra6 : RpAll K F6 (xs ++ [v]) (acc ++ [d]) := (((((ra.mono s3.same).mono s4.same).mono s5.same).mono s6.same)).append (.cons rp6 .nil)
      refine ⟨xs, h6, by rw [ra.length]; exact hl, items.length - (i + 1), by omega, rfl, hlt, F6, M6, acc ++ [d], xs ++ [v], ?_, f6, m6, upd_same, ra6, q6⟩
      refine ⟨s26.same, ⟨fun b u z => ?_, fun a m z => ?_⟩, fun a o h f m => ?_⟩
      · rw [upd_ne (ne_of_none z f6)]; exact s6.rel.sub _ _ z
      · obtain ⟨f, o, e, rr⟩ := s6.rel.mt a m z
        have ne : a ≠ D := fun e => by subst e; rw [m6] at z; cases z
        exact ⟨f, o, by rw [upd_ne ne]; exact e, rr⟩
      · obtain ⟨h', f', m'⟩ := s26.fr a o h f m
        rw [upd_ne (ne_of_none h hD)]; exact ⟨h', f', m'⟩
  · have e : i = items.length := by omega
    subst e
    rw [List.drop_length] at q2
    obtain ⟨g2, q2⟩ := q2
    refine .inl ⟨(jw.run F2 M2 H2 s2.same s2.rel g2).1, ?_⟩
    have sn : Same F2 (upd F2 D (.lst xs)) := same_new f2
    cases fz with
    | true =>
      refine k (.ref D) (.lst acc) (upd F2 D (.lst xs)) M2 H2 (s1.trans ⟨s2.same.trans sn, ⟨fun b u z => ?_, fun a m z => ?_⟩, fun a o h f m => ?_⟩) (.lst upd_same (ra.mono sn)) q2
      · by_cases e : b = D
        · subst e; rw [upd_same] at z; cases z; exact h2
        · rw [upd_ne e] at z; exact s2.rel.sub _ _ z
      · obtain ⟨f, o, e, rr⟩ := s2.rel.mt a m z
        have ne : a ≠ D := fun e => by subst e; rw [m2] at z; cases z
        exact ⟨by rw [upd_ne ne]; exact f, o, e, rr.mono sn⟩
      · obtain ⟨h', f', m'⟩ := s2.fr a o h f m
        exact ⟨h', by rw [upd_ne (ne_of_none h hD)]; exact f', m'⟩
    | false =>
      refine k (.ref D) (.ref D) F2 (mu M2 D (.lst acc)) H2 (s1.trans ⟨s2.same, ⟨s2.rel.sub, fun a m z => ?_⟩, fun a o h f m => ?_⟩) (.ref D) (q2 D m2)
      · by_cases e : a = D
        · subst e; rw [mu_same] at z; cases z; exact ⟨f2, _, h2, ra⟩
        · rw [mu_ne e] at z; exact s2.rel.mt a m z
      · obtain ⟨h', f', m'⟩ := s2.fr a o h f m
        exact ⟨h', f', by rw [mu_ne (ne_of_none h hD)]; exact m'⟩
section
variable {X : Cx} {pos : Pos}
theorem de_lc (fz : Bool) {elt tg iter : Expr} {ifs : List Expr} {scope : Scope} {own : List (Str × Nat)} {wi : DTI} {g : DTG} {ws : List Nat} {tt : DTT} {te : DTE} (hc : X.calm = true) (hN : X.N.Nodup) (hi : DI X tg iter wi) (ok : BlkOk X.N X.env.scope scope own) (hv : ∀ i ∈ ws, i ∈ own.map (·.2))
    (hg : ∀ (s : Shared) (H : Hp) (C : Addr) (cl : List (Str × Addr)) (fp : List Addr), DG (X.blk s H scope (compEnvC scope cl C X.env) fp) tg g ws) (ht : ∀ (s : Shared) (H : Hp) (C : Addr) (cl : List (Str × Addr)) (fp : List Addr), DTs (X.blk s H scope (compEnvC scope cl C X.env) fp) ifs tt)
    (he : ∀ (s : Shared) (H : Hp) (C : Addr) (cl : List (Str × Addr)) (fp : List Addr), DE (X.blk s H scope (compEnvC scope cl C X.env) fp) elt te) (hs : ∀ x, foldedSetIterable iter X.env x = pure x := by intro _; rfl) :
    DE X (.ListComp elt [⟨tg, iter, ifs, 0⟩] scope pos) (dLc fz wi g tt te (own.map (·.2))) :=
  PE.weak (pe_lc hc hN hi ok hg ht he hs) fun _ _ _ q => can_lc hv q
theorem ds_setLc (fz : Bool) {i : Nat} {y : Str} {py : Pos} {elt tg iter : Expr} {ifs : List Expr} {scope : Scope} {own : List (Str × Nat)} {spos : Pos} {wi : DTI} {g : DTG} {ws : List Nat} {tt : DTT} {te : DTE} (hc : X.calm = true) (hN : X.N.Nodup) (hy : X.N[i]? = some y) (hyl : X.env.scope.names.lookup y = some .local)
    (hsw : swapsWith (.ListComp elt [⟨tg, iter, ifs, 0⟩] scope pos) (some (.Name y py)) spos.line X.env = pure true) (hi : DI X tg iter wi) (ok : BlkOk X.N X.env.scope scope own) (hv : ∀ i ∈ ws, i ∈ own.map (·.2))
    (hg : ∀ (s : Shared) (H : Hp) (C : Addr) (cl : List (Str × Addr)) (fp : List Addr), DG (X.blk s H scope (compEnvC scope cl C X.env) fp) tg g ws) (ht : ∀ (s : Shared) (H : Hp) (C : Addr) (cl : List (Str × Addr)) (fp : List Addr), DTs (X.blk s H scope (compEnvC scope cl C X.env) fp) ifs tt)
    (he : ∀ (s : Shared) (H : Hp) (C : Addr) (cl : List (Str × Addr)) (fp : List Addr), DE (X.blk s H scope (compEnvC scope cl C X.env) fp) elt te) (hs : ∀ x, foldedSetIterable iter X.env x = pure x := by intro _; rfl) :
    DS X (.Assign [.Name y py] (.ListComp elt [⟨tg, iter, ifs, 0⟩] scope pos) spos) (dAsg (dLc fz wi g tt te (own.map (·.2))) (dgName i)) := by
  refine PS.weak (ps_setLc (g := canG X.K g ws) (tt := canT X.K tt) (te := canE X.K te) hc hN hy hyl hsw hi ok hg ht he hs) ?_
  rintro D0 σ H ⟨F, M, ρ, D, rs, r, q, k⟩
  refine can_lc hv ⟨F, M, ρ, _, rs, r, q, fun v d F1 M1 H1 s1 rp q1 => ?_⟩
  exact k.nx _ _ F1 M1 H1 s1 ((rs.mono s1.same).set rp i) q1
end

end
end DL

/-! DG: the promise of a def where no repr is under way around it (guards = []); its call, its proof by the body, the law's end. -/
namespace DL
open PySem PySem.Spec L2
open PyProof.Rows hiding St

/-- as FnOk, but asked only where no repr is under way -/
structure GnOk (P : Program) (w : World) (K : PySem.W.Frag) (mg : Str → Option Value) (base : Heap) (CX : CXT) (k : Nat) (f : Addr) (fd : FuncData) (ps : List Str) (sp : Sp) : Prop where
  many : ∀ {vs H Q E}, sp vs H Q E → vs.length = ps.length
  go : ∀ {A : Around} {outer : List Env} {s : Shared} {H : Hp} {args : Args} {us : List Value} {vs : List V} {Q : VK} {E : XK},
    Room k A → A.guards = some [] → Env0 P w K mg base A outer s H → BindsTo s fd args (ps.zip us) → Vals vs us → sp vs H Q E →
    codeAny (model P w) A (.call (.ref f) args) (CR CX outer P w H s Q E) s
theorem GnOk.up {P : Program} {w : World} {K : PySem.W.Frag} {mg : Str → Option Value} {base : Heap} {CX : CXT} {j k : Nat} {f : Addr} {fd : FuncData} {ps : List Str} {sp : Sp}
    (G : GnOk P w K mg base CX j f fd ps sp) (h : j ≤ k) : GnOk P w K mg base CX k f fd ps sp :=
  ⟨G.many, fun r => G.go (r.mono h)⟩
section
variable {X : Cx} {CX : CXT} {k : Nat} {f : Addr} {fd : FuncData} {ps : List Str} {sp : Sp} {dvs : List V} {ds : List Value} {E : XK} {x : Str} {p pos : Pos} {e : Expr} {es : List Expr} {t : TA}
theorem run_gn {pins : List (Addr × Obj)} {σ : St} {H : Hp} {s : Shared} {Q : VK} {us : List Value} {vs : List V}
    (G : GnOk X.prog X.w X.K X.mg X.base CX k f fd ps sp) (room : Room k X.A) (gu : X.A.guards = some []) (bi : Binds X.K fd ps ds) (dv : Vals dvs ds) (out : Passes CX X E)
    (I : Inv X pins σ H s) (rv : Vals vs us) (q : sp (vs ++ dvs) H Q E) : wpAny (model X.prog X.w) X.A (call (.ref f) us) (EP X pins σ Q) X.xe s := by
  have all := rv.append dv
  have cnt : (us ++ ds).length = ps.length := all.length.symm.trans (G.many q)
  refine wpAny_call (codeAny_mono (G.go room gu I.env0 (bi s us I.kIn cnt) all q) fun res s' hq => ?_)
  match res, hq with
  | .error er, hq => exact out pins σ H s er s' I hq
  | .ok (.ret u), hq => exact I.after hq
  | .ok .next, hq => exact hq.elim
  | .ok .brk, hq => exact hq.elim
  | .ok .cont, hq => exact hq.elim
theorem pe_gcall (G : GnOk X.prog X.w X.K X.mg X.base CX k f fd ps sp) (room : Room k X.A) (gu : X.A.guards = some []) (hg : Gl X x) (m : X.mg x = some (.ref f)) (kp : PySem.W.keepIn X.K (.ref f) = true)
    (bi : Binds X.K fd ps ds) (dv : Vals dvs ds) (out : Passes CX X E) (ha : PA X (e :: es) t) (nd : (x == ("__debug__" : Str)) = false) (se : starEach (e :: es) X.env = (false, eval e X.env) :: starEach es X.env)
    (ns : (backTo pos (starEach es X.env)).any (·.1) = false) : PE X (.Call (.Name x p) (e :: es) [] pos) (tCall sp dvs E t) := by
  constructor
  intro pins s σ H Q I q
  refine wpAny_Call_Name_kw (ld_glob I hg m ?_ nd)
  refine PySem.W.callWith_K (h₀ := X.base) I.ok.mod.kin kp (thn (ha.run pos pins s σ H _ I q) ?_) se ns
  rintro us s1 ⟨vs, H1, I1, rv, q1⟩
  exact ⟨I1.kIn, run_gn G room gu bi dv out I1 rv q1⟩
theorem pe_gcall0 (G : GnOk X.prog X.w X.K X.mg X.base CX k f fd ps sp) (room : Room k X.A) (gu : X.A.guards = some []) (hg : Gl X x) (m : X.mg x = some (.ref f)) (kp : PySem.W.keepIn X.K (.ref f) = true)
    (bi : Binds X.K fd ps ds) (dv : Vals dvs ds) (out : Passes CX X E) (nd : (x == ("__debug__" : Str)) = false) : PE X (.Call (.Name x p) [] [] pos) (tCall sp dvs E tNil) := by
  constructor
  intro pins s σ H Q I q
  refine wpAny_Call_Name_kw (ld_glob I hg m ?_ nd)
  exact PySem.W.callWith_K0 I.kIn kp (run_gn (us := []) G room gu bi dv out I .nil q)
end

/-- a def by its body, no repr under way -/
theorem gfn_of {CX : CXT} {P : Program} {w : World} {K : PySem.W.Frag} {mg : Str → Option Value} {base : Heap} {k : Nat} {f : Addr} {nm qual : Str} {par : Arguments} {body : List Stmt} {scope : Scope} {dV kV doc pm cd ct oc : Value} {an od : Option Addr}
    {osl : Array (Option Value)} {N ps : List Str} {sp : Sp} (lk : K.lookup f = some ⟨oc, od, .func (PySem.W.fnOf nm qual par body scope dV kV doc pm an cd ct), osl⟩) (hcd : PySem.W.codeIn K cd qual = true) (S : FnScope N ps scope)
    (many : ∀ {vs H Q E}, sp vs H Q E → vs.length = ps.length)
    (run : ∀ (A : Around) (outer : List Env) (s : Shared) (H : Hp) (vs : List V) (Q : VK) (E : XK), Room k (A.deeper (envOfC qual scope s.heap.objs.size f cd)) → (A.deeper (envOfC qual scope s.heap.objs.size f cd)).guards = some [] → sp vs H Q E →
      ∃ t, PSs (cxOf CX P w K mg base N qual scope f cd A outer s H E) body t ∧ t { nx := fun _ H' => Q .non H', rt := Q } (L2.start N vs) H) :
    GnOk P w K mg base CX (k + 1) f (PySem.W.fnOf nm qual par body scope dV kV doc pm an cd ct) ps sp := by
  constructor
  · exact many
  intro A outer s H args us vs Q E room gu e0 hb rv hs
  have cnt := many hs
  have keep : ∀ b o, base.get? b = some o → s.heap.get? b = some o := fun b o z => (e0.bs b o z).1
  have KX : K.In s.heap := e0.mod.kin.keeps keep
  have par : ∀ y ∈ ps.zip us, scope.names.lookup y.1 = some .local ∨ (scope.names.lookup y.1 = some .cell ∧ ((cellsFrom (s.heap.objs.size + 1) scope.names []).lookup y.1).isSome = true) := by
    rintro ⟨n, v⟩ hy
    cases S.par n (List.of_mem_zip hy).1 with
    | inl z => exact .inl z
    | inr z => exact .inr ⟨z, PySem.W.cellsFrom_some _ _ _ (.inl z)⟩
  refine codeAny_call_function room.depth (KX _ _ lk) rfl S.co S.gen rfl (PySem.W.codeRec_of KX hcd) (hb _ _ _ _ ?_)
  refine wpAny_newFunctionEnv_cells S.kind par ?_
  rintro env rfl s1 x
  refine ⟨(e0.mod.nolimit.keeps keep).keeps x.toInCall.keep, codeAny_func ?_⟩
  obtain ⟨t, ht, hq⟩ := run A outer s H vs Q E (room.deeper _) gu hs
  have I : Inv (cxOf CX P w K mg base N qual scope f cd A outer s H E) [] (L2.start N vs) H s1 := inv_start S room.hd e0 cnt rv x
  refine wpAny_mono (ht.run [] s1 (L2.start N vs) H _ I hq) ?_ fun _ _ z => z
  intro fl s' z
  match fl, z with
  | .ret u, ⟨v, σ', H', J, r, q⟩ => exact ⟨v, H', J.os, J.bare, J.base, J.hok, r, q⟩
  | .next, ⟨σ', H', J, q⟩ => exact ⟨V.non, H', J.os, J.bare, J.base, J.hok, rfl, q⟩
  | .brk, ⟨_, _, _, q⟩ => exact (show False from q).elim
  | .cont, ⟨_, _, _, q⟩ => exact (show False from q).elim

/-- the law's call over the heap behind the top -/
theorem glaw_call {P : Program} {w : World} {K : PySem.W.Frag} {mg mb : Str → Option Value} {k : Nat} {fa a : Addr} {fd : FuncData} {x : Str} {sp : Sp} {s0 : Shared} {vs : List Value} {ns : List Int}
    (KX : K.In s0.heap) (hns : s0.heap.Ns mainGlobals mg) (hb : s0.heap.Ns builtinsNs mb) (hbb : ∀ x : Str, x ≠ "__name__" → mb x = bootBuiltins x) (hlim : s0.heap.NoLimit) (hg : s0.gens = #[])
    (ha : s0.heap.get? a = some { cls := .type "list", data := .seq vs.toArray }) (hi : IntsAre vs ns) (hl : ns.length ≤ sizeLine) (room : Room k callerA)
    (G : ∀ base : Heap, K.In base → base.Ns mainGlobals mg → GnOk P w K mg base CX0 k fa fd [x] sp) (bind1 : ∀ (s : Shared) (u : Value), BindsTo s fd ⟨[u], []⟩ [(x, u)])
    (due : ∀ H : Hp, SqL K H a (ns.map V.int) → sp [.ref a] H (fun v _ => v = .bl true) fun _ _ _ => False) :
    codeAny (model P w) callerA (.call (.ref fa) ⟨[.ref a], []⟩) (fun r s' => r = .ok (.ret (.bool true)) ∧ OldK s0.heap s'.heap ∧ s'.os = s0.os ∧ AllBare s'.gens) s0 := by
  have rv := vals_ints hi
  have many := hi.length
  have main : ∀ H : Hp, (∀ b, H b = none ∨ ∃ o xs, H b = some (.frz o (.lst xs))) → SqL K H a (ns.map V.int) → HOk P w H s0.heap → (∀ b, H b ≠ none → b = a) → (H a ≠ none → K.lookup a = none) →
      codeAny (model P w) callerA (.call (.ref fa) ⟨[.ref a], []⟩) (fun r s' => r = .ok (.ret (.bool true)) ∧ OldK s0.heap s'.heap ∧ s'.os = s0.os ∧ AllBare s'.gens) s0 := by
    intro H only hS ok hA hK
    have isA : ∀ {b : Addr} {z : HO}, H b = some z → b = a := fun {b z} q => hA b (by rw [q]; exact fun y => by cases y)
    have plain : ∀ {b : Addr} {o : Obj} {es : Array DictEntry} {ep : Nat}, s0.heap.get? b = some o → o.data = .dict es ep → H b = none := by
      intro b o es ep e d
      cases q : H b with
      | none => rfl
      | some u =>
        obtain rfl := isA q
        rw [ha] at e
        cases e
        exact nomatch (show Data.seq vs.toArray _ = Data.dict es ep from d)
    have ns' : ∀ {b : Addr} {m : Str → Option Value}, s0.heap.Ns b m → (hidT s0.heap H).Ns b m := by
      rintro b m ⟨o, es, ep, e, d, r⟩
      exact ⟨o, es, ep, hidT_get e (plain e d), d, r⟩
    have Kb : K.In (hidT s0.heap H) := by
      intro b o e
      refine hidT_get (KX b o e) ?_
      cases q : H b with
      | none => rfl
      | some u =>
        obtain rfl := isA q
        rw [hK (by rw [q]; exact fun y => by cases y)] at e
        cases e
    have e0 : Env0 P w K mg (hidT s0.heap H) callerA [] s0 H := by
      refine ⟨rfl, ⟨Kb, ns' hns, ⟨mb, ns' hb, hbb⟩, ?_⟩, fun b o e => of_hidT e, Nat.le_of_eq (hidT_size _ _), trivial, ?_, ok, .of_eq hg⟩
      · obtain ⟨mc, h1, h2⟩ := hlim
        exact ⟨mc, ns' h1, h2⟩
      · intro b hb
        exact absurd (show b ∈ ([] : List Addr) from hb) (by simp)
    refine codeAny_mono ((G _ Kb (ns' hns)).go (args := ⟨[.ref a], []⟩) (us := [.ref a]) (vs := [V.ref a]) room rfl e0 (bind1 s0 (.ref a)) (.cons rfl .nil) (due H hS)) ?_
    intro r s' z
    match r, z with
    | .error _, z => exact (show False from z).elim
    | .ok .next, z => exact z.elim
    | .ok .brk, z => exact z.elim
    | .ok .cont, z => exact z.elim
    | .ok (.ret u), ⟨v, H', os, bare, un, ok', r', q⟩ =>
      obtain rfl : v = .bl true := q
      obtain rfl : u = Value.bool true := r'
      refine ⟨rfl, OldK.of_keep ?_, os, bare⟩
      intro b o e
      cases q : H b with
      | none => exact un.keep b o e q (fun z => absurd (show b ∈ ([] : List Addr) from z) (by simp)) (by simp)
      | some u =>
        rcases only b with z | ⟨ob, xs, z⟩
        · rw [q] at z
          cases z
        · have e1 := (ok b _ z).1
          have e2 := (ok' b _ (un.frzs b ob _ z)).1
          rw [e] at e1
          cases e1
          exact e2
  cases hk : K.lookup a with
  | some o =>
    have e := KX a o hk
    rw [ha] at e
    cases e
    exact main (fun _ => none) (fun _ => .inl rfl) (.inr ⟨_, vs.toArray, _, hk, rfl, rfl, rfl, by rw [List.size_toArray, many]; exact hl, by simpa using rv⟩) (fun b u z => nomatch z) (fun b z => absurd rfl z) fun z => absurd rfl z
  | none =>
    have at1 : ∀ {b : Addr}, b = a → (if b = a then some (HO.frz { cls := .type "list", data := .seq vs.toArray } (.lst (ns.map V.int))) else none) = some (.frz { cls := .type "list", data := .seq vs.toArray } (.lst (ns.map V.int))) := fun h => if_pos h
    refine main (fun b => if b = a then some (.frz { cls := .type "list", data := .seq vs.toArray } (.lst (ns.map V.int))) else none) ?_ (.inl (.inr ⟨_, at1 rfl⟩)) ?_ ?_ fun _ => hk
    · intro b
      by_cases h : b = a
      · exact .inr ⟨_, _, at1 h⟩
      · exact .inl (if_neg h)
    · intro b u z
      by_cases h : b = a
      · have z' := (at1 h).symm.trans z
        cases z'
        subst h
        exact ⟨ha, by rw [List.length_map]; exact hl, vs, _, rv, ha⟩
      · have z' := (if_neg h).symm.trans z
        cases z'
    · intro b z
      by_cases h : b = a
      · exact h
      · exact absurd (if_neg h) z
theorem gwalk_of {l : PySem.W.OpenLaw} {n k : Nat} {q : Program} {loose : List Str} {XP : (Str → Option Value) → Heap → Prop} {YP : World → Heap → Prop} {d : DefRec} {K : Params → PySem.W.Frag} {sp : World → Sp} {x : Str}
    (most : l.most = some n) (le : n ≤ sizeLine) (dfl : d.params.defaults = []) (room : Room k callerA)
    (inY : ∀ (w : World) (h : Heap), YP w h → (K w.params).In h)
    (G : ∀ (w : World) (mg : Str → Option Value) (fa : Addr) (h : Heap), (K w.params).In h → h.Ns mainGlobals mg → mg d.name = some (.ref fa) →
      ∃ fd : FuncData, (∀ (s : Shared) (u : Value), BindsTo s fd ⟨[u], []⟩ [(x, u)]) ∧
        ∀ base : Heap, (K w.params).In base → base.Ns mainGlobals mg → GnOk l.prog w (K w.params) mg base CX0 k fa fd [x] (sp w))
    (due : ∀ (w : World) (H : Hp) (a : Addr) (ns : List Int), ns.length ≤ n → SqL (K w.params) H a (ns.map V.int) → sp w [.ref a] H (fun v _ => v = .bl true) fun _ _ _ => False) :
    PySem.W.WalkO q loose XP YP l.row.toRowW d [] (fun f vs => PySem.call f vs) := by
  refine Att.attach_call most dfl ?_
  intro w s0 s1 mg mb fa o pm cd doc a vs ns G0 Y ho hd hcd hmg hobj hints hlen hg
  have KX := inY w _ Y
  obtain ⟨fd, hb, hF⟩ := G w mg fa _ KX G0.T.g hmg
  exact glaw_call KX G0.T.g G0.T.b G0.T.builtins G0.T.nolimit hg hobj hints (Nat.le_trans hlen le) room hF hb fun H hS => due w H a ns hlen hS
/-! ### defs and calls -/
abbrev DSp := List DL.D → Mp → DK → Prop
/-- a promise over data, as one over the heap -/
def lift (K : PySem.W.Frag) (sp : DSp) : Sp := fun vs H Q0 _ => ∃ ds F M Q, RpAll K F vs ds ∧ Rel K F M H ∧ sp ds M Q ∧
  ∀ v d F' M' H', Stp K F M H F' M' H' → Rp K F' v d → Q d M' → Q0 v H'
/-- a def that is to be called by its name x: its promise over data; es: the defaults of its last parameters -/
structure Cal (P : Program) (w : World) (K : PySem.W.Frag) (mg : Str → Option Value) (base : Heap) (k : Nat) (x : Str) (es : List DL.D) (sp : DSp) : Prop where
  ex : ∃ (f : Addr) (fd : FuncData) (ps : List Str) (dvs : List V) (us : List Value), GnOk P w K mg base CX0 k f fd ps (lift K sp) ∧ mg x = some (.ref f) ∧ PySem.W.keepIn K (.ref f) = true ∧ Binds K fd ps us ∧ Vals dvs us ∧ ∀ F, RpAll K F dvs es
def dCall (sp : DSp) (es : List DL.D) (t : DTA) : DTE := fun ρ M Q => t ρ M fun ds M1 => sp (ds ++ es) M1 Q
theorem Cal.mono {P : Program} {w : World} {K : PySem.W.Frag} {mg : Str → Option Value} {base : Heap} {j k : Nat} {x : Str} {es : List DL.D} {sp : DSp} (C : Cal P w K mg base j x es sp) (h : j ≤ k) : Cal P w K mg base k x es sp := by
  obtain ⟨f, fd, ps, dvs, us, a, b⟩ := C.ex
  exact ⟨f, fd, ps, dvs, us, a.up h, b⟩
section
variable {X : Cx} {pos p : Pos}
theorem can_call {K : PySem.W.Frag} {sp : DSp} {es : List DL.D} {dvs : List V} {t : DTA} {σ : St} {H : Hp} {Q0 : VK} (rd : ∀ F, RpAll K F dvs es) (h : canE K (dCall sp es t) σ H Q0) : tCall (lift K sp) dvs E0 (canA K t) σ H Q0 := by
  obtain ⟨F, M, ρ, Q, rs, r, q, k⟩ := h
  refine ⟨F, M, ρ, _, rs, r, q, fun vs ds F1 M1 H1 s1 rp q1 => ?_⟩
  exact ⟨ds ++ es, F1, M1, Q, rp.append (rd F1), s1.rel, q1, fun v d F2 M2 H2 s2 => k v d F2 M2 H2 (s1.trans s2)⟩
theorem de_call {k : Nat} {x : Str} {es : List DL.D} {sp : DSp} {e : Expr} {args : List Expr} {t : DTA} (C : Cal X.prog X.w X.K X.mg X.base k x es sp) (hr : Room k X.A) (gu : X.A.guards = some []) (ha : DA X (e :: args) t) (hg : Gl X x := by rfl)
    (hd : (x == ("__debug__" : Str)) = false := by decide) (he : starEach (e :: args) X.env = (false, eval e X.env) :: starEach args X.env := by rfl) (hpl : (backTo pos (starEach args X.env)).any (·.1) = false := by rfl) :
    DE X (.Call (.Name x p) (e :: args) [] pos) (dCall sp es t) := by
  obtain ⟨f, fd, ps, dvs, us, G, m, kp, b, vd, rd⟩ := C.ex
  exact PE.weak (pe_gcall G hr gu hg m kp b vd pass0 ha hd he hpl) fun _ _ _ q => can_call rd q
theorem de_call0 {k : Nat} {x : Str} {es : List DL.D} {sp : DSp} (C : Cal X.prog X.w X.K X.mg X.base k x es sp) (hr : Room k X.A) (gu : X.A.guards = some []) (hg : Gl X x := by rfl) (hd : (x == ("__debug__" : Str)) = false := by decide) : DE X (.Call (.Name x p) [] [] pos) (dCall sp es dNil) := by
  obtain ⟨f, fd, ps, dvs, us, G, m, kp, b, vd, rd⟩ := C.ex
  refine PE.weak (pe_gcall0 G hr gu hg m kp b vd pass0 hd) fun σ H Q0 q => ?_
  obtain ⟨F, M, ρ, Q, rs, r, q, k⟩ := q
  exact ⟨es, F, M, Q, rd F, r, q, k⟩
end
def dstart (N : List Str) (ds : List DL.D) : Rho := ds.map some ++ List.replicate (N.length - ds.length) none
theorem relS_start {K : PySem.W.Frag} {F : Hp} {N : List Str} {vs : List V} {ds : List DL.D} (h : RpAll K F vs ds) : RelS K F (L2.start N vs) (dstart N ds) := by
  refine ⟨?_, fun i d q => ?_⟩
  · unfold L2.start dstart; rw [List.length_append, List.length_append, List.length_map, List.length_map, List.length_replicate, List.length_replicate, h.length]
  · unfold dstart at q
    unfold L2.start
    by_cases hl : i < ds.length
    · rw [List.getElem?_append_left (by rw [List.length_map]; exact hl), List.getElem?_map] at q
      rw [List.getElem?_append_left (by rw [List.length_map, h.length]; exact hl), List.getElem?_map]
      cases e : ds[i]? with
      | none => rw [e] at q; cases q
      | some d' =>
        rw [e] at q; cases q
        obtain ⟨v, e1, r⟩ := h.get e
        exact ⟨v, by rw [e1]; rfl, r⟩
    · rw [List.getElem?_append_right (by rw [List.length_map]; omega), List.getElem?_replicate] at q
      split at q <;> cases q
/-- a def of the text as it stands behind the top, with how its parameters are bound -/
structure Has (K : PySem.W.Frag) (mg : Str → Option Value) (x qual : Str) (st : Stmt) (ps : List Str) (es : List DL.D) : Prop where
  ex : ∃ (f : Addr) (oc : Value) (od : Option Addr) (dV kV doc pm : Value) (an : Option Addr) (cdv ct : Value) (osl : Array (Option Value)) (us : List Value) (dvs : List V),
    K.lookup f = some ⟨oc, od, .func (PySem.W.fnOf x qual (defArgs st) (defBody st) (defScope st) dV kV doc pm an cdv ct), osl⟩ ∧ PySem.W.codeIn K cdv qual = true ∧ PySem.W.keepIn K (.ref f) = true ∧ mg x = some (.ref f) ∧
      Binds K (PySem.W.fnOf x qual (defArgs st) (defBody st) (defScope st) dV kV doc pm an cdv ct) ps us ∧ Vals dvs us ∧ ∀ F, RpAll K F dvs es
/-- THE RULE for a def over data: its body by rules, and its reading -/
theorem dcal {P : Program} {w : World} {K : PySem.W.Frag} {mg : Str → Option Value} {base : Heap} {x qual : Str} {st : Stmt} {N ps : List Str} {es : List DL.D} {k : Nat} {sp : DSp} (h : Has K mg x qual st ps es) (S : FnScope N ps (defScope st)) {t : DTS}
    (body : ∀ (f : Addr) (cdv : Value) (A : Around) (outer : List Env) (s : Shared) (H : Hp) (E : XK), Room k (A.deeper (envOfC qual (defScope st) s.heap.objs.size f cdv)) → (A.deeper (envOfC qual (defScope st) s.heap.objs.size f cdv)).guards = some [] →
      DSs (cxOf CX0 P w K mg base N qual (defScope st) f cdv A outer s H E).nox (defBody st) t)
    (read : ∀ ds M Q, sp ds M Q → ds.length = ps.length ∧ t { nx := fun _ M' => Q .non M', rt := Q } (dstart N ds) M) : Cal P w K mg base (k + 1) x es sp := by
  obtain ⟨f, oc, od, dV, kV, doc, pm, an, cdv, ct, osl, us, dvs, lk, hcd, kp, m, b, vd, rd⟩ := h.ex
  refine ⟨f, _, ps, dvs, us, gfn_of lk hcd S ?_ ?_, m, kp, b, vd, rd⟩
  · rintro vs H Q E ⟨ds, F, M, Q, rp, _, q, _⟩
    rw [rp.length]; exact (read ds M Q q).1
  · rintro A outer s H vs Q0 E room gu ⟨ds, F, M, Q, rp, r, q, kk⟩
    refine ⟨_, PSs.nox (body f cdv A outer s H E room gu), F, M, dstart N ds, _, relS_start rp, r, (read ds M Q q).2, ⟨fun _ _ F' M' H' s' _ q' => kk .non .non F' M' H' s' .non q', fun v d F' M' H' s' rp' q' => kk v d F' M' H' s' rp' q', fun _ _ _ _ _ _ _ z => z.elim, fun _ _ _ _ _ _ _ z => z.elim⟩⟩
/-- nothing can be asked of it -/
theorem Cal.none {P : Program} {w : World} {K : PySem.W.Frag} {mg : Str → Option Value} {base : Heap} {x qual : Str} {st : Stmt} {ps : List Str} {es : List DL.D} {sp : DSp} (h : Has K mg x qual st ps es) (no : ∀ ds M Q, ¬ sp ds M Q) : Cal P w K mg base 0 x es sp := by
  obtain ⟨f, oc, od, dV, kV, doc, pm, an, cdv, ct, osl, us, dvs, lk, hcd, kp, m, b, vd, rd⟩ := h.ex
  refine ⟨f, _, ps, dvs, us, ⟨?_, ?_⟩, m, kp, b, vd, rd⟩
  · rintro vs H Q E ⟨ds, F, M, Q, rp, _, q, _⟩
    exact (no _ _ _ q).elim
  · rintro A outer s H args us vs Q E _ _ _ _ _ ⟨ds, F, M, Q, rp, _, q, _⟩
    exact (no _ _ _ q).elim
end DL

/-! DL3: operators, comparisons, items, slices, built-ins and methods over data. -/
namespace DL
open PySem PySem.Spec L2
open PyProof.Rows hiding St

/-! ### two places -/
abbrev RD2 := DL.D → DL.D → Mp → DK → Prop
def can2 (K : PySem.W.Frag) (r : RD2) : R2 := fun x y H Q0 => ∃ F M d e Q, Rp K F x d ∧ Rp K F y e ∧ Rel K F M H ∧ r d e M Q ∧
  ∀ v z F' M' H', Stp K F M H F' M' H' → Rp K F' v z → Q z M' → Q0 v H'
abbrev OpD (X : Cx) (f : Value → Value → Sem Value) (r : RD2) : Prop := OpR X f (can2 X.K r)
def dOp (r : RD2) (t u : DTE) : DTE := fun ρ M Q => t ρ M fun x M1 => u ρ M1 fun y M2 => r x y M2 Q
section
variable {X : Cx} {pos : Pos} {a b c : Expr} {t u v : DTE}
theorem can_op {K : PySem.W.Frag} {r : RD2} {σ : St} {H : Hp} {Q0 : VK} (h : canE K (dOp r t u) σ H Q0) : tOp (can2 K r) (canE K t) (canE K u) σ H Q0 := by
  obtain ⟨F, M, ρ, Q, rs, rl, q, k⟩ := h
  refine ⟨F, M, ρ, _, rs, rl, q, fun x d F1 M1 H1 s1 rp1 q1 => ?_⟩
  refine ⟨F1, M1, ρ, _, rs.mono s1.same, s1.rel, q1, fun y e F2 M2 H2 s2 rp2 q2 => ?_⟩
  exact ⟨F2, M2, d, e, Q, rp1.mono s2.same, rp2, s2.rel, q2, fun v z F3 M3 H3 s3 => k v z F3 M3 H3 ((s1.trans s2).trans s3)⟩
theorem de_op {op : Operator} {r : RD2} (ho : OpD X (binaryOp op) r) (ha : DE X a t) (hb : DE X b u) : DE X (.BinOp a op b pos) (dOp r t u) :=
  PE.weak (pe_op ho ha hb) fun _ _ _ q => can_op q
theorem de_cmp {op : CmpOp} {r : RD2} (ho : OpD X (compareOp op) r) (ha : DE X a t) (hb : DE X b u) (hm : behindInMarks op b = false) : DE X (.Compare a [op] [b] pos) (dOp r t u) :=
  PE.weak (pe_cmpR ho ha hb hm) fun _ _ _ q => can_op q
theorem dt_cmp {op : CmpOp} {r : RD2} (ho : OpD X (compareOp op) r) (ha : DE X a t) (hb : DE X b u) (hm : behindInMarks op b = false) : DT X (.Compare a [op] [b] pos) (dB (dOp r t u)) := by
  refine PT.weak (pt_cmpR ho ha hb hm) ?_
  rintro σ H Q0 ⟨F, M, ρ, Q, rs, rl, q, k⟩
  refine can_op ⟨F, M, ρ, _, rs, rl, q, fun v d F1 M1 H1 s1 rp ⟨b, e, q1⟩ => ?_⟩
  subst e
  cases rp
  exact ⟨b, rfl, k b F1 M1 H1 s1 q1⟩
def dChain (r r' : RD2) (t u v : DTE) : DTE := fun ρ M Q => t ρ M fun x M1 => u ρ M1 fun y M2 => r x y M2 fun z M3 => ∃ k, z = .bl k ∧
  (if k = true then v ρ M3 fun w M4 => r' y w M4 Q else Q (.bl false) M3)
theorem can_chain {K : PySem.W.Frag} {r r' : RD2} {σ : St} {H : Hp} {Q0 : VK} (h : canE K (dChain r r' t u v) σ H Q0) : tChain (can2 K r) (can2 K r') (canE K t) (canE K u) (canE K v) σ H Q0 := by
  obtain ⟨F, M, ρ, Q, rs, rl, q, k⟩ := h
  refine ⟨F, M, ρ, _, rs, rl, q, fun x d F1 M1 H1 s1 rp1 q1 => ?_⟩
  refine ⟨F1, M1, ρ, _, rs.mono s1.same, s1.rel, q1, fun y e F2 M2 H2 s2 rp2 q2 => ?_⟩
  have s12 := s1.trans s2
  refine ⟨F2, M2, d, e, _, rp1.mono s2.same, rp2, s2.rel, q2, fun vv z F3 M3 H3 s3 rp3 ⟨kk, ez, q3⟩ => ?_⟩
  have s13 := s12.trans s3
  subst ez
  cases rp3
  refine ⟨kk, rfl, ?_⟩
  cases kk with
  | false => exact k _ _ F3 M3 H3 s13 (.bl false) q3
  | true =>
    refine iteT ⟨F3, M3, ρ, _, rs.mono s13.same, s3.rel, q3, fun w dw F4 M4 H4 s4 rp4 q4 => ?_⟩
    exact ⟨F4, M4, e, dw, Q, (rp2.mono s3.same).mono s4.same, rp4, s4.rel, q4, fun v z F5 M5 H5 s5 => k v z F5 M5 H5 ((s13.trans s4).trans s5)⟩
theorem de_chain {op op' : CmpOp} {r r' : RD2} (ho : OpD X (compareOp op) r) (ho' : OpD X (compareOp op') r') (ha : DE X a t) (hb : DE X b u) (hc : DE X c v)
    (hm : lastMarks [op, op'] [b, c] = false := by with_unfolding_all rfl) : DE X (.Compare a [op, op'] [b, c] pos) (dChain r r' t u v) :=
  PE.weak (pe_chain ho ho' ha hb hc hm) fun _ _ _ q => can_chain q
theorem dt_chain {op op' : CmpOp} {r r' : RD2} (ho : OpD X (compareOp op) r) (ho' : OpD X (compareOp op') r') (ha : DE X a t) (hb : DE X b u) (hc : DE X c v)
    (hm : lastMarks [op, op'] [b, c] = false := by with_unfolding_all rfl) : DT X (.Compare a [op, op'] [b, c] pos) (dB (dChain r r' t u v)) := by
  refine PT.weak (pt_chain ho ho' ha hb hc hm) ?_
  rintro σ H Q0 ⟨F, M, ρ, Q, rs, rl, q, k⟩
  refine can_chain ⟨F, M, ρ, _, rs, rl, q, fun v d F1 M1 H1 s1 rp ⟨b, e, q1⟩ => ?_⟩
  subst e
  cases rp
  exact ⟨b, rfl, k b F1 M1 H1 s1 q1⟩
end

/-! ### the items of a list, wherever it stands -/
def mol : Option MO → Option (List DL.D)
  | some (.lst xs) => some xs
  | none => none
theorem mol_some {o : Option MO} {ds : List DL.D} (h : mol o = some ds) : o = some (.lst ds) := by
  cases o with
  | none => cases h
  | some m => cases m; cases h; rfl
def lstOf (M : Mp) : DL.D → Option (List DL.D)
  | .lst xs => some xs
  | .slst xs => some xs
  | .ref a => mol (M a)
  | _ => none
/-- the same, without the lists that the module or the caller holds -/
def lstIn (M : Mp) : DL.D → Option (List DL.D)
  | .lst xs => some xs
  | .ref a => mol (M a)
  | _ => none
section
variable {K : PySem.W.Frag} {F : Hp} {M : Mp} {H : Hp}
theorem lstOf_rp {v : V} {d : DL.D} {ds : List DL.D} (R : Rel K F M H) (r : Rp K F v d) (h : lstOf M d = some ds) : ∃ a xs, v = .ref a ∧ SqL K H a xs ∧ RpAll K F xs ds := by
  cases r with
  | lst e ra => cases h; exact ⟨_, _, rfl, SqL.of (R.sub _ _ e), ra⟩
  | slst e ra => cases h; exact ⟨_, _, rfl, R.sub.seq e, ra⟩
  | ref a =>
    obtain ⟨xs, e1, ra⟩ := R.lst (mol_some (show mol (M a) = some ds from h))
    exact ⟨a, xs, rfl, SqL.of e1, ra⟩
  | _ => cases h
theorem lstIn_rp {v : V} {d : DL.D} {ds : List DL.D} (R : Rel K F M H) (r : Rp K F v d) (h : lstIn M d = some ds) : ∃ a xs, v = .ref a ∧ H a = some (.lst xs) ∧ RpAll K F xs ds := by
  cases r with
  | lst e ra => cases h; exact ⟨_, _, rfl, R.sub _ _ e, ra⟩
  | ref a =>
    obtain ⟨xs, e1, ra⟩ := R.lst (mol_some (show mol (M a) = some ds from h))
    exact ⟨a, xs, rfl, e1, ra⟩
  | _ => cases h
theorem lstOf_ref {a : Addr} {ds : List DL.D} (h : M a = some (.lst ds)) : lstOf M (.ref a) = some ds := by show mol (M a) = some ds; rw [h]; rfl
theorem lstIn_ref {a : Addr} {ds : List DL.D} (h : M a = some (.lst ds)) : lstIn M (.ref a) = some ds := by show mol (M a) = some ds; rw [h]; rfl
end

/-! ### arithmetic, joining -/
def rInt (C : Int → Int → Prop) (g : Int → Int → DL.D) : RD2 := fun x y M Q => ∃ i j, x = .int i ∧ y = .int j ∧ C i j ∧ Q (g i j) M
def rAddD (fz : Bool) : RD2
  | .int i, .int j, M, Q => Q (.int (i + j)) M
  | .str x, .str y, M, Q => x.length + y.length ≤ sizeLine ∧ Q (.str (x ++ y)) M
  | .tup xs, .tup ys, M, Q => xs.length + ys.length ≤ sizeLine ∧ Q (.tup (xs ++ ys)) M
  | x, y, M, Q => ∃ xs ys, lstIn M x = some xs ∧ lstIn M y = some ys ∧ xs.length + ys.length ≤ sizeLine ∧ newL fz (xs ++ ys) M Q
section
variable {X : Cx}
theorem op_int {f : Value → Value → Sem Value} {C : Int → Int → Prop} {g : Int → Int → V} {g' : Int → Int → DL.D} (h : OpR X f (rI C g)) (hg : ∀ F i j, Rp X.K F (g i j) (g' i j)) : OpD X f (rInt C g') := by
  intro pins s σ H x y v u Q0 I rx ry ⟨F, M, d, e, Q, r1, r2, rl, ⟨i, j, e1, e2, c, q⟩, k⟩
  subst e1 e2
  cases r1
  cases r2
  exact h pins s σ H _ _ v u Q0 I rx ry ⟨i, j, rfl, rfl, c, k _ _ F M H (Stp.refl rl) (hg F i j) q⟩
theorem op_int0 {f : Value → Value → Sem Value} {g : Int → Int → V} {g' : Int → Int → DL.D} (h : OpR X f (rI0 g)) (hg : ∀ F i j, Rp X.K F (g i j) (g' i j)) : OpD X f (rInt (fun _ _ => True) g') := by
  intro pins s σ H x y v u Q0 I rx ry ⟨F, M, d, e, Q, r1, r2, rl, ⟨i, j, e1, e2, _, q⟩, k⟩
  subst e1 e2
  cases r1
  cases r2
  exact h pins s σ H _ _ v u Q0 I rx ry ⟨i, j, rfl, rfl, k _ _ F M H (Stp.refl rl) (hg F i j) q⟩
theorem od_add (fz : Bool) : OpD X (binaryOp .Add) (rAddD fz) := by
  intro pins s σ H x y v u Q0 I rx ry ⟨F, M, d, e, Q, r1, r2, rl, q, k⟩
  have lists : ∀ xs ys, lstIn M d = some xs → lstIn M e = some ys → xs.length + ys.length ≤ sizeLine → newL fz (xs ++ ys) M Q → wpAny (model X.prog X.w) X.A (binaryOp .Add v u) (EP X pins σ Q0) X.xe s := by
    intro xs ys e1 e2 hz q
    obtain ⟨a, vs, rfl, h1, ra⟩ := lstIn_rp rl r1 e1
    obtain ⟨b, ws, rfl, h2, rb⟩ := lstIn_rp rl r2 e2
    exact op_cat pins s σ H _ _ v u Q0 I rx ry ⟨a, b, vs, ws, rfl, rfl, h1, h2, by rw [ra.length, rb.length]; exact hz, fun p hp => newL_ok rl (ra.append rb) q k p hp⟩
  unfold rAddD at q
  split at q
  · cases r1
    cases r2
    exact op_add pins s σ H _ _ v u Q0 I rx ry ⟨_, _, rfl, rfl, k _ _ F M H (Stp.refl rl) (.int _) q⟩
  · cases r1
    cases r2
    exact op_add_str pins s σ H _ _ v u Q0 I rx ry ⟨_, _, rfl, rfl, q.1, k _ _ F M H (Stp.refl rl) (.str _) q.2⟩
  · cases r1 with
    | tup s1 ra =>
      cases r2 with
      | tup s2 rb =>
        refine op_catA pins s σ H _ _ v u Q0 I rx ry ⟨_, _, _, _, rfl, rfl, Same.tseq rl.sub s1, Same.tseq rl.sub s2, by rw [ra.length, rb.length]; exact q.1, fun e => ?_, fun _ e => ?_, fun _ _ p hp => newT_ok rl (ra.append rb) q.2 k p hp⟩
        · subst e
          cases ra
          exact k _ _ F M H (Stp.refl rl) (.tup s2 rb) q.2
        · subst e
          cases rb
          refine k _ _ F M H (Stp.refl rl) (.tup s1 ra) ?_
          have := q.2
          rwa [List.append_nil] at this
  · obtain ⟨xs, ys, e1, e2, hz, q⟩ := q
    exact lists xs ys e1 e2 hz q

theorem od_sub : OpD X (binaryOp .Sub) (rInt (fun _ _ => True) fun i j => .int (i - j)) := op_int0 op_sub fun _ _ _ => .int _
theorem od_mod : OpD X (binaryOp .Mod) (rInt (fun _ j => 0 < j) fun i j => .int (i % j)) := op_int op_mod fun _ _ _ => .int _
theorem od_fdiv : OpD X (binaryOp .FloorDiv) (rInt (fun _ j => 0 < j ∧ j.natAbs < 2 ^ 64) fun i j => .int (i / j)) := by
  intro pins s σ H x y v u Q0 I rx ry ⟨F, M, d, e, Q, r1, r2, rl, ⟨i, j, e1, e2, c, q⟩, k⟩
  exact op_int (C := CDivW) (g' := fun i j => .int (i / j)) op_fdivW (fun _ _ _ => .int _) pins s σ H x y v u Q0 I rx ry ⟨F, M, d, e, Q, r1, r2, rl, ⟨i, j, e1, e2, wide_div c.1 c.2 (by decide) (by decide), q⟩, k⟩
theorem od_pow : OpD X (binaryOp .Pow) (rInt (fun i j => 0 ≤ j ∧ j ≤ 1000000 ∧ i.natAbs < 2 ^ 64) fun i j => .int (i ^ j.toNat)) := op_int op_pow fun _ _ _ => .int _
/-- ** of great numbers -/
theorem op_powW : OpR X (binaryOp .Pow) (rI (fun i j => 0 ≤ j ∧ (Builtin.Int.intBits i : Int) * j ≤ 2 ^ 27) fun i j => .int (i ^ j.toNat)) := opI fun _ _ _ _ _ _ _ hc q => pow_int hc.1 hc.2 q
theorem od_powW : OpD X (binaryOp .Pow) (rInt (fun i j => 0 ≤ j ∧ (Builtin.Int.intBits i : Int) * j ≤ 2 ^ 27) fun i j => .int (i ^ j.toNat)) := op_int op_powW fun _ _ _ => .int _

/-! ### * -/
def repS (x : Str) (n : Int) : Str := ⟨(List.replicate n.toNat x.cps.toList).flatten.toArray⟩
theorem repS_foldl (x : Str) : ∀ (n : Nat) (acc : Array Nat), (List.replicate n x.cps).foldl (· ++ ·) acc = acc ++ (List.replicate n x.cps.toList).flatten.toArray
  | 0, acc => by simp
  | n + 1, acc => by
    rw [List.replicate_succ, List.foldl_cons, repS_foldl x n, List.replicate_succ, List.flatten_cons]
    apply Array.ext'
    simp
theorem repS_eq (x : Str) (n : Int) : (⟨(List.replicate n.toNat x.cps).foldl (· ++ ·) #[]⟩ : Str) = repS x n := by
  unfold repS
  rw [repS_foldl]
  simp
theorem repS_len (x : Str) (n : Int) : (repS x n).length = n.toNat * x.length := by
  show (List.replicate n.toNat x.cps.toList).flatten.toArray.size = n.toNat * x.cps.size
  simp
theorem op_mul_str : OpR X (binaryOp .Mult) (fun x y H Q => ∃ z n, x = .str z ∧ y = .int n ∧ 0 ≤ n ∧ n ≤ 16384 ∧ z.length ≤ 1024 ∧ Q (.str (repS z n)) H) := by
  intro pins s σ H x y v u Q I rx ry h
  obtain ⟨z, n, rfl, rfl, h1, h2, hz, q⟩ := h
  obtain ⟨t, rfl⟩ := rx
  obtain ⟨t', rfl⟩ := ry
  have hsz : (sizeLine : Nat) = 16777216 := sizeLine_eq
  have hnat : z.length * n.toNat ≤ 1024 * 16384 := Nat.mul_le_mul hz (by omega)
  have fin : ∀ tk : Tok, EP X pins σ Q (.str (repS z n) tk) { s with toks := s.toks + 1 } := fun tk => ⟨.str _, H, I.tok _, ⟨_, rfl⟩, q⟩
  refine PySem.P.mul_str ?_ (fun h3 _ => ?_) (fun h3 _ => ?_) ?_
  · rw [decide_eq_false (by omega), decide_eq_false (by omega)]; rfl
  · intro hgt
    have hdiv : (1024 : Int) ≤ (2 ^ 63 - 1) / n := (Int.le_ediv_iff_mul_le (by omega)).mpr (by omega)
    omega
  · unfold Builtin.Str.tooLong
    rw [decide_eq_false (by omega)]
  · split
    · rename_i h0
      have e0 : n = 0 := by omega
      subst e0
      exact ⟨by decide, fin _⟩
    · split
      · rename_i h0 h3
        have e1 : repS z n = z := by
          have e : n = 1 ∨ z.length = 0 := by simpa using h3
          unfold repS
          rcases e with e | e
          · subst e; simp
          · have ez : z.cps = #[] := Array.size_eq_zero_iff.mp e
            obtain ⟨c⟩ := z
            simp only at ez
            subst ez
            simp
        refine ⟨.str z, H, I, ⟨_, rfl⟩, ?_⟩
        rw [← e1]; exact q
      · refine ⟨?_, ?_⟩
        · rw [repS_eq, repS_len, Nat.mul_comm]; omega
        · rw [repS_eq]; exact fin _
def rMulD (fz : Bool) : RD2
  | .int i, .int j, M, Q => (∃ a b : Nat, i.natAbs < 2 ^ a ∧ j.natAbs < 2 ^ b ∧ a + b ≤ 134217728) ∧ Q (.int (i * j)) M
  | .str x, .int n, M, Q => 0 ≤ n ∧ n ≤ 16384 ∧ x.length ≤ 1024 ∧ Q (.str (repS x n)) M
  | x, .int n, M, Q => ∃ xs, lstIn M x = some xs ∧ 0 ≤ n ∧ n < 2 ^ 62 ∧ xs.length * n.toNat ≤ sizeLine ∧ newL fz (List.replicate n.toNat xs).flatten M Q
  | _, _, _, _ => False
theorem od_mul (fz : Bool) : OpD X (binaryOp .Mult) (rMulD fz) := by
  intro pins s σ H x y v u Q0 I rx ry ⟨F, M, d, e, Q, r1, r2, rl, q, k⟩
  unfold rMulD at q
  split at q
  · cases r1
    cases r2
    obtain ⟨⟨a, b, ha, hb, hab⟩, q⟩ := q
    exact (opI fun _ _ _ _ _ _ _ hc q => mul_int q (CMulX.ok hc)) pins s σ H _ _ v u Q0 I rx ry ⟨_, _, rfl, rfl, mulx_ok ha hb hab, k _ _ F M H (Stp.refl rl) (.int _) q⟩
  · cases r1
    cases r2
    obtain ⟨h1, h2, h3, q⟩ := q
    exact op_mul_str pins s σ H _ _ v u Q0 I rx ry ⟨_, _, rfl, rfl, h1, h2, h3, k _ _ F M H (Stp.refl rl) (.str _) q⟩
  · cases r2
    obtain ⟨xs, e1, h1, h2, hz, q⟩ := q
    obtain ⟨a, vs, rfl, h3, ra⟩ := lstIn_rp rl r1 e1
    exact op_rep pins s σ H _ _ v u Q0 I rx ry ⟨a, _, vs, rfl, rfl, h3, by omega, by omega, by rw [ra.length]; exact hz, fun p hp => newL_ok rl (ra.rep _) q k p hp⟩
  · exact q.elim

/-! ### == and != -/
mutual
def D.py : DL.D → Option PyData
  | .non => some .none
  | .bl b => some (.bool b)
  | .int i => some (.int i)
  | .str x => some (.str x)
  | .tup xs => match pyAll xs with
    | some ps => some (.tuple ps)
    | none => none
  | .lst xs => match pyAll xs with
    | some ps => some (.list ps)
    | none => none
  | .slst xs => match pyAll xs with
    | some ps => some (.list ps)
    | none => none
  | .ref _ => none
  | .dct _ _ => none
def pyAll : List DL.D → Option (List PyData)
  | [] => some []
  | x :: xs => match x.py, pyAll xs with
    | some p, some ps => some (p :: ps)
    | _, _ => none
end
mutual
theorem py_dp {K : PySem.W.Frag} {F H : Hp} (sub : Same F H) : ∀ (d : DL.D) (v : V) (p : PyData), Rp K F v d → d.py = some p → Dp K H v p
  | .non, _, _, r, h => by cases r; simp only [D.py] at h; cases h; exact .non
  | .bl b, _, _, r, h => by cases r; simp only [D.py] at h; cases h; exact .bl b
  | .int i, _, _, r, h => by cases r; simp only [D.py] at h; cases h; exact .int i
  | .str x, _, _, r, h => by cases r; simp only [D.py] at h; cases h; exact .str x
  | .ref a, _, _, r, h => by simp only [D.py] at h; cases h
  | .dct _ _, _, _, r, h => by simp only [D.py] at h; cases h
  | .tup xs, _, _, r, h => by
    cases r with
    | tup sq ra =>
      simp only [D.py] at h
      split at h
      · rename_i ps e
        cases h
        exact .tup (Same.tseq sub sq) (pyAll_dp sub xs _ ps ra e)
      · cases h
  | .lst xs, _, _, r, h => by
    cases r with
    | lst sq ra =>
      simp only [D.py] at h
      split at h
      · rename_i ps e
        cases h
        exact .lst (SqL.of (sub _ _ sq)) (pyAll_dp sub xs _ ps ra e)
      · cases h
  | .slst xs, _, _, r, h => by
    cases r with
    | slst sq ra =>
      simp only [D.py] at h
      split at h
      · rename_i ps e
        cases h
        exact .lst (sub.seq sq) (pyAll_dp sub xs _ ps ra e)
      · cases h
theorem pyAll_dp {K : PySem.W.Frag} {F H : Hp} (sub : Same F H) : ∀ (ds : List DL.D) (vs : List V) (ps : List PyData), RpAll K F vs ds → pyAll ds = some ps → DpAll K H vs ps
  | [], _, _, r, h => by cases r; simp only [pyAll] at h; cases h; exact .nil
  | d :: ds, _, _, r, h => by
    cases r with
    | cons r1 r2 =>
      simp only [pyAll] at h
      split at h
      · rename_i p ps e1 e2
        cases h
        exact .cons (py_dp sub d _ p r1 e1) (pyAll_dp sub ds _ ps r2 e2)
      · cases h
end
/-- a value's data; a list that may change: as it stands -/
def pyM (M : Mp) : DL.D → Option PyData
  | .ref a => match mol (M a) with
    | some xs => match pyAll xs with
      | some ps => some (.list ps)
      | none => none
    | none => none
  | d => d.py
theorem pyM_dp {K : PySem.W.Frag} {F : Hp} {M : Mp} {H : Hp} (R : Rel K F M H) {v : V} {d : DL.D} {p : PyData} (r : Rp K F v d) (h : pyM M d = some p) : Dp K H v p := by
  unfold pyM at h
  split at h
  · cases r
    split at h
    · rename_i xs e
      split at h
      · rename_i ps e2
        cases h
        obtain ⟨vs, h1, ra⟩ := R.lst (mol_some e)
        exact .lst (SqL.of h1) (pyAll_dp R.sub xs vs ps ra e2)
      · cases h
    · cases h
  · exact py_dp R.sub _ _ _ r h
def rEqD2 (neg : Bool) : RD2
  | .str a, .str b, M, Q => Q (.bl (if neg then !decide (a = b) else decide (a = b))) M
  | .int a, .int b, M, Q => Q (.bl (if neg then !decide (a = b) else decide (a = b))) M
  | .bl a, .bl b, M, Q => Q (.bl (if neg then !decide (a = b) else decide (a = b))) M
  | .str _, .non, M, Q => Q (.bl neg) M
  | .non, .str _, M, Q => Q (.bl neg) M
  | .int _, .non, M, Q => Q (.bl neg) M
  | .non, .int _, M, Q => Q (.bl neg) M
  | .bl _, .non, M, Q => Q (.bl neg) M
  | .non, .bl _, M, Q => Q (.bl neg) M
  | .non, .non, M, Q => Q (.bl (!neg)) M
  | .int _, .str _, M, Q => Q (.bl neg) M
  | .str _, .int _, M, Q => Q (.bl neg) M
  | .bl _, .str _, M, Q => Q (.bl neg) M
  | .str _, .bl _, M, Q => Q (.bl neg) M
  | x, y, M, Q => ∃ p q, pyM M x = some p ∧ pyM M y = some q ∧ SeqAt.shaped p = true ∧ SeqAt.shaped q = true ∧ Q (.bl (if neg then !PyData.eqv p q else PyData.eqv p q)) M
theorem od_eqs (neg : Bool) (hu : X.A.units + 64 < cLine) : OpD X (compareOp (if neg then .NotEq else .Eq)) (rEqD2 neg) := by
  intro pins s σ H x y v u Q0 I rx ry ⟨F, M, d, e, Q, r1, r2, rl, q, k⟩
  have sc : ∀ b : Bool, L2.scal x y = true → Rp X.K F (.bl b) (.bl b) → (if neg then !decide (x = y) else decide (x = y)) = b → Q (.bl b) M → wpAny (model X.prog X.w) X.A (compareOp (if neg then .NotEq else .Eq) v u) (EP X pins σ Q0) X.xe s := by
    intro b hs _ hb q
    have k1 := k _ _ F M H (Stp.refl rl) (.bl b) q
    cases neg with
    | true => exact op_ne pins s σ H x y v u Q0 I rx ry ⟨hs, by rw [show (!decide (x = y)) = b from hb]; exact k1⟩
    | false => exact op_eq pins s σ H x y v u Q0 I rx ry ⟨hs, by rw [show decide (x = y) = b from hb]; exact k1⟩
  unfold rEqD2 at q
  split at q
  all_goals first
    | (cases r1; cases r2; refine sc _ rfl (.bl _) ?_ q; cases neg <;> simp)
    | (obtain ⟨p, p2, e1, e2, h1, h2, q⟩ := q
       have k1 := k _ _ F M H (Stp.refl rl) (.bl _) q
       have d1 := pyM_dp rl r1 e1
       have d2 := pyM_dp rl r2 e2
       cases neg with
       | true => exact op_neD hu pins s σ H x y v u Q0 I rx ry ⟨p, p2, d1, d2, h1, h2, k1⟩
       | false => exact op_eqD hu pins s σ H x y v u Q0 I rx ry ⟨p, p2, d1, d2, h1, h2, k1⟩)
theorem od_eq {n : Nat} (hr : Room n X.A) : OpD X (compareOp .Eq) (rEqD2 false) := od_eqs false hr.units
theorem od_ne {n : Nat} (hr : Room n X.A) : OpD X (compareOp .NotEq) (rEqD2 true) := od_eqs true hr.units

/-! ### order, in -/
def rLtD : RD2
  | .int i, .int j, M, Q => Q (.bl (decide (i < j))) M
  | .str x, .str y, M, Q => Q (.bl (decide (x.cps.toList < y.cps.toList))) M
  | _, _, _, _ => False
theorem od_lt : OpD X (compareOp .Lt) rLtD := by
  intro pins s σ H x y v u Q0 I rx ry ⟨F, M, d, e, Q, r1, r2, rl, q, k⟩
  unfold rLtD at q
  split at q
  · cases r1
    cases r2
    exact op_lt pins s σ H _ _ v u Q0 I rx ry ⟨_, _, rfl, rfl, k _ _ F M H (Stp.refl rl) (.bl _) q⟩
  · cases r1
    cases r2
    exact op_lt_str pins s σ H _ _ v u Q0 I rx ry ⟨_, _, rfl, rfl, k _ _ F M H (Stp.refl rl) (.bl _) q⟩
  · exact q.elim
theorem od_le : OpD X (compareOp .LtE) (rInt (fun _ _ => True) fun i j => .bl (decide (i ≤ j))) := op_int0 op_le fun _ _ _ => .bl _
theorem od_gt : OpD X (compareOp .Gt) (rInt (fun _ _ => True) fun i j => .bl (decide (j < i))) := op_int0 op_gt fun _ _ _ => .bl _
theorem od_ge : OpD X (compareOp .GtE) (rInt (fun _ _ => True) fun i j => .bl (decide (j ≤ i))) := op_int0 op_ge fun _ _ _ => .bl _
/-- a flat value as it is told without the heap -/
def vOf : DL.D → V
  | .bl b => .bl b
  | .int i => .int i
  | .str x => .str x
  | _ => .non
def flatD : DL.D → Bool
  | .non => true
  | .bl _ => true
  | .int _ => true
  | .str _ => true
  | _ => false
theorem flat_v {K : PySem.W.Frag} {F : Hp} {v : V} {d : DL.D} (r : Rp K F v d) (h : flatD d = true) : v = vOf d ∧ L2.flatV v = true := by
  cases r <;> first | exact ⟨rfl, rfl⟩ | cases h
theorem flat_vs {K : PySem.W.Frag} {F : Hp} : ∀ {vs : List V} {ds : List DL.D}, RpAll K F vs ds → ds.all flatD = true → vs = ds.map vOf ∧ vs.all L2.flatV = true
  | _, _, .nil, _ => ⟨rfl, rfl⟩
  | _, _, .cons r t, h => by
    rw [List.all_cons, Bool.and_eq_true] at h
    obtain ⟨e1, e2⟩ := flat_v r h.1
    obtain ⟨e3, e4⟩ := flat_vs t h.2
    exact ⟨by rw [List.map_cons, ← e1, ← e3], by rw [List.all_cons, e2, e4]; rfl⟩
def seqOf (M : Mp) : DL.D → Option (List DL.D)
  | .tup xs => some xs
  | d => lstOf M d
theorem seqOf_rp {K : PySem.W.Frag} {F : Hp} {M : Mp} {H : Hp} {v : V} {d : DL.D} {ds : List DL.D} (R : Rel K F M H) (r : Rp K F v d) (h : seqOf M d = some ds) : ∃ a xs, v = .ref a ∧ (SqL K H a xs ∨ SqT K H a xs) ∧ RpAll K F xs ds := by
  unfold seqOf at h
  split at h
  · cases h
    cases r with
    | tup sq ra => exact ⟨_, _, rfl, .inr (Same.tseq R.sub sq), ra⟩
  · obtain ⟨a, xs, e, h1, ra⟩ := lstOf_rp R r h
    exact ⟨a, xs, e, .inl h1, ra⟩
def rInD (neg : Bool) : RD2
  | .str x, .str y, M, Q => ∃ c, x = ⟨#[c]⟩ ∧ Q (.bl (if neg then !decide (c ∈ y.cps.toList) else decide (c ∈ y.cps.toList))) M
  | d, e, M, Q => ∃ ys, seqOf M e = some ys ∧ flatD d = true ∧ ys.all flatD = true ∧ Q (.bl (if neg then !(ys.any fun y => L2.eqV (vOf y) (vOf d)) else ys.any fun y => L2.eqV (vOf y) (vOf d))) M
theorem od_ins (neg : Bool) : OpD X (compareOp (if neg then .NotIn else .In)) (rInD neg) := by
  intro pins s σ H x y v u Q0 I rx ry ⟨F, M, d, e, Q, r1, r2, rl, q, k⟩
  unfold rInD at q
  split at q
  · cases r1
    cases r2
    obtain ⟨c, e1, q⟩ := q
    subst e1
    have k1 := k _ _ F M H (Stp.refl rl) (.bl _) q
    cases neg with
    | true => exact op_notIn_sign pins s σ H _ _ v u Q0 I rx ry ⟨c, _, rfl, rfl, k1⟩
    | false => exact op_in_sign pins s σ H _ _ v u Q0 I rx ry ⟨c, _, rfl, rfl, k1⟩
  · obtain ⟨ys, e1, f1, f2, q⟩ := q
    have k1 := k _ _ F M H (Stp.refl rl) (.bl _) q
    obtain ⟨a, xs, rfl, h1, ra⟩ := seqOf_rp rl r2 e1
    obtain ⟨ev, fv⟩ := flat_v r1 f1
    obtain ⟨ews, fws⟩ := flat_vs ra f2
    have ei : (ys.any fun y => L2.eqV (vOf y) (vOf d)) = L2.inV x xs := by
      unfold L2.inV
      rw [ews, ev, List.any_map]
      rfl
    rw [ei] at k1
    cases neg with
    | true => exact op_notIn_seq pins s σ H _ _ v u Q0 I rx ry ⟨a, xs, rfl, h1, fv, fws, k1⟩
    | false => exact op_in_seq pins s σ H _ _ v u Q0 I rx ry ⟨a, xs, rfl, h1, fv, fws, k1⟩
theorem od_in : OpD X (compareOp .In) (rInD false) := od_ins false
theorem od_notIn : OpD X (compareOp .NotIn) (rInD true) := od_ins true
def isNon : DL.D → Bool
  | .non => true
  | _ => false
def rIsN (neg : Bool) : RD2 := fun x y M Q => y = .non ∧ Q (.bl (if neg then !isNon x else isNon x)) M
theorem isNon_v {K : PySem.W.Frag} {F : Hp} {v : V} {d : DL.D} (r : Rp K F v d) : decide (v = .non) = isNon d := by cases r <;> simp [isNon]
theorem od_iss (neg : Bool) : OpD X (compareOp (if neg then .IsNot else .Is)) (rIsN neg) := by
  intro pins s σ H x y v u Q0 I rx ry ⟨F, M, d, e, Q, r1, r2, rl, ⟨e1, q⟩, k⟩
  subst e1
  cases r2
  have k1 := k _ _ F M H (Stp.refl rl) (.bl _) q
  rw [← isNon_v r1] at k1
  cases neg with
  | true => exact op_notN pins s σ H _ _ v u Q0 I rx ry ⟨rfl, k1⟩
  | false => exact op_isN pins s σ H _ _ v u Q0 I rx ry ⟨rfl, k1⟩
theorem od_is : OpD X (compareOp .Is) (rIsN false) := od_iss false
theorem od_isNot : OpD X (compareOp .IsNot) (rIsN true) := od_iss true
end
end DL

/-! DL4: items, slices, built-in calls, methods, what is walked, over data. -/
namespace DL
open PySem PySem.Spec L2
open PyProof.Rows hiding St

section
variable {X : Cx} {pos p2 : Pos} {a b e : Expr} {t u : DTE}
/-! ### items -/
def rIxD : RD2
  | .str z, .int i, M, Q => z.length ≤ sizeLine ∧ ∃ c, atI z.cps.toList i = some c ∧ Q (.str ⟨#[c]⟩) M
  | x, .int i, M, Q => ∃ xs d, seqOf M x = some xs ∧ atI xs i = some d ∧ Q d M
  | _, _, _, _ => False
theorem atI_rp {K : PySem.W.Frag} {F : Hp} {vs : List V} {ds : List DL.D} {i : Int} {d : DL.D} (ra : RpAll K F vs ds) (h : atI ds i = some d) : ∃ v, atI vs i = some v ∧ Rp K F v d := by
  unfold atI at h ⊢
  rw [ra.length]
  cases e : ixN ds.length i with
  | none => rw [e] at h; cases h
  | some j =>
    rw [e] at h
    exact ra.get (show ds[j]? = some d from h)
theorem ixd : IxR X (can2 X.K rIxD) := by
  intro value slice pins s σ H x y v w Q0 I rx ry ⟨F, M, d, e, Q, r1, r2, rl, q, k⟩ hs
  unfold rIxD at q
  split at q
  · cases r1
    cases r2
    obtain ⟨hz, c, hc, q⟩ := q
    exact ix_str value slice pins s σ H _ _ v w Q0 I rx ry ⟨_, _, c, rfl, rfl, hz, hc, k _ _ F M H (Stp.refl rl) (.str _) q⟩ hs
  · cases r2
    obtain ⟨xs, dd, e1, e2, q⟩ := q
    obtain ⟨p, vs, rfl, h1, ra⟩ := seqOf_rp rl r1 e1
    obtain ⟨vv, h2, rp⟩ := atI_rp ra e2
    have k1 := k vv dd F M H (Stp.refl rl) rp q
    rcases h1 with h1 | h1
    · exact ix_list value slice pins s σ H _ _ v w Q0 I rx ry ⟨p, vs, _, vv, rfl, rfl, h1, h2, k1⟩ hs
    · exact ix_tup value slice pins s σ H _ _ v w Q0 I rx ry ⟨p, vs, _, vv, rfl, rfl, h1, h2, k1⟩ hs
  · exact q.elim
theorem de_ix (ha : DE X a t) (hb : DE X b u) (hs : PlainIx b := by exact fun _ _ => rfl) : DE X (.Subscript a b pos) (dOp rIxD t u) :=
  PE.weak (pe_ix ixd ha hb hs) fun _ _ _ q => can_op q

/-! ### slices -/
abbrev DTO := Rho → Mp → (Option Int → Mp → Prop) → Prop
def canO (K : PySem.W.Frag) (t : DTO) : TO := fun σ H Q0 => ∃ F M ρ Q, RelS K F σ ρ ∧ Rel K F M H ∧ t ρ M Q ∧ ∀ o F' M' H', Stp K F M H F' M' H' → Q o M' → Q0 o H'
abbrev DO (X : Cx) (e : Option Expr) (t : DTO) : Prop := PO X e (canO X.K t)
def dNoPart : DTO := fun _ M Q => Q none M
def dPart (t : DTE) : DTO := fun ρ M Q => t ρ M fun d M1 => ∃ i, d = .int i ∧ Q (some i) M1
theorem do_none : DO X none dNoPart := by
  refine ⟨fun pins s σ H Q0 I ⟨F, M, ρ, Q, rs, rl, q, k⟩ => ?_⟩
  exact po_none.run pins s σ H _ I (k none F M H (Stp.refl rl) q)
theorem do_some (h : DE X e t) : DO X (some e) (dPart t) := by
  refine ⟨fun pins s σ H Q0 I ⟨F, M, ρ, Q, rs, rl, q, k⟩ => ?_⟩
  refine (po_some h).run pins s σ H _ I ⟨F, M, ρ, _, rs, rl, q, fun v d F1 M1 H1 s1 rp ⟨i, e1, q1⟩ => ?_⟩
  subst e1
  cases rp
  exact ⟨i, rfl, k _ F1 M1 H1 s1 q1⟩
def cutD {α : Type} (xs : List α) (lo hi : Option Int) : List α := (xs.drop (HT.sIx xs.length 0 lo)).take (HT.sIx xs.length xs.length hi - HT.sIx xs.length 0 lo)
theorem cut_rp {K : PySem.W.Frag} {F : Hp} {vs : List V} {ds : List DL.D} (ra : RpAll K F vs ds) (lo hi : Option Int) : RpAll K F (cutV vs lo hi) (cutD ds lo hi) := by
  unfold cutV cutD
  rw [ra.length]
  exact (ra.drop _).take _
def rSlD (fz : Bool) : DL.D → Option Int → Option Int → Mp → DK → Prop
  | .str z, lo, hi, M, Q => z.length ≤ sizeLine ∧ Q (.str (L2.cutS z lo hi)) M
  | .tup xs, lo, hi, M, Q => Q (.tup (cutD xs lo hi)) M
  | x, lo, hi, M, Q => ∃ xs, lstOf M x = some xs ∧ newL fz (cutD xs lo hi) M Q
def canSl (K : PySem.W.Frag) (r : DL.D → Option Int → Option Int → Mp → DK → Prop) : V → Option Int → Option Int → Hp → VK → Prop := fun x lo hi H Q0 => ∃ F M d Q, Rp K F x d ∧ Rel K F M H ∧ r d lo hi M Q ∧
  ∀ v z F' M' H', Stp K F M H F' M' H' → Rp K F' v z → Q z M' → Q0 v H'
theorem sld (fz : Bool) : SlR X (canSl X.K (rSlD fz)) := by
  intro pins s σ H x v vl vu lo hi sl Q0 I rx hs pl pu ⟨F, M, d, Q, r1, rl, q, k⟩
  unfold rSlD at q
  split at q
  · cases r1
    exact sl_str pins s σ H _ v vl vu lo hi sl Q0 I rx hs pl pu ⟨_, rfl, q.1, k _ _ F M H (Stp.refl rl) (.str _) q.2⟩
  · cases r1 with
    | tup sq ra =>
      refine sl_tupA pins s σ H _ v vl vu lo hi sl Q0 I rx hs pl pu ?_
      refine ⟨_, _, rfl, Same.tseq rl.sub sq, fun ⟨h1, h2⟩ => ?_, fun _ p hp => newT_ok rl (cut_rp ra lo hi) q k p hp⟩
      rw [ra.length] at h1 h2
      refine k _ _ F M H (Stp.refl rl) (.tup sq ra) ?_
      unfold cutD at q
      rw [h1, h2] at q
      simpa using q
  · obtain ⟨xs, e1, q⟩ := q
    obtain ⟨p, vs, rfl, h1, ra⟩ := lstOf_rp rl r1 e1
    exact sl_list pins s σ H _ v vl vu lo hi sl Q0 I rx hs pl pu ⟨p, vs, rfl, h1, fun p hp => newL_ok rl (cut_rp ra lo hi) q k p hp⟩
def dSl (fz : Bool) (t : DTE) (l h : DTO) : DTE := fun ρ M Q => t ρ M fun x M1 => l ρ M1 fun lo M2 => h ρ M2 fun hi M3 => rSlD fz x lo hi M3 Q
theorem de_slice (fz : Bool) {lo hi : Option Expr} {l h : DTO} (he : DE X e t) (hl : DO X lo l) (hh : DO X hi h) : DE X (.Subscript e (.Slice lo hi none p2) pos) (dSl fz t l h) := by
  refine PE.weak (pe_slice (sld fz) he hl hh) ?_
  rintro σ H Q0 ⟨F, M, ρ, Q, rs, rl, q, k⟩
  refine ⟨F, M, ρ, _, rs, rl, q, fun v d F1 M1 H1 s1 rp q1 => ?_⟩
  refine ⟨F1, M1, ρ, _, rs.mono s1.same, s1.rel, q1, fun lo F2 M2 H2 s2 q2 => ?_⟩
  refine ⟨F2, M2, ρ, _, (rs.mono s1.same).mono s2.same, s2.rel, q2, fun hi F3 M3 H3 s3 q3 => ?_⟩
  exact ⟨F3, M3, d, Q, (rp.mono s2.same).mono s3.same, s3.rel, q3, fun v z F4 M4 H4 s4 => k v z F4 M4 H4 (((s1.trans s2).trans s3).trans s4)⟩

/-! ### built-in calls -/
abbrev RDL := List DL.D → Mp → DK → Prop
def canL (K : PySem.W.Frag) (r : RDL) : List V → Hp → VK → Prop := fun vs H Q0 => ∃ F M ds Q, RpAll K F vs ds ∧ Rel K F M H ∧ r ds M Q ∧
  ∀ v z F' M' H', Stp K F M H F' M' H' → Rp K F' v z → Q z M' → Q0 v H'
abbrev CallD (X : Cx) (f : Value) (r : RDL) : Prop := CallR X f (canL X.K r)
def dCB (r : RDL) (t : DTA) : DTE := fun ρ M Q => t ρ M fun ds M1 => r ds M1 Q
theorem can_cb {K : PySem.W.Frag} {r : RDL} {ta : DTA} {σ : St} {H : Hp} {Q0 : VK} (h : canE K (dCB r ta) σ H Q0) : tCB (canL K r) (canA K ta) σ H Q0 := by
  obtain ⟨F, M, ρ, Q, rs, rl, q, k⟩ := h
  refine ⟨F, M, ρ, _, rs, rl, q, fun vs ds F1 M1 H1 s1 rp q1 => ?_⟩
  exact ⟨F1, M1, ds, Q, rp, s1.rel, q1, fun v z F2 M2 H2 s2 => k v z F2 M2 H2 (s1.trans s2)⟩
theorem de_b {id : String} {x : Str} {p : Pos} {es : List Expr} {r : RDL} {ta : DTA} (hc : CallD X (.builtin id) r) (hm : X.mg x = none) (ha : DA X (e :: es) ta) (hv : bootBuiltins x = some (.builtin id) := by decide +kernel) (hg : Gl X x := by rfl)
    (hn : x ≠ "__name__" := by decide) (hdb : (x == ("__debug__" : Str)) = false := by decide)
    (he : starEach (e :: es) X.env = (false, eval e X.env) :: starEach es X.env := by rfl) (hpl : (backTo pos (starEach es X.env)).any (·.1) = false := by rfl) : DE X (.Call (.Name x p) (e :: es) [] pos) (dCB r ta) :=
  PE.weak (pe_callB hc hg hm hv ha hn hdb he hpl) fun _ _ _ q => can_cb q
theorem de_bT {T : String} {x : Str} {p : Pos} {es : List Expr} {r : RDL} {ta : DTA} (hc : CallD X (.type T) r) (hm : X.mg x = none) (ha : DA X (e :: es) ta) (hv : bootBuiltins x = some (.type T) := by decide +kernel) (hg : Gl X x := by rfl)
    (hn : x ≠ "__name__" := by decide) (hdb : (x == ("__debug__" : Str)) = false := by decide)
    (he : starEach (e :: es) X.env = (false, eval e X.env) :: starEach es X.env := by rfl) (hpl : (backTo pos (starEach es X.env)).any (·.1) = false := by rfl) : DE X (.Call (.Name x p) (e :: es) [] pos) (dCB r ta) :=
  PE.weak (pe_callTy hc hg hm hv ha hn hdb he hpl) fun _ _ _ q => can_cb q
theorem rp1 {K : PySem.W.Frag} {F : Hp} {vs : List V} {d : DL.D} (h : RpAll K F vs [d]) : ∃ v, vs = [v] ∧ Rp K F v d := by
  cases h with
  | cons r t => cases t; exact ⟨_, rfl, r⟩
theorem rp2 {K : PySem.W.Frag} {F : Hp} {vs : List V} {d d' : DL.D} (h : RpAll K F vs [d, d']) : ∃ v v', vs = [v, v'] ∧ Rp K F v d ∧ Rp K F v' d' := by
  cases h with
  | cons r t =>
    obtain ⟨v, e, r'⟩ := rp1 t
    exact ⟨_, v, by rw [e], r, r'⟩
theorem rp_map {K : PySem.W.Frag} {F : Hp} {α : Type} {f : α → DL.D} {g : α → V} (h : ∀ v a, Rp K F v (f a) → v = g a) : ∀ {vs : List V} {as : List α}, RpAll K F vs (as.map f) → vs = as.map g
  | _, [], .nil => rfl
  | _, a :: as, .cons r t => by rw [List.map_cons, h _ a r, rp_map h t]
theorem rp_ints {K : PySem.W.Frag} {F : Hp} {vs : List V} {ns : List Int} (h : RpAll K F vs (ns.map D.int)) : vs = ns.map V.int := rp_map (fun v a r => by cases r; rfl) h
theorem rp_strs {K : PySem.W.Frag} {F : Hp} {vs : List V} {ns : List Str} (h : RpAll K F vs (ns.map D.str)) : vs = ns.map V.str := rp_map (fun v a r => by cases r; rfl) h
theorem rp_bls {K : PySem.W.Frag} {F : Hp} {vs : List V} {ns : List Bool} (h : RpAll K F vs (ns.map D.bl)) : vs = ns.map V.bl := rp_map (fun v a r => by cases r; rfl) h
theorem of_ints {K : PySem.W.Frag} {F : Hp} : ∀ ns : List Int, RpAll K F (ns.map V.int) (ns.map D.int)
  | [] => .nil
  | n :: ns => .cons (.int n) (of_ints ns)
theorem of_strs {K : PySem.W.Frag} {F : Hp} : ∀ ns : List Str, RpAll K F (ns.map V.str) (ns.map D.str)
  | [] => .nil
  | n :: ns => .cons (.str n) (of_strs ns)
def rLen : RDL
  | [.str x], M, Q => x.length ≤ sizeLine ∧ Q (.int x.length) M
  | [d], M, Q => ∃ xs, seqOf M d = some xs ∧ Q (.int xs.length) M
  | _, _, _ => False
theorem cd_len : CallD X (.builtin "len") rLen := by
  intro pins s σ H vs us Q0 I r ⟨F, M, ds, Q, rp, rl, q, k⟩
  unfold rLen at q
  split at q
  · obtain ⟨v, rfl, r1⟩ := rp1 rp
    cases r1
    exact call_len pins s σ H _ us Q0 I r ⟨_, _, rfl, ⟨q.1, rfl⟩, k _ _ F M H (Stp.refl rl) (.int _) q.2⟩
  · obtain ⟨v, rfl, r1⟩ := rp1 rp
    obtain ⟨xs, e1, q⟩ := q
    obtain ⟨p, ws, rfl, h1, ra⟩ := seqOf_rp rl r1 e1
    refine call_len_seq pins s σ H _ us Q0 I r ⟨p, ws, rfl, h1, ?_⟩
    rw [ra.length]
    exact k _ _ F M H (Stp.refl rl) (.int _) q
  · exact q.elim
def rAllD : RDL := fun ds M Q => ∃ (d : DL.D) (bs : List Bool), ds = [d] ∧ lstOf M d = some (bs.map D.bl) ∧ Q (.bl (bs.all id)) M
def rAnyD : RDL := fun ds M Q => ∃ (d : DL.D) (bs : List Bool), ds = [d] ∧ lstOf M d = some (bs.map D.bl) ∧ Q (.bl (bs.any id)) M
theorem cd_all (hc : X.calm = true) : CallD X (.builtin "all") rAllD := by
  intro pins s σ H vs us Q0 I r ⟨F, M, ds, Q, rp, rl, ⟨d, bs, e, e1, q⟩, k⟩
  subst e
  obtain ⟨v, rfl, r1⟩ := rp1 rp
  obtain ⟨p, ws, rfl, h1, ra⟩ := lstOf_rp rl r1 e1
  rw [rp_bls ra] at h1
  exact cr_all hc pins s σ H _ us Q0 I r ⟨p, bs, rfl, h1, k _ _ F M H (Stp.refl rl) (.bl _) q⟩
theorem cd_any (hc : X.calm = true) : CallD X (.builtin "any") rAnyD := by
  intro pins s σ H vs us Q0 I r ⟨F, M, ds, Q, rp, rl, ⟨d, bs, e, e1, q⟩, k⟩
  subst e
  obtain ⟨v, rfl, r1⟩ := rp1 rp
  obtain ⟨p, ws, rfl, h1, ra⟩ := lstOf_rp rl r1 e1
  rw [rp_bls ra] at h1
  exact cr_any hc pins s σ H _ us Q0 I r ⟨p, bs, rfl, h1, k _ _ F M H (Stp.refl rl) (.bl _) q⟩
def rSumD : RDL := fun ds M Q => ∃ (d : DL.D) (ns : List Int), ds = [d] ∧ lstOf M d = some (ns.map D.int) ∧ Q (.int ns.sum) M
theorem cd_sum (hc : X.calm = true) : CallD X (.builtin "sum") rSumD := by
  intro pins s σ H vs us Q0 I r ⟨F, M, ds, Q, rp, rl, ⟨d, ns, e, e1, q⟩, k⟩
  subst e
  obtain ⟨v, rfl, r1⟩ := rp1 rp
  obtain ⟨p, ws, rfl, h1, ra⟩ := lstOf_rp rl r1 e1
  rw [rp_ints ra] at h1
  exact cr_sum hc pins s σ H _ us Q0 I r ⟨p, ns, rfl, h1, k _ _ F M H (Stp.refl rl) (.int _) q⟩
def rAbsD : RDL := fun ds M Q => ∃ i, ds = [.int i] ∧ Q (.int (if i < 0 then -i else i)) M
theorem cd_abs : CallD X (.builtin "abs") rAbsD := by
  intro pins s σ H vs us Q0 I r ⟨F, M, ds, Q, rp, rl, ⟨i, e, q⟩, k⟩
  subst e
  obtain ⟨v, rfl, r1⟩ := rp1 rp
  cases r1
  exact call_abs pins s σ H _ us Q0 I r ⟨_, rfl, k _ _ F M H (Stp.refl rl) (.int _) q⟩
def rMax2D : RDL := fun ds M Q => ∃ i j, ds = [.int i, .int j] ∧ Q (.int (if j > i then j else i)) M
def rMin2D : RDL := fun ds M Q => ∃ i j, ds = [.int i, .int j] ∧ Q (.int (if j < i then j else i)) M
theorem cd_max2 (hc : X.calm = true) : CallD X (.builtin "max") rMax2D := by
  intro pins s σ H vs us Q0 I r ⟨F, M, ds, Q, rp, rl, ⟨i, j, e, q⟩, k⟩
  subst e
  obtain ⟨v, v', rfl, r1, r2⟩ := rp2 rp
  cases r1
  cases r2
  exact call_max2 hc pins s σ H _ us Q0 I r ⟨_, _, rfl, k _ _ F M H (Stp.refl rl) (.int _) q⟩
theorem cd_min2 (hc : X.calm = true) : CallD X (.builtin "min") rMin2D := by
  intro pins s σ H vs us Q0 I r ⟨F, M, ds, Q, rp, rl, ⟨i, j, e, q⟩, k⟩
  subst e
  obtain ⟨v, v', rfl, r1, r2⟩ := rp2 rp
  cases r1
  cases r2
  exact call_min2 hc pins s σ H _ us Q0 I r ⟨_, _, rfl, k _ _ F M H (Stp.refl rl) (.int _) q⟩
def rIntD : RDL
  | [.int i], M, Q => Q (.int i) M
  | [.bl b], M, Q => Q (.int (if b = true then 1 else 0)) M
  | _, _, _ => False
theorem cd_int : CallD X (.type "int") rIntD := by
  intro pins s σ H vs us Q0 I r ⟨F, M, ds, Q, rp, rl, q, k⟩
  unfold rIntD at q
  split at q
  · obtain ⟨v, rfl, r1⟩ := rp1 rp
    cases r1
    exact call_int1 pins s σ H _ us Q0 I r (.inl ⟨_, rfl, k _ _ F M H (Stp.refl rl) (.int _) q⟩)
  · obtain ⟨v, rfl, r1⟩ := rp1 rp
    cases r1
    exact call_int1 pins s σ H _ us Q0 I r (.inr ⟨_, rfl, k _ _ F M H (Stp.refl rl) (.int _) q⟩)
  · exact q.elim
def rStrD : RDL := fun ds M Q => ∃ i, ds = [.int i] ∧ i.natAbs.log2 < 1920 ∧ Q (.str (toString i)) M
theorem cd_str : CallD X (.type "str") rStrD := by
  intro pins s σ H vs us Q0 I r ⟨F, M, ds, Q, rp, rl, ⟨i, e, h1, q⟩, k⟩
  subst e
  obtain ⟨v, rfl, r1⟩ := rp1 rp
  cases r1
  exact call_str_int pins s σ H _ us Q0 I r ⟨_, rfl, h1, k _ _ F M H (Stp.refl rl) (.str _) q⟩
/-- list(a list or a tuple) -/
def rListD (fz : Bool) : RDL := fun ds M Q => ∃ d xs, ds = [d] ∧ seqOf M d = some xs ∧ newL fz xs M Q
theorem cd_list (fz : Bool) : CallD X (.type "list") (rListD fz) := by
  intro pins s σ H vs us Q0 I r ⟨F, M, ds, Q, rp, rl, ⟨d, xs, e, e1, q⟩, k⟩
  subst e
  obtain ⟨v, rfl, r1⟩ := rp1 rp
  obtain ⟨p, ws, rfl, h1, ra⟩ := seqOf_rp rl r1 e1
  exact call_list_of pins s σ H _ us Q0 I r ⟨p, ws, rfl, h1, fun l hl => newL_ok rl ra q k l hl⟩
/-- isinstance(x, a built-in class) -/
def tyD (M : Mp) : DL.D → Option String
  | .non => some "NoneType"
  | .bl _ => some "bool"
  | .int _ => some "int"
  | .str _ => some "str"
  | .tup _ => some "tuple"
  | .lst _ => some "list"
  | .slst _ => some "list"
  | .dct _ _ => some "dict"
  | .ref a => match mol (M a) with
    | some _ => some "list"
    | none => none
theorem tyD_x {K : PySem.W.Frag} {F : Hp} {M : Mp} {H : Hp} {v : V} {d : DL.D} {T : String} (R : Rel K F M H) (r : Rp K F v d) (h : tyD M d = some T) : TyX K H v (.type T) := by
  cases r with
  | non => cases h; exact .base .non
  | bl b => cases h; exact .base (.bl b)
  | int b => cases h; exact .base (.int b)
  | str b => cases h; exact .base (.str b)
  | tup sq ra =>
    cases h
    rcases Same.tseq R.sub sq with (e | ⟨o, e⟩) | ⟨o, its, n, e, c, _⟩
    · exact .base (.tup e)
    · exact .fTuple e
    · exact .kTuple e c
  | lst e ra => cases h; exact .base (.lst (R.sub _ _ e))
  | slst sq ra =>
    cases h
    rcases R.sub.seq sq with (e | ⟨o, e⟩) | ⟨o, its, n, e, c, _⟩
    · exact .base (.lst e)
    · exact .base (.frz e)
    · exact .kList e c
  | dct e l ra => cases h; exact .base (.dK (R.sub _ _ e))
  | ref a =>
    have h' : (match mol (M a) with | some _ => some "list" | none => none) = some T := h
    split at h'
    · rename_i xs e
      cases h'
      obtain ⟨vs, h1, _⟩ := R.lst (mol_some e)
      exact .base (.lst h1)
    · cases h'
end
end DL

/-! DL5: isinstance, what is walked, methods. -/
namespace DL
open PySem PySem.Spec L2
open PyProof.Rows hiding St

/-! ### isinstance -/
def isiB (S T : String) : Bool := S == T || (S == "bool" && T == "int")
def dIsi (T : String) (t : DTE) : DTE := fun ρ M Q => t ρ M fun d M1 => ∃ S, tyD M1 d = some S ∧ Q (.bl (isiB S T)) M1
theorem tyD_mem {M : Mp} {d : DL.D} {S : String} (h : tyD M d = some S) : S = "NoneType" ∨ S = "bool" ∨ S = "int" ∨ S = "str" ∨ S = "tuple" ∨ S = "list" ∨ S = "dict" := by
  cases d with
  | ref a =>
    have h' : (match mol (M a) with | some _ => some "list" | none => none) = some S := h
    split at h'
    · cases h'; simp
    · cases h'
  | _ => cases h; simp
theorem kit_all {T : String} (hT : T = "bool" ∨ T = "int" ∨ T = "str" ∨ T = "tuple" ∨ T = "list" ∨ T = "dict") {S : String} (hS : S = "NoneType" ∨ S = "bool" ∨ S = "int" ∨ S = "str" ∨ S = "tuple" ∨ S = "list" ∨ S = "dict") : L2.kitB S T = some (isiB S T) := by
  rcases hT with rfl | rfl | rfl | rfl | rfl | rfl <;> rcases hS with rfl | rfl | rfl | rfl | rfl | rfl | rfl <;> decide +kernel
section
variable {X : Cx} {pos p p' : Pos} {e : Expr} {t : DTE}
theorem de_isi {T : String} {y : Str} (m1 : X.mg "isinstance" = none) (m2 : X.mg y = none) (he : DE X e t) (hT : T = "bool" ∨ T = "int" ∨ T = "str" ∨ T = "tuple" ∨ T = "list" ∨ T = "dict" := by simp) (hv : bootBuiltins y = some (.type T) := by decide +kernel)
    (hg : Gl X "isinstance" := by rfl) (hg2 : Gl X y := by rfl) (hn : y ≠ "__name__" := by decide) (hd : (y == ("__debug__" : Str)) = false := by decide)
    (s1 : starEach [e, .Name y p'] X.env = (false, eval e X.env) :: starEach [.Name y p'] X.env := by rfl) (s2 : starEach [.Name y p'] X.env = (false, eval (.Name y p') X.env) :: starEach [] X.env := by rfl)
    (hpl : (backTo pos (starEach [.Name y p'] X.env)).any (·.1) = false := by rfl) : DE X (.Call (.Name "isinstance" p) [e, .Name y p'] [] pos) (dIsi T t) := by
  have h2 : PE X (.Name y p') (tC (.ty T)) := pe_bltn hg2 m2 hv rfl hn hd
  refine PE.weak (pe_callB call_isi hg m1 (by decide +kernel) (pa_cons he (pa_cons h2 pa_nil s2) s1) (by decide) (by decide) s1 hpl) ?_
  rintro σ H Q0 ⟨F, M, ρ, Q, rs, rl, q, k⟩
  refine ⟨F, M, ρ, _, rs, rl, q, fun v d F1 M1 H1 s1 rp ⟨S, eS, q1⟩ => ?_⟩
  exact ⟨v, .ty T, _, .type T, _, rfl, .ty T, tyD_x s1.rel rp eS, kit_ty (kit_all hT (tyD_mem eS)), k _ _ F1 M1 H1 s1 (.bl _) q1⟩
end

/-! ### what is walked -/
section
variable {X : Cx} {pos p : Pos} {tg e : Expr} {t : DTE}
theorem PI.or {u v : TI} (h1 : PI X tg e u) (h2 : PI X tg e v) : PI X tg e (fun σ H R => u σ H R ∨ v σ H R) :=
  ⟨fun pins s σ H R I q => q.elim (fun q => h1.run pins s σ H R I q) fun q => h2.run pins s σ H R I q⟩
/-- the signs of a text -/
def signs (x : Str) : List DL.D := x.cps.toList.map fun c => .str ⟨#[c]⟩
theorem jw_list {K : PySem.W.Frag} {F : Hp} {a : Addr} {ds : List DL.D} {G : Mp → Prop} (st : ∀ F1 M1 H1, Same F F1 → Rel K F1 M1 H1 → G M1 → ∃ xs, SqL K H1 a xs ∧ RpAll K F1 xs ds) : JW K F (Itl K a) ds G := by
  refine ⟨fun F1 M1 H1 s r g => ?_⟩
  obtain ⟨xs, sq, ra⟩ := st F1 M1 H1 s r g
  have W := walk_list (K := K) (a := a) (xs := xs)
  refine ⟨by rw [← ra.length]; exact W.stops H1 sq, fun i d hi => ?_⟩
  obtain ⟨v, hv, rp⟩ := ra.get hi
  have hl : i < xs.length := (List.getElem?_eq_some_iff.mp hv).1
  refine ⟨W.goes i H1 hl sq, fun x H2 y => ?_⟩
  obtain ⟨e, y2⟩ := W.yields i H1 x H2 hl sq y
  rw [hv] at y2
  cases y2
  rw [e]
  exact ⟨F1, Stp.refl r, rp⟩
theorem jw_tup {K : PySem.W.Frag} {F : Hp} {a : Addr} {xs : List V} {ds : List DL.D} (ra : RpAll K F xs ds) (sq : SqT K F a xs) : JW K F (Itt K a) ds (fun _ => True) := by
  refine ⟨fun F1 M1 H1 s r g => ?_⟩
  have sq' := Same.tseq (s.trans r.sub) sq
  have W := walk_tup (K := K) (a := a) (xs := xs)
  refine ⟨by rw [← ra.length]; exact W.stops H1 sq', fun i d hi => ?_⟩
  obtain ⟨v, hv, rp⟩ := ra.get hi
  have hl : i < xs.length := (List.getElem?_eq_some_iff.mp hv).1
  refine ⟨W.goes i H1 hl sq', fun x H2 y => ?_⟩
  obtain ⟨e, y2⟩ := W.yields i H1 x H2 hl sq' y
  rw [hv] at y2
  cases y2
  rw [e]
  exact ⟨F1, Stp.refl r, rp.mono s⟩
theorem jw_str {K : PySem.W.Frag} {F : Hp} {x : Str} : JW K F (Its x) (signs x) (fun _ => True) :=
  ⟨fun F1 M1 H1 s r g => ⟨by show x.cps.size ≤ (signs x).length; simp [signs], fun i d hi => by
    unfold signs at hi
    rw [List.getElem?_map, Array.getElem?_toList] at hi
    cases e : x.cps[i]? with
    | none => rw [e] at hi; cases hi
    | some c =>
      rw [e] at hi
      cases hi
      refine ⟨(Array.getElem?_eq_some_iff.mp e).1, fun v H2 ⟨e2, c', h', hv⟩ => ?_⟩
      rw [e] at h'
      cases h'
      subst e2 hv
      exact ⟨F1, Stp.refl r, .str _⟩⟩⟩
/-- over a text, a tuple, a list -/
def dIt (t : DTE) : DTI := fun ρ M R => t ρ M fun d M1 => match d with
  | .str x => R (signs x) (fun _ => True) M1
  | .tup xs => R xs (fun _ => True) M1
  | .lst xs => R xs (fun _ => True) M1
  | .slst xs => R xs (fun _ => True) M1
  | .ref a => ∃ xs, M1 a = some (.lst xs) ∧ R xs (fun M => M a = some (.lst xs)) M1
  | _ => False
/-- one walk for each kind of a value that is walked -/
theorem pi_any {te : TE} (he : PE X e te) : PI X tg e (fun σ H R => te σ H fun v H1 => (∃ x, v = .str x ∧ R (Its x) H1) ∨ (∃ a, v = .ref a ∧ (∃ xs, SqT X.K H1 a xs) ∧ R (Itt X.K a) H1) ∨ (∃ a, v = .ref a ∧ (∃ xs, SqL X.K H1 a xs) ∧ R (Itl X.K a) H1)) := by
  constructor
  intro pins s σ H R I q
  refine thn (he.run pins s σ H _ I q) ?_
  rintro u s1 ⟨v, H1, I1, r1, ⟨x, rfl, q1⟩ | ⟨a, rfl, ⟨xs, hq⟩, q1⟩ | ⟨a, rfl, ⟨xs, hq⟩, q1⟩⟩
  · obtain ⟨t, rfl⟩ := r1
    cases ha : x.cps.all (· < 128) with
    | false => exact wpAny_pyIter_wide ha (pi_one (tk := s1.toks) I1 _ (turn_str _ x t "str_iterator" (.inr rfl)) ⟨_, Heap.get?_push_size _ rfl, rfl, rfl⟩ q1)
    | true => exact wpAny_pyIter_ascii ha (pi_one (tk := s1.toks) I1 _ (turn_str _ x t "str_ascii_iterator" (.inl rfl)) ⟨_, Heap.get?_push_size _ rfl, rfl, rfl⟩ q1)
  · cases r1
    obtain ⟨its, rv, p, hz⟩ := I1.tuple hq
    exact wpAny_pyIter_tuple (show s1.heap.IsTuple a its.toArray from p) (pi_one (tk := s1.toks) I1 _ (turn_tuple a _) ⟨_, Heap.get?_push_size _ rfl, rfl, rfl⟩ q1)
  · cases r1
    obtain ⟨its, rv, p, hz⟩ := I1.list hq
    exact wpAny_pyIter_list p.isList (pi_one (tk := s1.toks) I1 _ (turn_list a _) ⟨_, Heap.get?_push_size _ rfl, rfl, rfl⟩ q1)
theorem di_it (he : DE X e t) : DI X tg e (dIt t) := by
  refine PI.weak (pi_any he) ?_
  rintro σ H R0 ⟨F, M, ρ, R, rs, rl, q, k⟩
  refine ⟨F, M, ρ, _, rs, rl, q, fun v d F1 M1 H1 s1 rp q1 => ?_⟩
  cases d with
  | str x =>
    cases rp
    exact .inl ⟨x, rfl, k _ _ _ F1 M1 H1 s1 jw_str q1⟩
  | tup xs =>
    cases rp with
    | tup sq ra => exact .inr (.inl ⟨_, rfl, ⟨_, Same.tseq s1.rel.sub sq⟩, k _ _ _ F1 M1 H1 s1 (jw_tup ra sq) q1⟩)
  | lst xs =>
    cases rp with
    | lst e1 ra => exact .inr (.inr ⟨_, rfl, ⟨_, SqL.of (s1.rel.sub _ _ e1)⟩, k _ _ _ F1 M1 H1 s1 (jw_list fun F2 M2 H2 s r _ => ⟨_, SqL.of (r.sub _ _ (s _ _ e1)), ra.mono s⟩) q1⟩)
  | slst xs =>
    cases rp with
    | slst e1 ra => exact .inr (.inr ⟨_, rfl, ⟨_, s1.rel.sub.seq e1⟩, k _ _ _ F1 M1 H1 s1 (jw_list fun F2 M2 H2 s r _ => ⟨_, (s.trans r.sub).seq e1, ra.mono s⟩) q1⟩)
  | ref a =>
    obtain ⟨xs, hm, q1⟩ := q1
    cases rp
    obtain ⟨vs, h1, ra⟩ := s1.rel.lst hm
    exact .inr (.inr ⟨_, rfl, ⟨_, SqL.of h1⟩, k _ _ _ F1 M1 H1 s1 (jw_list fun F2 M2 H2 s r g => let ⟨ws, h2, rb⟩ := r.lst g; ⟨ws, SqL.of h2, rb⟩) q1⟩)
  | non => exact q1.elim
  | dct a b => exact q1.elim
  | bl b => exact q1.elim
  | int i => exact q1.elim
/-- over range(n), range(a, b) -/
def rgD (lo : Int) (n : Nat) : List DL.D := (List.range n).map fun i => .int (lo + (i : Nat))
theorem jw_range {K : PySem.W.Frag} {F : Hp} {lo : Int} {n : Nat} : JW K F (Itr lo n) (rgD lo n) (fun _ => True) :=
  ⟨fun F1 M1 H1 s r g => ⟨by show n ≤ (rgD lo n).length; simp [rgD], fun i d hi => by
    unfold rgD at hi
    rw [List.getElem?_map] at hi
    by_cases h : i < n
    · rw [List.getElem?_range h] at hi
      cases hi
      refine ⟨h, fun v H2 ⟨e2, hv⟩ => ?_⟩
      subst e2 hv
      exact ⟨F1, Stp.refl r, .int _⟩
    · rw [List.getElem?_eq_none (by simpa using h)] at hi
      cases hi⟩⟩
def dRange1 (t : DTE) : DTI := fun ρ M R => t ρ M fun d M1 => ∃ j, d = .int j ∧ -(2 ^ 62) ≤ j ∧ j < 2 ^ 62 ∧ R (rgD 0 j.toNat) (fun _ => True) M1
def dRange2 (t u : DTE) : DTI := fun ρ M R => t ρ M fun d M1 => u ρ M1 fun d' M2 => ∃ i j, d = .int i ∧ d' = .int j ∧ (-(2 ^ 62) ≤ i ∧ i < 2 ^ 62 ∧ -(2 ^ 62) ≤ j ∧ j < 2 ^ 62) ∧ R (rgD i (j - i).toNat) (fun _ => True) M2
theorem di_range1 {u : DTE} (hm : X.mg "range" = none) (he : DE X e u) (hg : Gl X "range" := by rfl) (hs : starEach [e] X.env = [(false, eval e X.env)] := by rfl) : DI X tg (.Call (.Name "range" p) [e] [] pos) (dRange1 u) := by
  refine PI.weak (pi_range1 hg hm (pa_cons he pa_nil hs) hs) ?_
  rintro σ H R0 ⟨F, M, ρ, R, rs, rl, q, k⟩
  refine ⟨F, M, ρ, _, rs, rl, q, fun v d F1 M1 H1 s1 rp ⟨j, ed, h1, h2, q1⟩ => ?_⟩
  subst ed
  cases rp
  exact ⟨j, rfl, h1, h2, k _ _ _ F1 M1 H1 s1 jw_range q1⟩
theorem di_range2 {e2 : Expr} {u u2 : DTE} (hm : X.mg "range" = none) (he : DE X e u) (he2 : DE X e2 u2) (hg : Gl X "range" := by rfl) (hs : starEach [e, e2] X.env = [(false, eval e X.env), (false, eval e2 X.env)] := by rfl) (hs2 : starEach [e2] X.env = [(false, eval e2 X.env)] := by rfl) :
    DI X tg (.Call (.Name "range" p) [e, e2] [] pos) (dRange2 u u2) := by
  refine PI.weak (pi_range2 hg hm (pa_cons he (pa_cons he2 pa_nil hs2) (by rw [hs, hs2])) hs hs2) ?_
  rintro σ H R0 ⟨F, M, ρ, R, rs, rl, q, k⟩
  refine ⟨F, M, ρ, _, rs, rl, q, fun v d F1 M1 H1 s1 rp q1 => ?_⟩
  refine ⟨F1, M1, ρ, _, rs.mono s1.same, s1.rel, q1, fun v2 d2 F2 M2 H2 s2 rp2 ⟨i, j, e1, e2, hb, q2⟩ => ?_⟩
  subst e1 e2
  cases rp
  cases rp2
  exact ⟨i, j, rfl, hb, k _ _ _ F2 M2 H2 (s1.trans s2) jw_range q2⟩
end
end DL

/-! DL6: stores by place, methods of lists and texts, repr, list(range), zip. -/
namespace DL
open PySem PySem.Spec L2
open PyProof.Rows hiding St

/-! ### xs[i] = v -/
def rSetD : DTSet := fun o i v M Q => ∃ a xs k j, o = .ref a ∧ i = .int k ∧ M a = some (.lst xs) ∧ ixN xs.length k = some j ∧ Q (mu M a (.lst (xs.set j v)))
section
variable {X : Cx} {pos : Pos}
theorem set_lstD : PSet X (canSet X.K rSetD) := by
  refine PSet.weak set_list ?_
  rintro o i v H Q0 ⟨F, M, od, id, vd, Q, r1, r2, r3, rl, ⟨a, xs, k, j, e1, e2, hm, hj, q⟩, kk⟩
  subst e1 e2
  cases r1
  cases r2
  obtain ⟨vs, h1, ra⟩ := rl.lst hm
  exact ⟨a, vs, k, j, rfl, rfl, h1, by rw [ra.length]; exact hj, kk F _ _ (rl.set hm (o := .lst (vs.set j v)) (m := .lst (xs.set j vd)) (ra.set r3 j)) q⟩

/-! ### methods of lists -/
def canMt (K : PySem.W.Frag) (r : DL.D → List DL.D → Mp → DK → Prop) : V → List V → Hp → VK → Prop := fun x vs H Q0 => ∃ F M d ds Q, Rp K F x d ∧ RpAll K F vs ds ∧ Rel K F M H ∧ r d ds M Q ∧
  ∀ v z F' M' H', Stp K F M H F' M' H' → Rp K F' v z → Q z M' → Q0 v H'
variable {o e : Expr} {es : List Expr} {to : DTE} {ta : DTA} {name : Str} {apos cpos : Pos} {id : String} {r : DL.D → List DL.D → Mp → DK → Prop}
def dBM (r : DL.D → List DL.D → Mp → DK → Prop) (to : DTE) (ta : DTA) : DTE := fun ρ M Q => to ρ M fun x M1 => (lstOf M1 x).isSome = true ∧ ta ρ M1 fun ds M2 => r x ds M2 Q
theorem ty_list {K : PySem.W.Frag} {F : Hp} {M : Mp} {H : Hp} {v : V} {d : DL.D} (R : Rel K F M H) (rp : Rp K F v d) (h : (lstOf M d).isSome = true) : tyV K "list" v H := by
  obtain ⟨ds, e⟩ := Option.isSome_iff_exists.mp h
  obtain ⟨a, xs, rfl, h1, _⟩ := lstOf_rp R rp e
  exact .inl ⟨rfl, _, h1⟩
theorem de_bm (slot : Slot "list" name id) (hty : typeOf (.builtin id) = pure (.type "method_descriptor")) (hm : MtR X id (canMt X.K r)) (ho : DE X o to) (ha : DA X (e :: es) ta)
    (hbase : attributeBase o name X.env (eval o X.env) = eval o X.env := by rfl)
    (hfew : ((backTo cpos (starEach (e :: es) X.env)).all (fun x => !x.1) && (backToKw cpos (keywordEach [] X.env)).all (fun x => x.1.isSome)
      && decide ((e :: es).length + ([] : List Keyword).length + (if ([] : List Keyword).isEmpty then 0 else 1) < 30)) = true := by rfl)
    (hline : (apos.endLine == cpos.line) = true := by rfl) (hs : starEach (e :: es) X.env = (false, eval e X.env) :: starEach es X.env := by rfl) (hplain : (backTo cpos (starEach es X.env)).any (·.1) = false := by rfl) :
    DE X (.Call (.Attribute o name apos) (e :: es) [] cpos) (dBM r to ta) := by
  refine PE.weak (pe_bm PySem.F.plainAttrs_list slot hty hm ho ha hbase hfew hline hs hplain) ?_
  rintro σ H Q0 ⟨F, M, ρ, Q, rs, rl, q, k⟩
  refine ⟨F, M, ρ, _, rs, rl, q, fun v d F1 M1 H1 s1 rp1 ⟨hl, q1⟩ => ⟨ty_list s1.rel rp1 hl, ?_⟩⟩
  exact ⟨F1, M1, ρ, _, rs.mono s1.same, s1.rel, q1, fun vs ds F2 M2 H2 s2 rp2 q2 => ⟨F2, M2, d, ds, Q, rp1.mono s2.same, rp2, s2.rel, q2, fun v z F3 M3 H3 s3 => k v z F3 M3 H3 ((s1.trans s2).trans s3)⟩⟩
def dBM0 (r : DL.D → List DL.D → Mp → DK → Prop) (to : DTE) : DTE := fun ρ M Q => to ρ M fun x M1 => (lstOf M1 x).isSome = true ∧ r x [] M1 Q
theorem de_bm0 (slot : Slot "list" name id) (hty : typeOf (.builtin id) = pure (.type "method_descriptor")) (hm : MtR X id (canMt X.K r)) (ho : DE X o to)
    (hbase : attributeBase o name X.env (eval o X.env) = eval o X.env := by rfl) (hline : (apos.endLine == cpos.line) = true := by rfl) : DE X (.Call (.Attribute o name apos) [] [] cpos) (dBM0 r to) := by
  refine PE.weak (pe_bm0 PySem.F.plainAttrs_list slot hty hm ho hbase hline) ?_
  rintro σ H Q0 ⟨F, M, ρ, Q, rs, rl, q, k⟩
  exact ⟨F, M, ρ, _, rs, rl, q, fun v d F1 M1 H1 s1 rp1 ⟨hl, q1⟩ => ⟨ty_list s1.rel rp1 hl, F1, M1, d, [], Q, rp1, .nil, s1.rel, q1, fun v z F3 M3 H3 s3 => k v z F3 M3 H3 (s1.trans s3)⟩⟩
theorem of_MtM {id : String} {r : V → List V → Hp → VK → Prop} (h : MtM X id r) : MtR X id r := h
def rAppD : DL.D → List DL.D → Mp → DK → Prop := fun x ds M Q => ∃ a y xs, x = .ref a ∧ ds = [y] ∧ M a = some (.lst xs) ∧ xs.length < sizeLine ∧ Q .non (mu M a (.lst (xs ++ [y])))
theorem md_append : MtR X "list.append" (canMt X.K rAppD) := by
  intro pins s σ H x vs v us Q0 I rx rv ⟨F, M, d, ds, Q, r1, r2, rl, ⟨a, y, xs, e1, e2, hm, hz, q⟩, k⟩
  subst e1 e2
  cases r1
  obtain ⟨vy, rfl, ry⟩ := rp1 r2
  obtain ⟨ws, h1, ra⟩ := rl.lst hm
  exact mt_append pins s σ H _ _ v us Q0 I rx rv ⟨a, ws, vy, rfl, rfl, h1, by rw [ra.length]; exact hz, k _ .non F _ _ (rl.set hm (o := .lst (ws ++ [vy])) (m := .lst (xs ++ [y])) (ra.append (.cons ry .nil))) .non q⟩
def dAppend (to te : DTE) : DTE := dBM rAppD to (dCons te dNil)
theorem de_append {te : DTE} (ho : DE X o to) (he : DE X e te) (hs : starEach [e] X.env = (false, eval e X.env) :: starEach [] X.env := by rfl) (hbase : attributeBase o "append" X.env (eval o X.env) = eval o X.env := by rfl) (hline : (apos.endLine == cpos.line) = true := by rfl)
    (hfew : ((backTo cpos (starEach [e] X.env)).all (fun x => !x.1) && (backToKw cpos (keywordEach [] X.env)).all (fun x => x.1.isSome)
      && decide (([e] : List Expr).length + ([] : List Keyword).length + (if ([] : List Keyword).isEmpty then 0 else 1) < 30)) = true := by rfl) :
    DE X (.Call (.Attribute o "append" apos) [e] [] cpos) (dAppend to te) :=
  de_bm PySem.F.slot_list_append PySem.F.type_list_append md_append ho (da_cons he da_nil hs) hbase hfew hline hs rfl
def rExtD : DL.D → List DL.D → Mp → DK → Prop := fun x ds M Q => ∃ a y xs ys, x = .ref a ∧ ds = [y] ∧ M a = some (.lst xs) ∧ lstIn M y = some ys ∧ xs.length + ys.length ≤ sizeLine ∧ Q .non (mu M a (.lst (xs ++ ys)))
theorem md_extend : MtR X "list.extend" (canMt X.K rExtD) := by
  intro pins s σ H x vs v us Q0 I rx rv ⟨F, M, d, ds, Q, r1, r2, rl, ⟨a, y, xs, ys, e1, e2, hm, hy, hz, q⟩, k⟩
  subst e1 e2
  cases r1
  obtain ⟨vy, rfl, ry⟩ := rp1 r2
  obtain ⟨ws, h1, ra⟩ := rl.lst hm
  obtain ⟨b, zs, rfl, h2, rb⟩ := lstIn_rp rl ry hy
  exact mt_extend pins s σ H _ _ v us Q0 I rx rv ⟨a, b, ws, zs, rfl, rfl, h1, h2, by rw [ra.length, rb.length]; exact hz, k _ .non F _ _ (rl.set hm (o := .lst (ws ++ zs)) (m := .lst (xs ++ ys)) (ra.append rb)) .non q⟩
def dExtend (to te : DTE) : DTE := dBM rExtD to (dCons te dNil)
theorem de_extend {te : DTE} (ho : DE X o to) (he : DE X e te) (hs : starEach [e] X.env = (false, eval e X.env) :: starEach [] X.env := by rfl) (hbase : attributeBase o "extend" X.env (eval o X.env) = eval o X.env := by rfl) (hline : (apos.endLine == cpos.line) = true := by rfl)
    (hfew : ((backTo cpos (starEach [e] X.env)).all (fun x => !x.1) && (backToKw cpos (keywordEach [] X.env)).all (fun x => x.1.isSome)
      && decide (([e] : List Expr).length + ([] : List Keyword).length + (if ([] : List Keyword).isEmpty then 0 else 1) < 30)) = true := by rfl) :
    DE X (.Call (.Attribute o "extend" apos) [e] [] cpos) (dExtend to te) :=
  de_bm PySem.F.slot_list_extend PySem.F.type_list_extend md_extend ho (da_cons he da_nil hs) hbase hfew hline hs rfl
def rPopD : DL.D → List DL.D → Mp → DK → Prop := fun x ds M Q => ∃ a xs y, x = .ref a ∧ ds = [] ∧ M a = some (.lst xs) ∧ xs[xs.length - 1]? = some y ∧ Q y (mu M a (.lst xs.dropLast))
theorem md_pop : MtR X "list.pop" (canMt X.K rPopD) := by
  intro pins s σ H x vs v us Q0 I rx rv ⟨F, M, d, ds, Q, r1, r2, rl, ⟨a, xs, y, e1, e2, hm, hy, q⟩, k⟩
  subst e1 e2
  cases r1
  cases r2
  obtain ⟨ws, h1, ra⟩ := rl.lst hm
  obtain ⟨vy, h2, ry⟩ := ra.get hy
  have st := rl.set hm (o := .lst ws.dropLast) (m := .lst xs.dropLast) ra.dropLast
  exact mt_pop pins s σ H _ _ v us Q0 I rx rv ⟨a, ws, vy, rfl, rfl, h1, by rw [ra.length]; exact h2, k _ y F _ _ st ry q⟩
def dPop (to : DTE) : DTE := dBM0 rPopD to
theorem de_pop (ho : DE X o to) (hbase : attributeBase o "pop" X.env (eval o X.env) = eval o X.env := by rfl) (hline : (apos.endLine == cpos.line) = true := by rfl) : DE X (.Call (.Attribute o "pop" apos) [] [] cpos) (dPop to) :=
  de_bm0 PySem.F.slot_list_pop PySem.F.type_list_pop md_pop ho hbase hline
def rPopAtD : DL.D → List DL.D → Mp → DK → Prop := fun x ds M Q => ∃ a xs i j y, x = .ref a ∧ ds = [.int i] ∧ M a = some (.lst xs) ∧ ixN xs.length i = some j ∧ -(2 ^ 62) < i ∧ i < 2 ^ 62 ∧ xs[j]? = some y ∧ Q y (mu M a (.lst (xs.eraseIdx j)))
theorem md_popAt : MtR X "list.pop" (canMt X.K rPopAtD) := by
  intro pins s σ H x vs v us Q0 I rx rv ⟨F, M, d, ds, Q, r1, r2, rl, ⟨a, xs, i, j, y, e1, e2, hm, hj, h3, h4, hy, q⟩, k⟩
  subst e1 e2
  cases r1
  obtain ⟨vi, rfl, ri⟩ := rp1 r2
  cases ri
  obtain ⟨ws, h1, ra⟩ := rl.lst hm
  obtain ⟨vy, h2, ry⟩ := ra.get hy
  have st := rl.set hm (o := .lst (ws.eraseIdx j)) (m := .lst (xs.eraseIdx j)) (ra.eraseIdx j)
  have hj' := ixN_seq hj
  exact mt_popAt pins s σ H _ _ v us Q0 I rx rv ⟨a, ws, i, j, vy, rfl, rfl, h1, by omega, by omega, by rw [ra.length]; exact hj'.1, h2, k _ y F _ _ st ry q⟩
def dPopAt (to te : DTE) : DTE := dBM rPopAtD to (dCons te dNil)
theorem de_popAt {te : DTE} (ho : DE X o to) (he : DE X e te) (hs : starEach [e] X.env = (false, eval e X.env) :: starEach [] X.env := by rfl) (hbase : attributeBase o "pop" X.env (eval o X.env) = eval o X.env := by rfl) (hline : (apos.endLine == cpos.line) = true := by rfl)
    (hfew : ((backTo cpos (starEach [e] X.env)).all (fun x => !x.1) && (backToKw cpos (keywordEach [] X.env)).all (fun x => x.1.isSome)
      && decide (([e] : List Expr).length + ([] : List Keyword).length + (if ([] : List Keyword).isEmpty then 0 else 1) < 30)) = true := by rfl) :
    DE X (.Call (.Attribute o "pop" apos) [e] [] cpos) (dPopAt to te) :=
  de_bm PySem.F.slot_list_pop PySem.F.type_list_pop md_popAt ho (da_cons he da_nil hs) hbase hfew hline hs rfl

/-! ### texts' methods, -x, ** -/
def dUpper (to : DTE) : DTE := fun ρ M Q => to ρ M fun x M1 => ∃ a, x = .str a ∧ a.length ≤ 5592405 ∧ Q (.str (Txt.upper a)) M1
theorem de_upper (ho : DE X o to) (hbase : attributeBase o "upper" X.env (eval o X.env) = eval o X.env := by rfl) (hline : (apos.endLine == cpos.line) = true := by rfl) : DE X (.Call (.Attribute o "upper" apos) [] [] cpos) (dUpper to) := by
  refine PE.weak (pe_upper ho hbase hline) ?_
  rintro σ H Q0 ⟨F, M, ρ, Q, rs, rl, q, k⟩
  refine ⟨F, M, ρ, _, rs, rl, q, fun v d F1 M1 H1 s1 rp1 ⟨a, e1, hl, q1⟩ => ?_⟩
  subst e1
  cases rp1
  exact ⟨⟨a, rfl⟩, a, rfl, rfl, hl, k _ _ F1 M1 H1 s1 (.str _) q1⟩
def dJoin (to te : DTE) : DTE := fun ρ M Q => to ρ M fun x M1 => ∃ a, x = .str a ∧ te ρ M1 fun y M2 => ∃ ss : List Str, seqOf M2 y = some (ss.map D.str) ∧ (ss.map (·.length)).sum + ss.length * a.length ≤ 16777216 ∧ Q (.str (Txt.join a ss)) M2
theorem de_join {te : DTE} (ho : DE X o to) (he : DE X e te) (hs : starEach [e] X.env = [(false, eval e X.env)] := by rfl) (hbase : attributeBase o "join" X.env (eval o X.env) = eval o X.env := by rfl) (hline : (apos.endLine == cpos.line) = true := by rfl) :
    DE X (.Call (.Attribute o "join" apos) [e] [] cpos) (dJoin to te) := by
  refine PE.weak (pe_join ho he hs hbase hline) ?_
  rintro σ H Q0 ⟨F, M, ρ, Q, rs, rl, q, k⟩
  refine ⟨F, M, ρ, _, rs, rl, q, fun v d F1 M1 H1 s1 rp1 ⟨a, e1, q1⟩ => ?_⟩
  subst e1
  cases rp1
  refine ⟨⟨a, rfl⟩, F1, M1, ρ, _, rs.mono s1.same, s1.rel, q1, fun v2 d2 F2 M2 H2 s2 rp2 ⟨ss, e2, hz, q2⟩ => ?_⟩
  obtain ⟨p, ws, rfl, h1, ra⟩ := seqOf_rp s2.rel rp2 e2
  rw [rp_strs ra] at h1
  exact ⟨a, p, ss, rfl, rfl, h1, hz, k _ _ F2 M2 H2 (s1.trans s2) (.str _) q2⟩
def dNeg (te : DTE) : DTE := fun ρ M Q => te ρ M fun x M1 => ∃ i, x = .int i ∧ Q (.int (-i)) M1
theorem de_neg {te : DTE} (he : DE X e te) : DE X (.UnaryOp .USub e pos) (dNeg te) := by
  refine PE.weak (pe_un un_neg he) ?_
  rintro σ H Q0 ⟨F, M, ρ, Q, rs, rl, q, k⟩
  refine ⟨F, M, ρ, _, rs, rl, q, fun v d F1 M1 H1 s1 rp1 ⟨i, e1, q1⟩ => ?_⟩
  subst e1
  cases rp1
  exact ⟨i, rfl, k _ _ F1 M1 H1 s1 (.int _) q1⟩
def rPowD : RD2 := fun x y M Q => ∃ i j, x = .int i ∧ y = .int j ∧ ((0 ≤ j ∧ j ≤ 1000000 ∧ i.natAbs < 2 ^ 64) ∨ (0 ≤ j ∧ (Builtin.Int.intBits i : Int) * j ≤ 2 ^ 27)) ∧ Q (.int (i ^ j.toNat)) M
theorem od_pows : OpD X (binaryOp .Pow) rPowD := by
  intro pins s σ H x y v u Q0 I rx ry ⟨F, M, d, e, Q, r1, r2, rl, ⟨i, j, e1, e2, c, q⟩, k⟩
  rcases c with c | c
  · exact od_pow pins s σ H x y v u Q0 I rx ry ⟨F, M, d, e, Q, r1, r2, rl, ⟨i, j, e1, e2, c, q⟩, k⟩
  · exact od_powW pins s σ H x y v u Q0 I rx ry ⟨F, M, d, e, Q, r1, r2, rl, ⟨i, j, e1, e2, c, q⟩, k⟩

/-! ### repr -/
mutual
theorem py_noDict : ∀ (d : DL.D) (p : PyData), d.py = some p → p.hasDict = false
  | .non, _, h => by simp only [D.py] at h; cases h; rfl
  | .bl b, _, h => by simp only [D.py] at h; cases h; rfl
  | .int i, _, h => by simp only [D.py] at h; cases h; rfl
  | .str x, _, h => by simp only [D.py] at h; cases h; rfl
  | .ref a, _, h => by simp only [D.py] at h; cases h
  | .tup xs, _, h => by
    simp only [D.py] at h
    split at h
    · rename_i ps e; cases h; simp only [PyData.hasDict]; exact pyAll_noDict xs ps e
    · cases h
  | .lst xs, _, h => by
    simp only [D.py] at h
    split at h
    · rename_i ps e; cases h; simp only [PyData.hasDict]; exact pyAll_noDict xs ps e
    · cases h
  | .slst xs, _, h => by
    simp only [D.py] at h
    split at h
    · rename_i ps e; cases h; simp only [PyData.hasDict]; exact pyAll_noDict xs ps e
    · cases h
theorem pyAll_noDict : ∀ (ds : List DL.D) (ps : List PyData), pyAll ds = some ps → PyData.hasDictAll ps = false
  | [], _, h => by simp only [pyAll] at h; cases h; rfl
  | d :: ds, _, h => by
    simp only [pyAll] at h
    split at h
    · rename_i p ps e1 e2
      cases h
      simp only [PyData.hasDictAll, py_noDict d p e1, pyAll_noDict ds ps e2, Bool.or_self]
    · cases h
end
theorem pyM_noDict {M : Mp} {d : DL.D} {p : PyData} (h : pyM M d = some p) : p.hasDict = false := by
  unfold pyM at h
  split at h
  · split at h
    · split at h
      · rename_i ps e
        cases h
        simp only [PyData.hasDict]
        exact pyAll_noDict _ _ e
      · cases h
    · cases h
  · exact py_noDict _ _ h
def rReprD : RDL := fun ds M Q => ∃ d p, ds = [d] ∧ pyM M d = some p ∧ p.showable = true ∧ p.depth ≤ 62 ∧ p.shown.length ≤ sizeLine ∧ Q (.str p.shown) M
theorem cd_repr {n : Nat} (hr : Room n X.A) (gu : X.A.guards = some []) : CallD X (.builtin "repr") rReprD := by
  intro pins s σ H vs us Q0 I r ⟨F, M, ds, Q, rp, rl, ⟨d, p, e, e1, h1, h2, h3, q⟩, k⟩
  subst e
  obtain ⟨v, rfl, r1⟩ := rp1 rp
  obtain ⟨u, rfl, ru⟩ := vals1 r
  obtain ⟨as, rd⟩ := Dp.reads I p v u (pyM_dp rl r1 e1) ru
  have nd := pyM_noDict e1
  have fin : ∀ (h' : Heap) (t tk : Tok), (∀ b o, s.heap.get? b = some o → h'.get? b = some o) → EP X pins σ Q0 (.str p.shown t) { s with heap := h', toks := tk } :=
    fun h' t tk hk => ⟨.str p.shown, H, I.kept hk, ⟨t, rfl⟩, k _ _ F M H (Stp.refl rl) (.str _) q⟩
  have un := hr.units
  cases rd with
  | none => exact PySem.P.repr_of_none (fin s.heap _ _ fun _ _ z => z)
  | bool b => exact PySem.P.repr_of_bool (fin s.heap _ _ fun _ _ z => z)
  | int i t => exact PySem.P.repr_of_int (by simpa [PyData.showable] using h1) (fin s.heap _ _ fun _ _ z => z)
  | str x t => exact PySem.P.repr_of_str (fin s.heap _ _ fun _ _ z => z) h3
  | list a1 a2 a3 a4 => exact PySem.repr_of_reads' (.list a1 a2 a3 a4) h1 (fun z => by rw [nd] at z; cases z) gu (by omega) (fun _ _ z => z) (fun h' u tk hk => fin h' u tk hk) h3
  | tuple a1 a2 a3 a4 => exact PySem.repr_of_reads' (.tuple a1 a2 a3 a4) h1 (fun z => by rw [nd] at z; cases z) gu (by omega) (fun _ _ z => z) (fun h' u tk hk => fin h' u tk hk) h3
  | dict => simp [PyData.hasDict] at nd
end
end DL

/-! DL7: zip, list(range), list(text). -/
namespace DL
open PySem PySem.Spec L2
open PyProof.Rows hiding St

section
variable {X : Cx} {pos p tpos : Pos} {e e2 : Expr} {t u : DTE} {elts : List Expr} {kk : Nat}
/-! ### zip of two lists -/
def pairs (xs ys : List DL.D) : List DL.D := (xs.zip ys).map fun p => .tup [p.1, p.2]
theorem pairs_get {xs ys : List DL.D} {i : Nat} {d : DL.D} (h : (pairs xs ys)[i]? = some d) : ∃ x y, xs[i]? = some x ∧ ys[i]? = some y ∧ d = .tup [x, y] := by
  unfold pairs at h
  rw [List.getElem?_map] at h
  cases e : (xs.zip ys)[i]? with
  | none => rw [e] at h; cases h
  | some q =>
    rw [e] at h
    cases h
    rw [List.getElem?_zip_eq_some] at e
    exact ⟨q.1, q.2, e.1, e.2, rfl⟩
theorem jw_pair {K : PySem.W.Frag} {F F1 : Hp} {M1 : Mp} {H1 H2 : Hp} {x y : V} {d d' : DL.D} {T : Addr} (s : Same F F1) (r : Rel K F1 M1 H1) (h1 : Rp K F1 x d) (h2 : Rp K F1 y d') (hT : H1 T = none) (e : H2 = upd H1 T (.tup [x, y])) :
    ∃ F2, Stp K F1 M1 H1 F2 M1 H2 ∧ Rp K F2 (.ref T) (.tup [d, d']) := by
  subst e
  have st := r.newF hT (.tup [x, y])
  exact ⟨_, st, .tup (.inl (.inl upd_same)) (.cons (h1.mono st.same) (.cons (h2.mono st.same) .nil))⟩
def dZipL (t u : DTE) : DTI := fun ρ M R => t ρ M fun d M1 => u ρ M1 fun d' M2 => ∃ xs ys, lstOf M2 d = some xs ∧ lstOf M2 d' = some ys ∧ R (pairs xs ys) (fun M => lstOf M d = some xs ∧ lstOf M d' = some ys) M2
theorem di_zipL (hm : X.mg "zip" = none) (he : DE X e t) (he2 : DE X e2 u) (hg : Gl X "zip" := by rfl) (hs : starEach [e, e2] X.env = (false, eval e X.env) :: starEach [e2] X.env := by rfl) (hs2 : starEach [e2] X.env = (false, eval e2 X.env) :: starEach [] X.env := by rfl)
    (hpl : (backTo pos (starEach [e2] X.env)).any (·.1) = false := by rfl) : DI X (.Tuple elts kk tpos) (.Call (.Name "zip" p) [e, e2] [] pos) (dZipL t u) := by
  refine PI.weak (pi_zip hg hm (pa_cons he (pa_cons he2 pa_nil hs2) hs) hs hpl) ?_
  rintro σ H R0 ⟨F, M, ρ, R, rs, rl, q, k⟩
  refine ⟨F, M, ρ, _, rs, rl, q, fun v d F1 M1 H1 s1 rp1 q1 => ?_⟩
  refine ⟨F1, M1, ρ, _, rs.mono s1.same, s1.rel, q1, fun v2 d2 F2 M2 H2 s2 rp2 ⟨xs, ys, ex, ey, q2⟩ => ?_⟩
  have r1 := rp1.mono s2.same
  obtain ⟨a, vs, rfl, h1, _⟩ := lstOf_rp s2.rel r1 ex
  obtain ⟨b, ws, rfl, h2, _⟩ := lstOf_rp s2.rel rp2 ey
  refine ⟨a, b, vs, ws, rfl, h1, h2, k _ (pairs xs ys) (fun M => lstOf M d = some xs ∧ lstOf M d2 = some ys) F2 M2 H2 (s1.trans s2) ⟨fun F3 M3 H3 s3 r3 g => ?_⟩ q2⟩
  obtain ⟨a', vs', ea, g1, ra⟩ := lstOf_rp r3 (r1.mono s3) g.1
  obtain ⟨b', ws', eb, g2, rb⟩ := lstOf_rp r3 (rp2.mono s3) g.2
  cases ea
  cases eb
  have W := walk_zip (K := X.K) (a := a) (b := b) (xs := vs') (ys := ws') rfl
  have hl : (pairs xs ys).length = min vs'.length ws'.length := by unfold pairs; rw [List.length_map, List.length_zip, ra.length, rb.length]
  refine ⟨by rw [hl]; exact W.stops H3 ⟨g1, g2⟩, fun i dd hi => ?_⟩
  have hlt : i < min vs'.length ws'.length := by rw [← hl]; exact (List.getElem?_eq_some_iff.mp hi).1
  obtain ⟨x, y, hx, hy, rfl⟩ := pairs_get hi
  refine ⟨W.goes i H3 hlt ⟨g1, g2⟩, fun vv H4 yy => ?_⟩
  obtain ⟨T, x1, y1, rfl, hT, eH, hx1, hy1⟩ := W.yields i H3 vv H4 hlt ⟨g1, g2⟩ yy
  obtain ⟨vx, ex1, rx⟩ := ra.get hx
  obtain ⟨vy, ey1, ry⟩ := rb.get hy
  have hx1 : vs'[i]? = some x1 := hx1
  have hy1 : ws'[i]? = some y1 := hy1
  rw [ex1] at hx1
  rw [ey1] at hy1
  cases hx1
  cases hy1
  exact jw_pair s3 r3 rx ry hT eH

/-! ### zip of two texts -/
def ItzS (x y : Str) : It := ⟨fun i _ => i < x.cps.size ∧ i < y.cps.size,
  fun i H v H' => ∃ T cx cy, v = .ref T ∧ H T = none ∧ H' = upd H T (.tup [.str ⟨#[cx]⟩, .str ⟨#[cy]⟩]) ∧ x.cps[i]? = some cx ∧ y.cps[i]? = some cy,
  fun i _ => i = min x.cps.size y.cps.size⟩
theorem turn_zipS {P : Program} {w : World} {K : PySem.W.Frag} {z TI TO i1 i2 : Addr} {x y : Str} {t1 t2 : Tok} (S : ZipSep2 z TI TO i1 i2 [i1] [i2]) :
    Turn P w K (.Tuple elts kk tpos) (ItzS x y) [z, TI, TO, i1, i2] z (fun i h => IsZip h z TI TO .none ∧ IsTupOf2 h TI (.ref i1) (.ref i2) ∧ (∃ a b, IsTupOf2 h TO a b) ∧ h.IsStrIter i1 (strIterType x) x t1 i ∧ h.IsStrIter i2 (strIterType y) y t2 i) where
  mem := by simp
  obj := fun i h st c hc => by
    obtain ⟨hz, hTI, ⟨a, b, hTO⟩, ⟨o1, e1, _, d1⟩, ⟨o2, e2, _, d2⟩⟩ := st
    have e' : c = z ∨ c = TI ∨ c = TO ∨ c = i1 ∨ c = i2 := by simpa using hc
    rcases e' with q | q | q | q | q
    · rw [q]; exact ⟨_, hz, fun v q => nomatch q⟩
    · rw [q]; exact ⟨_, hTI, fun v q => nomatch q⟩
    · rw [q]; exact ⟨_, hTO, fun v q => nomatch q⟩
    · rw [q]; exact ⟨o1, e1, fun v q => by rw [d1] at q; cases q⟩
    · rw [q]; exact ⟨o2, e2, fun v q => by rw [d2] at q; cases q⟩
  keep := fun i h h' st kp => by
    obtain ⟨hz, hTI, ⟨a, b, hTO⟩, ⟨o1, e1, c1⟩, ⟨o2, e2, c2⟩⟩ := st
    exact ⟨kp z (by simp) _ hz, kp TI (by simp) _ hTI, ⟨a, b, kp TO (by simp) _ hTO⟩, ⟨o1, kp i1 (by simp) o1 e1, c1⟩, ⟨o2, kp i2 (by simp) o2 e2, c2⟩⟩
  item := by
    intro X hP hw hK hc i pins s σ H E I hf st hg
    subst hP hw hK
    obtain ⟨hz, hTI, ⟨a0, b0, hTO⟩, h1, h2⟩ := st
    have D1 := Draws.text (prog := X.prog) (w := X.w) (A := X.A.in1) (I.ok.hd hc) i1 x t1
    have D2 := Draws.text (prog := X.prog) (w := X.w) (A := X.A.in1) (I.ok.hd hc) i2 y t2
    have hzl : z < s.heap.objs.size := Heap.lt_size hz
    refine wpAny_pyNext_zipD2_item S D1 D2 hz hTI hTO h1 h2 hg.1 hg.2 fun v1 v2 h' tk p1 p2 z' TO' h1' h2' hT hsz hk => ?_
    obtain ⟨cx, u1, hx, rfl⟩ := p1
    obtain ⟨cy, u2, hy, rfl⟩ := p2
    refine ⟨_, rfl, wpAny_letOwnedTupleGo_zip (s := { s with heap := h', toks := tk }) z' fun h'' z'' sb => ?_⟩
    have hT2 : IsTupOf2 h'' s.heap.objs.size (.str ⟨#[cx]⟩ u1) (.str ⟨#[cy]⟩ u2) := (sb.2 _ (Nat.ne_of_gt hzl)).trans hT
    have new : ObjOk X.prog X.w (upd H s.heap.objs.size (.tup [.str ⟨#[cx]⟩, .str ⟨#[cy]⟩])) h'' s.heap.objs.size (.tup [.str ⟨#[cx]⟩, .str ⟨#[cy]⟩]) :=
      ⟨by show 2 ≤ sizeLine; decide, [.str ⟨#[cx]⟩ u1, .str ⟨#[cy]⟩ u2], .cons ⟨u1, rfl⟩ (.cons ⟨u2, rfl⟩ .nil), ⟨_, hT2, rfl, _, rfl⟩⟩
    have I1 : Inv X pins σ (upd H s.heap.objs.size (.tup [.str ⟨#[cx]⟩, .str ⟨#[cy]⟩])) { s with heap := h'', toks := tk } :=
      I.turnedNew (t' := tk) (ch := [z, TI, TO, i1, i2]) (fun c o hb q => (sb.2 c (fun q' => hb (by simp [q']))).trans (hk c o (fun q' => hb (by simp [q'])) (fun q' => hb (by simp [q'])) (fun q' => hb (by simp [q'])) (fun q' => hb (by simp [q'])) q)) hf (Nat.le_refl _) new
    refine ⟨.ref s.heap.objs.size, _, I1, rfl, ⟨_, cx, cy, rfl, I.hok.fresh (Nat.le_refl _), rfl, hx, hy⟩, ⟨z'', ?_, ⟨_, _, (sb.2 _ S.TOz).trans TO'⟩, ?_, ?_⟩, fun c hcm => ?_⟩
    · exact (sb.2 _ S.TIz).trans (hk _ _ S.TIz S.TITO S.TIi1 S.TIi2 hTI)
    · obtain ⟨o1, e1, c1⟩ := h1'
      exact ⟨o1, (sb.2 _ (fun q => S.zi1 q.symm)).trans e1, c1⟩
    · obtain ⟨o2, e2, c2⟩ := h2'
      exact ⟨o2, (sb.2 _ (fun q => S.zi2 q.symm)).trans e2, c2⟩
    · have hlt : c < s.heap.objs.size := by
        have e' : c = z ∨ c = TI ∨ c = TO ∨ c = i1 ∨ c = i2 := by simpa using hcm
        rcases e' with q | q | q | q | q
        · rw [q]; exact hzl
        · rw [q]; exact Heap.lt_size hTI
        · rw [q]; exact Heap.lt_size hTO
        · rw [q]; obtain ⟨_, e1, _⟩ := h1; exact Heap.lt_size e1
        · rw [q]; obtain ⟨_, e2, _⟩ := h2; exact Heap.lt_size e2
      rw [upd_ne (Nat.ne_of_lt hlt)]
      exact (hf c hcm).1
  done := by
    intro X hP hw hK hc i pins s σ H E I hf st hg
    subst hP hw hK
    obtain ⟨hz, hTI, ⟨a0, b0, hTO⟩, h1, h2⟩ := st
    have D1 := Draws.text (prog := X.prog) (w := X.w) (A := X.A.in1) (I.ok.hd hc) i1 x t1
    have D2 := Draws.text (prog := X.prog) (w := X.w) (A := X.A.in1) (I.ok.hd hc) i2 y t2
    have hg' : i = min x.cps.size y.cps.size := hg
    refine wpAny_pyNext_zipD2_end S D1 D2 hz hTI hTO h1 h2 (by omega) (by omega) (by omega) fun h' tk hk => ⟨rfl, I.turnedL (t' := tk) (ch := [z, TI, TO, i1, i2]) (fun c o hb q =>
      hk c o (fun q' => hb (by simp [q'])) (fun q' => hb (by simp [q'])) (fun q' => hb (by simp [q'])) (fun q' => hb (by simp [q'])) q) hf⟩
  self := fun A i s Q E st h => wpAny_pyIter_zip st.1 h
def iZipS (ta : TA) : TI := fun σ H R => ta σ H fun vs H1 => ∃ x y, vs = [.str x, .str y] ∧ R (ItzS x y) H1
theorem pi_zipS {ta : TA} (hg : Gl X "zip") (hm : X.mg "zip" = none) (ha : PA X [e, e2] ta)
    (hs : starEach [e, e2] X.env = (false, eval e X.env) :: starEach [e2] X.env) (hpl : (backTo pos (starEach [e2] X.env)).any (·.1) = false) :
    PI X (.Tuple elts kk tpos) (.Call (.Name "zip" p) [e, e2] [] pos) (iZipS ta) := by
  constructor
  intro pins s σ H R I h
  refine Call_ (ld_blt I hg hm PyProof.Rows.boot_zip (PyProof.Rows.callWith_type1 (thn (ha.run pos pins s σ H _ I h) ?_) hs hpl))
  rintro us s1 ⟨vs, H1, I1, r1, x, y, rfl, q⟩
  obtain ⟨u1, u2, rfl, ⟨t1, rfl⟩, ⟨t2, rfl⟩⟩ := vals2 r1
  refine zip_begins2 (begins_text x t1) (begins_text y t2) trivial trivial fun h' hz hTI hTO g1 g2 hsz hk => wpAny_pyIter_zip hz ?_
  have I2 : Inv X pins σ H1 { s1 with heap := h' } := I1.kept (t' := s1.toks) hk
  refine ⟨s1.heap.objs.size + 4, [s1.heap.objs.size + 4, s1.heap.objs.size + 2, s1.heap.objs.size + 3, s1.heap.objs.size, s1.heap.objs.size + 1], _, _, H1, rfl, I2, turn_zipS (zip_sep2 (N := s1.heap.objs.size) (fp1 := []) (fp2 := []) (fun _ z => nomatch z) (fun _ z => nomatch z)), ⟨hz, hTI, ⟨_, _, hTO⟩, ⟨_, g1, rfl, rfl⟩, ⟨_, g2, rfl, rfl⟩⟩, fun c hcm => ?_, q⟩
  have e' : c = s1.heap.objs.size + 4 ∨ c = s1.heap.objs.size + 2 ∨ c = s1.heap.objs.size + 3 ∨ c = s1.heap.objs.size ∨ c = s1.heap.objs.size + 1 := by simpa using hcm
  have hle : s1.heap.objs.size ≤ c := by
    rcases e' with z | z | z | z | z
    · rw [z]; exact Nat.le_add_right _ _
    · rw [z]; exact Nat.le_add_right _ _
    · rw [z]; exact Nat.le_add_right _ _
    · rw [z]; exact Nat.le_refl _
    · rw [z]; exact Nat.le_add_right _ _
  exact I1.fpOk hle (I1.hok.fresh hle)
def dZipS (t u : DTE) : DTI := fun ρ M R => t ρ M fun d M1 => u ρ M1 fun d' M2 => ∃ x y, d = .str x ∧ d' = .str y ∧ R (pairs (signs x) (signs y)) (fun _ => True) M2
theorem di_zipS (hm : X.mg "zip" = none) (he : DE X e t) (he2 : DE X e2 u) (hg : Gl X "zip" := by rfl) (hs : starEach [e, e2] X.env = (false, eval e X.env) :: starEach [e2] X.env := by rfl) (hs2 : starEach [e2] X.env = (false, eval e2 X.env) :: starEach [] X.env := by rfl)
    (hpl : (backTo pos (starEach [e2] X.env)).any (·.1) = false := by rfl) : DI X (.Tuple elts kk tpos) (.Call (.Name "zip" p) [e, e2] [] pos) (dZipS t u) := by
  refine PI.weak (pi_zipS hg hm (pa_cons he (pa_cons he2 pa_nil hs2) hs) hs hpl) ?_
  rintro σ H R0 ⟨F, M, ρ, R, rs, rl, q, k⟩
  refine ⟨F, M, ρ, _, rs, rl, q, fun v d F1 M1 H1 s1 rp1 q1 => ?_⟩
  refine ⟨F1, M1, ρ, _, rs.mono s1.same, s1.rel, q1, fun v2 d2 F2 M2 H2 s2 rp2 ⟨x, y, ex, ey, q2⟩ => ?_⟩
  subst ex ey
  cases rp1
  cases rp2
  refine ⟨x, y, rfl, k _ _ _ F2 M2 H2 (s1.trans s2) ⟨fun F3 M3 H3 s3 r3 g => ?_⟩ q2⟩
  have hl : (pairs (signs x) (signs y)).length = min x.cps.size y.cps.size := by unfold pairs signs; simp
  refine ⟨hl, fun i dd hi => ?_⟩
  have hlt : i < min x.cps.size y.cps.size := by rw [← hl]; exact (List.getElem?_eq_some_iff.mp hi).1
  obtain ⟨a, b, ha, hb, rfl⟩ := pairs_get hi
  refine ⟨⟨by omega, by omega⟩, fun vv H4 yy => ?_⟩
  obtain ⟨T, cx, cy, rfl, hT, eH, hx, hy⟩ := yy
  unfold signs at ha hb
  rw [List.getElem?_map, Array.getElem?_toList, hx] at ha
  rw [List.getElem?_map, Array.getElem?_toList, hy] at hb
  cases ha
  cases hb
  exact jw_pair s3 r3 (.str _) (.str _) hT eH

/-! ### list(range(n)) -/
def dListRg (fz : Bool) (t : DTE) : DTE := fun ρ M Q => t ρ M fun d M1 => ∃ j, d = .int j ∧ 0 ≤ j ∧ j ≤ 16777216 ∧ newL fz (rgD 0 j.toNat) M1 Q
theorem rgV_rp {K : PySem.W.Frag} {F : Hp} (j : Int) : RpAll K F (L2.rgV 0 j) (rgD 0 j.toNat) := by
  have g : ∀ n : Nat, ∀ f : Nat → Int, RpAll K F ((List.range n).map fun i => V.int (f i)) ((List.range n).map fun i => D.int (f i)) := by
    intro n
    induction n with
    | zero => intro f; exact .nil
    | succ n ih =>
      intro f
      rw [List.range_succ_eq_map, List.map_cons, List.map_cons, List.map_map, List.map_map]
      exact .cons (.int _) (ih fun i => f (i + 1))
  have := g j.toNat fun i => 0 + (i : Nat)
  unfold L2.rgV rgD
  rw [show (j - 0).toNat = j.toNat by omega]
  exact this
theorem de_listRg (fz : Bool) {p1 p2 : Pos} (m1 : X.mg "list" = none) (m2 : X.mg "range" = none) (he : DE X e t) (hc : X.calm = true := by rfl) (g1 : Gl X "list" := by rfl) (g2 : Gl X "range" := by rfl)
    (na : starEach [e] X.env = (false, eval e X.env) :: starEach [] X.env := by rfl) (na2 : starEach [.Call (.Name "range" p1) [e] [] p2] X.env = (false, eval (.Call (.Name "range" p1) [e] [] p2) X.env) :: starEach [] X.env := by rfl) :
    DE X (.Call (.Name "list" p) [.Call (.Name "range" p1) [e] [] p2] [] pos) (dListRg fz t) := by
  refine PE.weak (pe_listRg hc g1 m1 (prg_1 g2 m2 he na) na2) ?_
  rintro σ H Q0 ⟨F, M, ρ, Q, rs, rl, q, k⟩
  refine ⟨F, M, ρ, _, rs, rl, q, fun v d F1 M1 H1 s1 rp1 ⟨j, ed, h0, h1, q1⟩ => ?_⟩
  subst ed
  cases rp1
  refine ⟨j, rfl, RgOk.of_le (by omega) h1 (by omega) h0, fun l hl => ?_⟩
  exact newL_ok s1.rel (rgV_rp j) q1 (fun v d F' M' H' s => k v d F' M' H' (s1.trans s)) l hl
end
end DL

/-! DL8a: sets of texts made of a list or of a text, and their sorted list. -/
namespace DL
open PySem PySem.Spec L2
open PyProof.Rows hiding St

def kOf (e : Int × Value) : Str := match e.2 with
  | .str k _ => k
  | _ => Str.empty
def TxE (w : World) (e : Int × Value) : Prop := ∃ k u, e = (hashStr w k, Value.str k u)
/-- the set at a has just the texts ks -/
def TxS (w : World) (h : Heap) (a : Addr) (ks : List Str) : Prop :=
  ∃ o es ep t, h.get? a = some o ∧ o.ExactSet ∧ o.data = .set es ep t ∧ (∀ e ∈ es.toList, TxE w e) ∧ (es.toList.map kOf).Perm ks ∧ ks.Nodup ∧
    es.size < scanBound ∧ t.fits es.size = true ∧ Ris t.place.toList ∧ (w.params.followText "set-order" = true ∨ t.led = true)
section
variable {P : Program} {w : World} {A : Around} {E : Value → Shared → Prop} {s : Shared} {a : Addr} {ks : List Str}
theorem TxS.at {h h' : Heap} (R : TxS w h a ks) (keep : ∀ o, h.get? a = some o → h'.get? a = some o) : TxS w h' a ks :=
  let ⟨o, es, ep, t, x, r⟩ := R
  ⟨o, es, ep, t, keep o x, r⟩
theorem tx_elems {l : List (Int × Value)} (g : ∀ e ∈ l, TxE w e) : ElemsOf (PySem.strKind P w) l := by
  intro e he
  obtain ⟨k, u, rfl⟩ := g e he
  exact ⟨⟨k, strKind_is P w k u, rfl⟩, rfl⟩
theorem tx_is (k k2 : Str) (u : Tok) : (PySem.strKind P w).is k (.str k2 u) = true ↔ k2 = k := by
  show Value.isStrOf k (.str k2 u) = true ↔ _
  simp [Value.isStrOf]
theorem tx_none {l : List (Int × Value)} (g : ∀ e ∈ l, TxE w e) (k : Str) : k ∈ l.map kOf ↔ ∃ e ∈ l, (PySem.strKind P w).is k e.2 = true := by
  rw [List.mem_map]
  refine ⟨fun ⟨e, he, q⟩ => ⟨e, he, ?_⟩, fun ⟨e, he, q⟩ => ⟨e, he, ?_⟩⟩ <;> obtain ⟨k2, u, rfl⟩ := g e he
  · exact (tx_is k k2 u).2 q
  · exact (tx_is k k2 u).1 q
set_option maxHeartbeats 1000000 in
theorem tx_add {k : Str} {u : Tok} {Q : Bool → Shared → Prop} (R : TxS w s.heap a ks) (room : ks.length + 1 < scanBound)
    (hQ : ∀ h' b, Heap.SameBut a s.heap h' → TxS w h' a (if k ∈ ks then ks else k :: ks) → Q b { s with heap := h' }) :
    wpAny (model P w) A (setAddHashed a (.str k u) ((PySem.strKind P w).hash k)) Q E s := by
  obtain ⟨o, es, ep, t, ho, hex, hd, good, pm0, nodup, small, fit, rises, led⟩ := R
  have key : (PySem.strKind P w).is k (.str k u) = true := strKind_is P w k u
  have scan : (Value.str k u).scannable = true := rfl
  have elems : ElemsOf (PySem.strKind P w) es.toList := tx_elems good
  unfold setAddHashed setAddHashedIn
  refine wpAny_holding (wpAny_bind (wpAny_setState_of ho hd fit ?_))
  dsimp only
  rw [byScan_of scan small elems]
  simp only [↓reduceIte]
  unfold setAddByScan
  refine wpAny_bind (wpAny_bind (wpAny_rule (wpAny_bind (wpAny_setScan_of key ho hd fit elems ?_))))
  cases hfi : List.findIdx? (fun e => (PySem.strKind P w).is k e.2) es.toList with
  | some j =>
    obtain ⟨hj, pj, _⟩ := List.findIdx?_eq_some_iff_getElem.mp hfi
    have inn : k ∈ ks := pm0.mem_iff.mp ((tx_none (P := P) (w := w) good k).2 ⟨_, List.getElem_mem hj, pj⟩)
    refine wpAny_pure (wpAny_pure (hQ s.heap _ (Heap.SameBut.refl a s.heap) ?_))
    rw [if_pos inn]
    exact ⟨o, es, ep, t, ho, hex, hd, good, pm0, nodup, small, fit, rises, led⟩
  | none =>
    dsimp only
    have out : k ∉ ks := fun z => by
      obtain ⟨e, he, q⟩ := (tx_none (P := P) (w := w) good k).1 (pm0.mem_iff.mpr z)
      rw [List.findIdx?_eq_none_iff.mp hfi e he] at q
      cases q
    have said : ∀ (b : Bool) {s1 : Shared} {Q' : Unit → Shared → Prop}, Q' () s1 → wpAny (model P w) A (match b with | true => rule "set.scan.the-table-gave-way" | false => pure ()) Q' E s1 := by
      intro b s1 Q' q
      cases b
      · exact wpAny_pure q
      · exact wpAny_rule q
    have p1 := layNew_perm t es ((PySem.strKind P w).hash k) (.str k u)
    have f1 := layNew_fits t es ((PySem.strKind P w).hash k) (.str k u)
    have i1 := layNew_ris t es ((PySem.strKind P w).hash k) (.str k u) rises
    have l1 := layNew_led t es ((PySem.strKind P w).hash k) (.str k u)
    generalize layNew t es ((PySem.strKind P w).hash k) (.str k u) = Z at p1 f1 i1 l1 ⊢
    obtain ⟨es1, t1, dummy, gave⟩ := Z
    dsimp only at p1 f1 i1 l1 ⊢
    rw [Array.toList_push] at p1
    have pc := p1.trans (List.perm_append_singleton _ _)
    have pk : (es1.toList.map kOf).Perm (k :: ks) := (pc.map kOf).trans (pm0.cons k)
    have g1 : ∀ e ∈ es1.toList, TxE w e := by
      intro e he
      cases List.mem_cons.mp (pc.mem_iff.mp he) with
      | inl z => exact ⟨k, u, z⟩
      | inr z => exact good e z
    have nd1 : (k :: ks).Nodup := List.nodup_cons.mpr ⟨out, nodup⟩
    have size1 : es1.size = ks.length + 1 := by
      have q := pk.length_eq
      rw [List.length_map, List.length_cons, Array.length_toList] at q
      exact q
    have small1 : es1.size < scanBound := size1 ▸ room
    have led1 : w.params.followText "set-order" = true ∨ t1.led = true := led.imp id fun z => by rw [l1]; exact z
    have fin : ∀ h' b, Heap.SameBut a s.heap h' → TxS w h' a (k :: ks) → Q b { s with heap := h' } := fun h' b sb r => hQ h' b sb (by rw [if_neg out]; exact r)
    have last : ∀ (t2 : SetTable), t2.fits es1.size = true → Ris t2.place.toList → (w.params.followText "set-order" = true ∨ t2.led = true) →
        (∃ o1, (s.heap.update a (Obj.putSet es1 t2)).get? a = some o1 ∧ o1.ExactSet ∧ o1.data = .set es1 (ep + 1) t2) ∧ TxS w (s.heap.update a (Obj.putSet es1 t2)) a (k :: ks) ∧
        (∃ es3 t3, es3 = (relayAll t2 es1 (SetTable.grown es1.size)).1 ∧ t3 = (relayAll t2 es1 (SetTable.grown es1.size)).2.1 ∧ es3.size < scanBound ∧ TxS w ((s.heap.update a (Obj.putSet es1 t2)).update a (Obj.putSet es3 t3)) a (k :: ks)) := by
      intro t2 f2 i2 l2
      have ho1 := store_at (es' := es1) (t' := t2) ho hd
      refine ⟨⟨_, ho1, hex, rfl⟩, ⟨_, es1, _, t2, ho1, hex, rfl, g1, pk, nd1, small1, f2, i2, l2⟩, _, _, rfl, rfl, ?_⟩
      have p3 := relayAll_perm t2 es1 (SetTable.grown es1.size)
      have f3 := relayAll_fits t2 es1 (SetTable.grown es1.size)
      have i3 := relayAll_ris t2 es1 (SetTable.grown es1.size)
      have l3 := relayAll_led t2 es1 (SetTable.grown es1.size)
      have ho2 := store_at (es' := (relayAll t2 es1 (SetTable.grown es1.size)).1) (t' := (relayAll t2 es1 (SetTable.grown es1.size)).2.1) ho1 rfl
      have size3 : (relayAll t2 es1 (SetTable.grown es1.size)).1.size = es1.size := by
        have q := p3.length_eq
        rw [Array.length_toList, Array.length_toList] at q
        exact q
      have small3 := small1
      rw [← size3] at small3
      refine ⟨small3, _, _, _, _, ho2, hex, rfl, fun e he => g1 e (p3.mem_iff.mp he), (p3.map kOf).trans pk, nd1, small3, f3, i3, l2.imp id fun z => by rw [l3]; exact z⟩
    have sb1 : ∀ t2, Heap.SameBut a s.heap (s.heap.update a (Obj.putSet es1 t2)) := fun t2 => Heap.SameBut.update s.heap a _
    refine wpAny_bind (said _ ?_)
    split
    · refine wpAny_bind ?_
      rw [hashByValue_scannable 8 scan]
      refine wpAny_pure ?_
      refine wpAny_bind (wpAny_storeSet_of ho hd ?_ (fits_of_scanBound small1))
      split
      · obtain ⟨⟨o1, ho1, x1, d1⟩, r1, es3, t3, e3, et3, b3, r3⟩ := last t1 f1 i1 led1
        split
        · refine wpAny_bind (said _ ?_)
          refine wpAny_bind (wpAny_storeSet_of ho1 d1 ?_ (fits_of_scanBound (by rw [← e3]; exact b3)))
          rw [← e3, ← et3]
          exact wpAny_pure (wpAny_pure (fin _ _ ((sb1 _).trans (Heap.SameBut.update _ a _)) r3))
        · exact wpAny_pure (wpAny_pure (fin _ _ (sb1 _) r1))
      · obtain ⟨⟨o1, ho1, x1, d1⟩, r1, es3, t3, e3, et3, b3, r3⟩ := last { t1 with plain := false } (SetTable.fits_plain_off f1) i1 led1
        split
        · refine wpAny_bind (said _ ?_)
          refine wpAny_bind (wpAny_storeSet_of ho1 d1 ?_ (fits_of_scanBound (by rw [← e3]; exact b3)))
          rw [← e3, ← et3]
          exact wpAny_pure (wpAny_pure (fin _ _ ((sb1 _).trans (Heap.SameBut.update _ a _)) r3))
        · exact wpAny_pure (wpAny_pure (fin _ _ (sb1 _) r1))
    · refine wpAny_bind (wpAny_pure ?_)
      simp only [↓reduceIte]
      refine wpAny_bind (wpAny_storeSet_of ho hd ?_ (fits_of_scanBound small1))
      obtain ⟨⟨o1, ho1, x1, d1⟩, r1, es3, t3, e3, et3, b3, r3⟩ := last t1 f1 i1 led1
      split
      · refine wpAny_bind (said _ ?_)
        refine wpAny_bind (wpAny_storeSet_of ho1 d1 ?_ (fits_of_scanBound (by rw [← e3]; exact b3)))
        rw [← e3, ← et3]
        exact wpAny_pure (wpAny_pure (fin _ _ ((sb1 _).trans (Heap.SameBut.update _ a _)) r3))
      · exact wpAny_pure (wpAny_pure (fin _ _ (sb1 _) r1))
end
end DL

/-! DL8b: set(a list of texts), set(a text). -/
namespace DL
open PySem PySem.Spec L2
open PyProof.Rows hiding St

section
variable {P : Program} {w : World} {A : Around} {E : Value → Shared → Prop} {s : Shared}
/-- few distinct texts -/
def Few (xs : List Str) : Prop := ∀ ks : List Str, ks.Nodup → (∀ k ∈ ks, k ∈ xs) → ks.length < 64
theorem tx_loop {I : Addr} {fp wr : List Addr} {G : Array GenState → Array GenState → Prop} {n : Nat} {Pv : Nat → Value → Prop} {St : Nat → Shared → Prop} {R : Result → Shared → Prop}
    (W : WalksS P w A.in1 I fp wr G n Pv St) (S : Addr) (apart : S ∉ fp) (xs : List Str) (hn : n = xs.length) (few : Few xs) (items : ∀ i v, Pv i v → ∃ k t, xs[i]? = some k ∧ v = .str k t) :
    ∀ (m i : Nat) (s : Shared), n - i = m → i ≤ n → St i s → (∃ ks, TxS w s.heap S ks ∧ ∀ k, k ∈ ks ↔ k ∈ xs.take i) →
      (∀ s' ks, Moved (S :: wr) G s s' → TxS w s'.heap S ks → (∀ k, k ∈ ks ↔ k ∈ xs) → R (.ok (.ret .none)) s') →
      codeAny (model P w) A (.builtin "set.update.loop" ⟨[.ref S, .ref I], []⟩) R s := by
  have Sw : S ∉ wr := fun z => apart (W.sub _ z)
  have wide : ∀ b ∈ wr, b ∈ S :: wr := fun b z => List.mem_cons_of_mem _ z
  intro m
  induction m with
  | zero =>
    rintro i s hm hi st ⟨ks, T, mem⟩ hR
    obtain rfl : i = n := by omega
    refine codeAny_builtin F.entry_set_update_loop ?_
    rw [Around.under_plainId F.plain_set_update_loop _]
    show wpAny _ A.in1 (pyNext (.ref I) >>= _) _ _ s
    refine wpAny_bind (W.done s _ _ st fun s1 mv => ?_)
    have whole : xs.take i = xs := List.take_of_length_le (Nat.le_of_eq hn.symm)
    rw [whole] at mem
    exact wpAny_pure (hR s1 ks (mv.mono wide) (T.at fun o e => mv.heap S o Sw e) mem)
  | succ m ih =>
    rintro i s hm hi st ⟨ks, T, mem⟩ hR
    have lt : i < n := by omega
    refine codeAny_builtin F.entry_set_update_loop ?_
    rw [Around.under_plainId F.plain_set_update_loop _]
    show wpAny _ A.in1 (pyNext (.ref I) >>= _) _ _ s
    refine wpAny_bind (W.item i s _ _ lt st fun v s1 pv st1 mv => ?_)
    obtain ⟨z, t, hz, rfl⟩ := items i v pv
    have T1 : TxS w s1.heap S ks := T.at fun o e => mv.heap S o Sw e
    refine wpAny_bind (m := holding [Value.str z t] (setAdd S (.str z t))) (wpAny_holding ?_)
    unfold setAdd
    refine wpAny_holding (wpAny_bind ((PySem.strKind P w).pyHash (k := z) (strKind_is _ _ _ _) ?_))
    have short : ks.length < 64 := few ks (by obtain ⟨_, _, _, _, _, _, _, _, _, nd, _⟩ := T1; exact nd) fun k hk => List.mem_of_mem_take ((mem k).mp hk)
    refine tx_add (s := { s1 with toks := s1.toks + 1 }) T1 (by unfold scanBound; omega) fun h' b same T2 => ?_
    have mem2 : ∀ k, k ∈ (if z ∈ ks then ks else z :: ks) ↔ k ∈ xs.take (i + 1) := fun k => by
      rw [List.take_add_one, hz, List.mem_append, ← mem k]
      split
      · rename_i zin
        exact ⟨.inl, fun q => q.elim id fun e => by simp at e; rw [e]; exact zin⟩
      · rw [List.mem_cons]
        simp [or_comm]
    refine wpAny_pure ⟨plainId_quiet F.plain_set_update_loop _, ih (i + 1) _ (by omega) lt (W.frame _ s1 _ _ st1 (Nat.le_succ _) fun b hb o e => ?_) ⟨_, T2, mem2⟩ fun s2 k2 mv2 T3 m3 => ?_⟩
    · have ne : b ≠ S := fun q => apart (q ▸ hb)
      exact (same.2 b ne).trans e
    · refine hR s2 k2 (Moved.trans W.gtrans ((mv.mono wide).then_heap (Nat.le_succ _) fun b o hb e => ?_) mv2) T3 m3
      have ne : b ≠ S := fun q => hb (q ▸ List.mem_cons_self)
      exact (same.2 b ne).trans e
abbrev sO (w : World) : Obj := { cls := .type "set", dict := none, data := .set #[] 0 (.fresh 0 0 (!w.params.followText "set-order")) }
theorem tx_new {h : Heap} {a : Addr} (ho : h.get? a = some (sO w)) : TxS w h a [] :=
  ⟨_, #[], 0, _, ho, ⟨rfl, rfl, rfl⟩, rfl, (fun e he => nomatch he), .nil, .nil, (by decide), (by rfl), .nil, by
    show _ ∨ (!w.params.followText "set-order") = true
    cases w.params.followText "set-order"
    · exact .inr rfl
    · exact .inl rfl⟩
set_option maxHeartbeats 3200000 in
theorem call_setL {l : Addr} {items : Array Value} {xs : List Str} {Q : Value → Shared → Prop} (hh : A.handled = none) (hl : s.heap.IsList l items) (are : ∀ (i : Nat) (v : Value), items[i]? = some v → ∃ k t, xs[i]? = some k ∧ v = .str k t) (len : items.size = xs.length) (few : Few xs)
    (k : ∀ (h' : Heap) (tk : Nat) (ks : List Str), TxS w h' s.heap.objs.size ks → (∀ k, k ∈ ks ↔ k ∈ xs) → (∀ b o, s.heap.get? b = some o → h'.get? b = some o) → Q (.ref s.heap.objs.size) { s with heap := h', toks := tk }) :
    wpAny (model P w) A (call (.type "set") [.ref l]) Q E s := by
  obtain ⟨c, tl, hmro⟩ := F.called_set.mro
  have hmade := F.called_set.made
  have hsub := F.called_set.sub
  refine wpAny_call (codeAny_of_tree (wpAny_pure (a := _) ⟨Code.quiet_builtin _ (by decide +kernel), codeAny_builtin F.entry_type_call ?_⟩))
  rw [Around.under_plain (weight_type_call_type "set" [.ref l] []) rfl]
  have h1 := F.called_set.notType
  have h2 := F.called_set.canCreate
  have hct := F.typeCall_set_1 (.ref l)
  repeat (any_goals (first | assumption | wp_step))
  refine codeAny_mono (code_set_led1 (.ref l) (E := E) (Q₁ := fun v s1 => v = .ref s.heap.objs.size ∧ s1 = { s with heap := s.heap.push (sO w) }) ⟨rfl, rfl⟩) fun r s1 hr => ?_
  match r, hr with
  | .error e, hr => exact hr
  | .ok (.ret v), hr =>
    obtain ⟨rfl, rfl⟩ := hr
    have new : (s.heap.push (sO w)).get? s.heap.objs.size = some (sO w) := Heap.get?_push_size _ rfl
    have hT : Shared.TypeIs { s with heap := s.heap.push (sO w) } (.ref s.heap.objs.size) "set" := ⟨_, new, rfl⟩
    have hli := F.called_set.init.lookup
    have hbi := F.called_set.init.bind (.ref s.heap.objs.size)
    repeat (any_goals (first | assumption | wp_step))
    refine codeAny_mono (codeAny_call_builtin (R := wants (fun r s2 => r = .none ∧ ∃ h' tk ks, s2 = { s with heap := h', toks := tk } ∧ TxS w h' s.heap.objs.size ks ∧ (∀ k, k ∈ ks ↔ k ∈ xs) ∧
      (∀ b o, s.heap.get? b = some o → h'.get? b = some o)) E) F.called_set.init.plain F.entry_set_init (check_set_init_1 hT ?_)) fun r2 s2 hr2 => ?_
    · obtain ⟨ol, hol, hcl, nl, hdl⟩ := hl
      obtain ⟨ocls, odict, odata, oslots⟩ := ol
      dsimp only at hcl hdl
      subst hcl hdl
      have hol2 : (s.heap.push (sO w)).get? l = some { cls := .type "list", dict := odict, data := .seq items nl, slots := oslots } := Heap.get?_push_of_some _ hol
      have y1 := F.sub_list_set
      have y2 := F.sub_list_frozenset
      have y3 : (Value.type "list" == Value.type "dict") = false := by decide
      have hl1 : (s.heap.push (sO w)).IsList l items := ⟨_, hol2, rfl, nl, rfl⟩
      unfold Builtin.«set.__init__» noKeywords Builtin.Frozenset.updateFrom
      generalize hPI : pyIter = PI
      wp_walk
      subst hPI
      refine wpAny_pyIter_list hl1 (wpAny_bind (wpAny_runValue ?_))
      have ll : l < s.heap.objs.size := Heap.lt_size hol
      have sz : (s.heap.push (sO w)).objs.size = s.heap.objs.size + 1 := Heap.size_push ..
      have ne1 : l ≠ (s.heap.push (sO w)).objs.size := Nat.ne_of_lt (by rw [sz]; exact Nat.lt_succ_of_lt ll)
      have ne2 : s.heap.objs.size ∉ [(s.heap.push (sO w)).objs.size, l] := by
        simp only [List.mem_cons, List.not_mem_nil, or_false, not_or]
        exact ⟨Nat.ne_of_lt (by rw [sz]; exact Nat.lt_succ_self _), Nat.ne_of_gt ll⟩
      refine tx_loop ((Walks.list (by simp [hh]) _ l ne1 items).toS) s.heap.objs.size ne2 xs len few are (items.size - 0) 0 _ (by omega) (Nat.zero_le _) ⟨⟨_, Heap.get?_push_size _ rfl, rfl, rfl⟩, hl1.push _⟩
        ⟨[], tx_new (Heap.get?_push_of_some _ new), fun k => by simp⟩ fun s' ks mv T mem => ?_
      obtain ⟨h', g2, d', tk', os'⟩ := s'
      obtain rfl : g2 = s.gens := mv.gens
      obtain rfl : d' = s.drawn := mv.drawn
      obtain rfl : os' = s.os := mv.os
      show wpAny _ _ _ _ _ _
      refine wpAny_pure ?_
      show wpAny _ _ (ret Value.none) _ _ _
      refine wpAny_pure ⟨rfl, h', tk', ks, rfl, T, mem, fun b o e => ?_⟩
      have lb : b < s.heap.objs.size := Heap.lt_size e
      refine mv.heap b o ?_ (Heap.get?_push_of_some _ (Heap.get?_push_of_some _ e))
      simp only [List.mem_cons, List.not_mem_nil, or_false, not_or]
      exact ⟨Nat.ne_of_lt lb, Nat.ne_of_lt (by rw [sz]; exact Nat.lt_succ_of_lt lb)⟩
    · match r2, hr2 with
      | .error e, hr2 => exact hr2
      | .ok (.ret r), hr2 =>
        obtain ⟨rfl, h', tk, ks, rfl, T, mem, kp⟩ := hr2
        repeat (any_goals (first | assumption | wp_step))
        exact k _ _ _ T mem kp
      | .ok .next, hr2 => exact hr2.elim
      | .ok .brk, hr2 => exact hr2.elim
      | .ok .cont, hr2 => exact hr2.elim
  | .ok .next, hr => exact hr.elim
  | .ok .brk, hr => exact hr.elim
  | .ok .cont, hr => exact hr.elim
set_option maxHeartbeats 3200000 in
theorem call_setT {x : Str} {u : Tok} {Q : Value → Shared → Prop} (hh : A.handled = none) (few : Few (PyProof.Rows.signs x))
    (k : ∀ (h' : Heap) (tk : Nat) (ks : List Str), TxS w h' s.heap.objs.size ks → (∀ k, k ∈ ks ↔ k ∈ PyProof.Rows.signs x) → (∀ b o, s.heap.get? b = some o → h'.get? b = some o) → Q (.ref s.heap.objs.size) { s with heap := h', toks := tk }) :
    wpAny (model P w) A (call (.type "set") [.str x u]) Q E s := by
  obtain ⟨c, tl, hmro⟩ := F.called_set.mro
  have hmade := F.called_set.made
  have hsub := F.called_set.sub
  refine wpAny_call (codeAny_of_tree (wpAny_pure (a := _) ⟨Code.quiet_builtin _ (by decide +kernel), codeAny_builtin F.entry_type_call ?_⟩))
  rw [Around.under_plain (weight_type_call_type "set" [.str x u] []) rfl]
  have h1 := F.called_set.notType
  have h2 := F.called_set.canCreate
  have hct := F.typeCall_set_1 (.str x u)
  repeat (any_goals (first | assumption | wp_step))
  refine codeAny_mono (code_set_led1 (.str x u) (E := E) (Q₁ := fun v s1 => v = .ref s.heap.objs.size ∧ s1 = { s with heap := s.heap.push (sO w) }) ⟨rfl, rfl⟩) fun r s1 hr => ?_
  match r, hr with
  | .error e, hr => exact hr
  | .ok (.ret v), hr =>
    obtain ⟨rfl, rfl⟩ := hr
    have new : (s.heap.push (sO w)).get? s.heap.objs.size = some (sO w) := Heap.get?_push_size _ rfl
    have hT : Shared.TypeIs { s with heap := s.heap.push (sO w) } (.ref s.heap.objs.size) "set" := ⟨_, new, rfl⟩
    have hli := F.called_set.init.lookup
    have hbi := F.called_set.init.bind (.ref s.heap.objs.size)
    repeat (any_goals (first | assumption | wp_step))
    refine codeAny_mono (codeAny_call_builtin (R := wants (fun r s2 => r = .none ∧ ∃ h' tk ks, s2 = { s with heap := h', toks := tk } ∧ TxS w h' s.heap.objs.size ks ∧ (∀ k, k ∈ ks ↔ k ∈ PyProof.Rows.signs x) ∧
      (∀ b o, s.heap.get? b = some o → h'.get? b = some o)) E) F.called_set.init.plain F.entry_set_init (check_set_init_1 hT ?_)) fun r2 s2 hr2 => ?_
    · have y1 := F.sub_str_set
      have y2 := F.sub_str_frozenset
      have y3 : (Value.type "str" == Value.type "dict") = false := by decide
      have y4 : Shared.TypeIs { s with heap := s.heap.push (sO w) } (.str x u) "str" := typeIs_str _ _ _
      unfold Builtin.«set.__init__» noKeywords Builtin.Frozenset.updateFrom
      generalize hPI : pyIter = PI
      wp_walk
      subst hPI
      refine wpAny_pyIter_str fun o St walks st0 => wpAny_bind (wpAny_runValue ?_)
      have sz : (s.heap.push (sO w)).objs.size = s.heap.objs.size + 1 := Heap.size_push ..
      have ne2 : s.heap.objs.size ∉ [(s.heap.push (sO w)).objs.size] := by
        simp only [List.mem_cons, List.not_mem_nil, or_false]
        exact Nat.ne_of_lt (by rw [sz]; exact Nat.lt_succ_self _)
      have len : x.cps.size = (PyProof.Rows.signs x).length := by unfold PyProof.Rows.signs; simp
      have are : ∀ (i : Nat) (v : Value), SignAt x i v → ∃ k t, (PyProof.Rows.signs x)[i]? = some k ∧ v = .str k t := by
        rintro i v ⟨c, t, hc, rfl⟩
        exact ⟨_, t, by unfold PyProof.Rows.signs; rw [List.getElem?_map, Array.getElem?_toList, hc]; rfl, rfl⟩
      refine tx_loop ((walks _ (by simp [hh])).toS) s.heap.objs.size ne2 (PyProof.Rows.signs x) len few are (x.cps.size - 0) 0 _ (by omega) (Nat.zero_le _) st0
        ⟨[], tx_new (Heap.get?_push_of_some _ new), fun k => by simp⟩ fun s' ks mv T mem => ?_
      obtain ⟨h', g2, d', tk', os'⟩ := s'
      obtain rfl : g2 = s.gens := mv.gens
      obtain rfl : d' = s.drawn := mv.drawn
      obtain rfl : os' = s.os := mv.os
      show wpAny _ _ _ _ _ _
      refine wpAny_pure ?_
      show wpAny _ _ (ret Value.none) _ _ _
      refine wpAny_pure ⟨rfl, h', tk', ks, rfl, T, mem, fun b o e => ?_⟩
      have lb : b < s.heap.objs.size := Heap.lt_size e
      refine mv.heap b o ?_ (Heap.get?_push_of_some _ (Heap.get?_push_of_some _ e))
      simp only [List.mem_cons, List.not_mem_nil, or_false, not_or]
      exact ⟨Nat.ne_of_lt lb, Nat.ne_of_lt (by rw [sz]; exact Nat.lt_succ_of_lt lb)⟩
    · match r2, hr2 with
      | .error e, hr2 => exact hr2
      | .ok (.ret r), hr2 =>
        obtain ⟨rfl, h', tk, ks, rfl, T, mem, kp⟩ := hr2
        repeat (any_goals (first | assumption | wp_step))
        exact k _ _ _ T mem kp
      | .ok .next, hr2 => exact hr2.elim
      | .ok .brk, hr2 => exact hr2.elim
      | .ok .cont, hr2 => exact hr2.elim
  | .ok .next, hr => exact hr.elim
  | .ok .brk, hr => exact hr.elim
  | .ok .cont, hr => exact hr.elim
end
end DL

/-! DL8c: sorted(set(x)) as a rule. -/
namespace DL
open PySem PySem.Spec L2
open PyProof.Rows hiding St

section
variable {P : Program} {w : World} {A : Around} {E : Value → Shared → Prop} {s : Shared} {a : Addr} {ks : List Str}
theorem strs_of : ∀ l : List Value, (∀ v ∈ l, ∃ k u, v = Value.str k u) → ∃ ns, StrsAre l ns ∧ ns = l.map fun v => kOf (0, v)
  | [], _ => ⟨[], .nil, rfl⟩
  | v :: l, h => by
    obtain ⟨k, u, rfl⟩ := h v List.mem_cons_self
    obtain ⟨ns, g, e⟩ := strs_of l fun x hx => h x (List.mem_cons_of_mem _ hx)
    exact ⟨k :: ns, .cons k u g, by rw [e]; rfl⟩
set_option maxHeartbeats 4000000 in
theorem tx_sorted {Q : Value → Shared → Prop} (R : TxS w s.heap a ks) (hh : A.handled = none) (few : ks.length < 64)
    (k : ∀ s' p (out : Array Value) (c : Nat) (ys : List Str), (∀ b o, s.heap.get? b = some o → s'.heap.get? b = some o) → s'.gens = s.gens → s'.os = s.os → s.heap.objs.size ≤ p →
      s'.heap.get? p = some (seqObj "list" out c) → StrsAre out.toList ys → ys.Perm ks → sortedS ys = true → Q (.ref p) s') :
    wpAny (model P w) A (call (.builtin "sorted") [.ref a]) Q E s := by
  obtain ⟨o, es, ep, t, ho, hex, hd, good, pm, nd, small, fit, rises, led⟩ := R
  have size : es.size = ks.length := by
    have q := pm.length_eq
    rw [List.length_map, Array.length_toList] at q
    exact q
  refine Calls.call_function_entry kind_sorted plain_sorted entry_sorted (args_sorted1 _) ?_
  unfold Builtin.«sorted»
  refine wpAny_bind (m := checkCount "sorted" 1 1 _) (wpAny_pure (wpAny_bind (collect_set (A := A.in1) hh ⟨o, ho, hex.1, hd⟩ fit small rises led fun s1 vs kp1 hz g1 o1 p1 => ?_)))
  have lv : vs.length = ks.length := by rw [p1.length_eq, List.length_map, Array.length_toList]; exact size
  obtain ⟨ns, hS, ens⟩ := strs_of vs fun v hv => by
    obtain ⟨e, he, q⟩ := List.mem_map.mp (p1.mem_iff.mp hv)
    obtain ⟨k, u, rfl⟩ := good e he
    exact ⟨k, u, q.symm⟩
  have pn : ns.Perm ks := by
    have q := p1.map fun v => kOf (0, v)
    rw [List.map_map] at q
    rw [ens]
    exact q.trans pm
  refine wpAny_bind (wpAny_newList ?_ (by rw [lv, sizeLine_eq]; omega))
  have hl : (s1.heap.push (seqObj "list" vs.toArray 0)).get? s1.heap.objs.size = some (seqObj "list" vs.toArray 0) := Heap.get?_push_size _ rfl
  refine wpAny_bind (wpAny_holding (wpAny_call_entry slot_list_sort ⟨_, hl, rfl⟩ entry_list_sort (list_sort_treeK strKind_oneLt hl hS.keysOf (fun v1 v2 r e => keyKind_strs (by rw [← e]; exact hS)) (by rw [lv]; exact few) fun st' a1 a2 => ⟨_, rfl, ?_⟩) (args_list_sort _)))
  obtain ⟨ys, h1, h2, h3⟩ := sorted_out_str hS a1 a2
  obtain ⟨c, hc⟩ := sortedHeap_at (vs := vs) (out := _) hl
  refine wpAny_pure ⟨_, rfl, k _ s1.heap.objs.size _ c ys (fun b u e => ?_) g1 o1 hz hc h1 (h2.trans pn) h3⟩
  have q := kp1 b u e
  have lt := Heap.lt_size q
  exact (sortedHeap_old (Nat.ne_of_lt lt) (by rw [size_push']; exact Nat.lt_succ_of_lt lt)).trans (Heap.get?_push_of_some _ q)
end
def TxO (w : World) (a : Addr) (ks : List Str) : HO := .ext fun h => TxS w h a ks
theorem txO_new {w : World} {P : Program} {H : Hp} {h : Heap} {a : Addr} {ks : List Str} (R : TxS w h a ks) : ObjOk P w H h a (TxO w a ks) := by
  have ⟨o, _, _, _, ho, _⟩ := R
  exact ⟨R, ⟨o, ho⟩, fun h1 h2 p k => TxS.at p k⟩
theorem TxS.nodup {w : World} {h : Heap} {a : Addr} {ks : List Str} (R : TxS w h a ks) : ks.Nodup := by
  obtain ⟨_, _, _, _, _, _, _, _, _, nd, _⟩ := R
  exact nd
section
variable {X : Cx}
def rSetTx (K : PySem.W.Frag) (w : World) : List V → Hp → VK → Prop := fun vs H Q => ∃ v xs, vs = [v] ∧ ((∃ x, v = .str x ∧ xs = PyProof.Rows.signs x) ∨ ∃ l, v = .ref l ∧ SqL K H l (xs.map V.str)) ∧ Few xs ∧
  ∀ p ks, H p = none → ks.Nodup → (∀ k, k ∈ ks ↔ k ∈ xs) → Q (.ref p) (upd H p (TxO w p ks))
theorem strsA : ∀ {xs : List Str} {us : List Value}, Vals (xs.map V.str) us → StrsAre us xs
  | [], _, .nil => .nil
  | x :: xs, _, .cons h t => by
    obtain ⟨u, rfl⟩ := h
    exact .cons x u (strsA t)
theorem strsA_at : ∀ {xs : List Str} {us : List Value}, Vals (xs.map V.str) us → ∀ (i : Nat) (v : Value), us[i]? = some v → ∃ k t, xs[i]? = some k ∧ v = .str k t
  | [], _, .nil, i, v, h => by simp at h
  | x :: xs, _, .cons ⟨u, e⟩ t, 0, v, h => by
    simp at h
    exact ⟨x, u, rfl, by rw [← h]; exact e⟩
  | x :: xs, _, .cons _ t, i + 1, v, h => strsA_at t i v h
theorem cr_setTx (hc : X.calm = true) : CallR X (.type "set") (rSetTx X.K X.w) := by
  intro pins s σ H vs us Q I r h
  obtain ⟨v, xs, rfl, src, few, q⟩ := h
  rcases src with ⟨x, rfl, rfl⟩ | ⟨l, rfl, hl⟩
  · obtain ⟨u, rfl, ⟨t, rfl⟩⟩ := vals1 r
    refine call_setT (I.ok.hd hc) few fun h' tk ks T mem keep => ?_
    exact ⟨.ref _, upd H s.heap.objs.size (TxO X.w s.heap.objs.size ks), I.laid (t' := tk) keep (Nat.le_refl _) (txO_new T), rfl, q _ ks (I.hok.fresh (Nat.le_refl _)) T.nodup mem⟩
  · obtain ⟨its, rv, pl, _⟩ := I.list hl
    have sa : StrsAre its xs := strsA rv
    rw [Vals.ref1 r]
    refine call_setL (I.ok.hd hc) pl.isList (xs := xs) (fun i v hv => ?_) (by rw [List.size_toArray]; exact StrsAre.len_eq sa) few fun h' tk ks T mem keep => ?_
    · exact strsA_at rv i v (by simpa using hv)
    · exact ⟨.ref _, upd H s.heap.objs.size (TxO X.w s.heap.objs.size ks), I.laid (t' := tk) keep (Nat.le_refl _) (txO_new T), rfl, q _ ks (I.hok.fresh (Nat.le_refl _)) T.nodup mem⟩
def rSortTx (w : World) : List V → Hp → VK → Prop := fun vs H Q => ∃ a ks, vs = [V.ref a] ∧ H a = some (TxO w a ks) ∧ ks.length < 64 ∧
  ∀ (ys : List Str) (p : Addr), ys.Perm ks → sortedS ys = true → H p = none → Q (.ref p) (upd H p (.lst (ys.map V.str)))
theorem cr_sortTx (hc : X.calm = true) : CallR X (.builtin "sorted") (rSortTx X.w) := by
  intro pins s σ H vs us Q I r h
  obtain ⟨a, ks, rfl, ha, few, q⟩ := h
  have R : TxS X.w s.heap a ks := (I.hok a _ ha).1
  rw [Vals.ref1 r]
  refine tx_sorted R (I.ok.hd hc) few fun s1 p out c ys keep gens os hp hg are perm sorted => ?_
  have fits : (ys.map V.str).length ≤ sizeLine := by rw [List.length_map, perm.length_eq, sizeLine_eq]; omega
  have none1 : H p = none := I.hok.fresh hp
  have J : Inv X pins σ (upd H p (.lst (ys.map V.str))) { s with heap := s1.heap, gens := s1.gens, drawn := s1.drawn, toks := s1.toks } :=
    I.call (ch := []) (Un.laid keep hp none1) (I.hok.laid keep hp ⟨fits, out.toList, c, vals_of_strs are, hg⟩) (by rw [gens]; exact I.bare) (fun _ z => nomatch z)
  have e : s1 = { s with heap := s1.heap, gens := s1.gens, drawn := s1.drawn, toks := s1.toks } := by
    cases s1; cases s; cases os; rfl
  rw [e]
  exact ⟨.ref p, _, J, rfl, q ys p perm sorted none1⟩
/-- sorted(set(x)), x a text or a list of texts -/
def dSortSet (fz : Bool) (t : DTE) : DTE := fun ρ M Q => t ρ M fun d M1 => ∃ xs : List Str, ((∃ x, d = .str x ∧ xs = PyProof.Rows.signs x) ∨ lstOf M1 d = some (xs.map DL.D.str)) ∧ Few xs ∧
  ∀ ys : List Str, ys.Nodup → (∀ k, k ∈ ys ↔ k ∈ xs) → sortedS ys = true → newL fz (ys.map DL.D.str) M1 Q
variable {e : Expr} {t : DTE} {p p1 p2 pos : Pos}
theorem de_sortSet (fz : Bool) (m1 : X.mg "sorted" = none) (m2 : X.mg "set" = none) (he : DE X e t) (hc : X.calm = true := by rfl) (g1 : Gl X "sorted" := by rfl) (g2 : Gl X "set" := by rfl)
    (na : starEach [e] X.env = (false, eval e X.env) :: starEach [] X.env := by rfl) (nb : (backTo p2 (starEach [] X.env)).any (·.1) = false := by rfl)
    (na2 : starEach [.Call (.Name "set" p1) [e] [] p2] X.env = (false, eval (.Call (.Name "set" p1) [e] [] p2) X.env) :: starEach [] X.env := by rfl) (nb2 : (backTo pos (starEach [] X.env)).any (·.1) = false := by rfl) :
    DE X (.Call (.Name "sorted" p) [.Call (.Name "set" p1) [e] [] p2] [] pos) (dSortSet fz t) := by
  have b1 : bootBuiltins "sorted" = some (.builtin "sorted") := by decide +kernel
  have b2 : bootBuiltins "set" = some (.type "set") := by decide +kernel
  refine PE.weak (pe_callB (cr_sortTx hc) g1 m1 b1 (pa_cons (pe_callTy (cr_setTx hc) g2 m2 b2 (pa_cons he pa_nil na) (by decide) (by decide) na nb) pa_nil na2) (by decide) (by decide) na2 nb2) ?_
  rintro σ H Q0 ⟨F, M, ρ, Q, rs, rl, q, k⟩
  refine ⟨F, M, ρ, _, rs, rl, q, fun v d F1 M1 H1 s1 rp ⟨xs, src, few, q1⟩ => ?_⟩
  have go : ∀ p ks, H1 p = none → ks.Nodup → (∀ k, k ∈ ks ↔ k ∈ xs) → rSortTx X.w [.ref p] (upd H1 p (TxO X.w p ks)) Q0 := by
    intro p ks hp nd mem
    have s2 := s1.rel.newF hp (TxO X.w p ks)
    refine ⟨p, ks, rfl, upd_same, few ks nd fun k hk => (mem k).mp hk, fun ys p' pm so hp' => ?_⟩
    have g := q1 ys (pm.nodup_iff.mpr nd) (fun k => (pm.mem_iff).trans (mem k)) so
    exact newL_ok s2.rel (of_strs ys) g (fun v z F' M' H' s3 => k v z F' M' H' ((s1.trans s2).trans s3)) p' hp'
  rcases src with ⟨x, rfl, rfl⟩ | src
  · cases rp
    exact ⟨_, _, rfl, .inl ⟨x, rfl, rfl⟩, few, go⟩
  · obtain ⟨a, vs, rfl, h1, ra⟩ := lstOf_rp s1.rel rp src
    rw [rp_strs ra] at h1
    exact ⟨_, xs, rfl, .inr ⟨a, rfl, h1⟩, few, go⟩
end
end DL

/-! DL9: sorted of texts, list(text), a constant dict, slices with a step. -/
namespace DL
open PySem PySem.Spec L2
open PyProof.Rows hiding St

section
variable {X : Cx} {pos p p1 p2 p3 : Pos} {a b e : Expr} {t u : DTE}
/-- sorted(a list of texts), fewer than 64 -/
def rSortD (fz : Bool) : RDL := fun ds M Q => ∃ (d : DL.D) (xs : List Str), ds = [d] ∧ lstOf M d = some (xs.map DL.D.str) ∧ xs.length < 64 ∧
  ∀ ys : List Str, ys.Perm xs → sortedS ys = true → newL fz (ys.map DL.D.str) M Q
theorem cd_sort (fz : Bool) : CallD X (.builtin "sorted") (rSortD fz) := by
  intro pins s σ H vs us Q0 I r ⟨F, M, ds, Q, rp, rl, ⟨d, xs, e, e1, few, q⟩, k⟩
  subst e
  obtain ⟨v, rfl, r1⟩ := rp1 rp
  obtain ⟨l, ws, rfl, h1, ra⟩ := lstOf_rp rl r1 e1
  rw [rp_strs ra] at h1
  exact cr_sortedS pins s σ H _ us Q0 I r ⟨l, xs, rfl, h1, few, fun ys n pm so hn => newL_ok rl (of_strs ys) (q ys pm so) k n hn⟩
/-- list(a text) -/
def rListS (fz : Bool) : RDL := fun ds M Q => ∃ x : Str, ds = [.str x] ∧ x.cps.size ≤ sizeLine ∧ newL fz (signs x) M Q
theorem signs_rp {K : PySem.W.Frag} {F : Hp} (x : Str) : RpAll K F (x.cps.toList.map fun c => V.str ⟨#[c]⟩) (signs x) := by
  unfold signs
  generalize x.cps.toList = l
  induction l with
  | nil => exact .nil
  | cons c l ih => exact .cons (.str _) ih
theorem cd_listS (fz : Bool) (hc : X.calm = true) : CallD X (.type "list") (rListS fz) := by
  intro pins s σ H vs us Q0 I r ⟨F, M, ds, Q, rp, rl, ⟨x, e, small, q⟩, k⟩
  subst e
  obtain ⟨v, rfl, r1⟩ := rp1 rp
  cases r1
  obtain ⟨u, rfl, ⟨t, rfl⟩⟩ := vals1 r
  refine call_list_str (I.ok.hd hc) x t (hn := small) fun h' tk acc c keep at1 ⟨len, are⟩ => ?_
  have vals : Vals (x.cps.toList.map fun c => V.str ⟨#[c]⟩) acc.toList := by
    refine vals_of_at (by simp [len]) fun i v w hv hw => ?_
    rw [Array.getElem?_toList] at hw
    obtain ⟨c, t, hc, rfl⟩ := are i w hw
    rw [List.getElem?_map, Array.getElem?_toList, hc] at hv
    cases hv
    exact ⟨t, rfl⟩
  refine ⟨.ref _, upd H s.heap.objs.size (.lst (x.cps.toList.map fun c => V.str ⟨#[c]⟩)), I.laid (t' := tk) keep (Nat.le_refl _) ⟨?_, acc.toList, c, vals, ?_⟩, rfl, newL_ok rl (signs_rp x) q k _ (I.hok.fresh (Nat.le_refl _))⟩
  · rw [List.length_map, Array.length_toList]; exact small
  · exact at1
end
end DL

/-! DL10: slices with a step, a constant dict. -/
namespace DL
open PySem PySem.Spec L2
open PyProof.Rows hiding St

/-! ### lists -/
theorem fm_congr {α β : Type} {f g : α → Option β} : ∀ {l : List α}, (∀ k ∈ l, f k = g k) → l.filterMap f = l.filterMap g
  | [], _ => rfl
  | x :: l, h => by
    have ih := fm_congr (l := l) fun k hk => h k (List.mem_cons_of_mem _ hk)
    rw [List.filterMap_cons, List.filterMap_cons, h x List.mem_cons_self, ih]
/-- every other item, from the first -/
def ev {α : Type} : List α → List α
  | [] => []
  | [x] => [x]
  | x :: _ :: r => x :: ev r
theorem ev_pick {α : Type} : ∀ l : List α, ((List.range ((l.length + 1) / 2)).map fun k => 2 * k).filterMap (l[·]?) = ev l
  | [] => by simp [ev]
  | [x] => by simp [ev]
  | x :: y :: r => by
    have ih := ev_pick r
    have e : ((x :: y :: r).length + 1) / 2 = (r.length + 1) / 2 + 1 := by simp only [List.length_cons]; omega
    rw [e, List.range_succ_eq_map, List.map_cons, List.map_map, List.filterMap_cons]
    show x :: _ = x :: ev r
    rw [← ih, List.filterMap_map, List.filterMap_map]
    refine congrArg (x :: ·) (fm_congr fun k _ => ?_)
    show (x :: y :: r)[2 * (k + 1)]? = r[2 * k]?
    rw [show 2 * (k + 1) = 2 * k + 1 + 1 by omega, List.getElem?_cons_succ, List.getElem?_cons_succ]
theorem back_pick {α : Type} : ∀ l : List α, ((List.range l.length).map fun k => l.length - 1 - k).filterMap (l[·]?) = l.reverse := by
  intro l
  generalize hm : l.reverse = m
  have hl : l = m.reverse := by rw [← hm, List.reverse_reverse]
  subst hl
  clear hm
  induction m with
  | nil => rfl
  | cons x m ih =>
    rw [List.filterMap_map] at ih ⊢
    rw [List.length_reverse] at ih ⊢
    rw [List.length_cons, List.range_succ_eq_map, List.filterMap_cons, List.filterMap_map]
    have e0 : ((fun i => (x :: m).reverse[i]?) ∘ fun k => m.length + 1 - 1 - k) 0 = some x := by
      show (x :: m).reverse[m.length + 1 - 1 - 0]? = some x
      rw [List.reverse_cons, List.getElem?_append_right (by rw [List.length_reverse]; omega), List.length_reverse]
      simp
    rw [e0]
    refine congrArg (x :: ·) (Eq.trans (fm_congr fun k hk => ?_) ih)
    have hk' := List.mem_range.mp hk
    show (x :: m).reverse[m.length + 1 - 1 - (k + 1)]? = m.reverse[m.length - 1 - k]?
    rw [List.reverse_cons, List.getElem?_append_left (by rw [List.length_reverse]; omega)]
    exact congrArg (m.reverse[·]?) (by omega)
theorem rng_two (n : Nat) : sliceRange 0 (n : Int) 2 = (List.range ((n + 1) / 2)).map fun k => 2 * k := by
  unfold sliceRange
  by_cases h : (0 : Int) < (n : Int)
  · have e : (((n : Int) - 0 + 2 - 1) / 2).toNat = (n + 1) / 2 := by omega
    simp only [show (2 : Int) > 0 from by decide, if_true, h, e]
    exact List.map_congr_left fun k _ => by omega
  · obtain rfl : n = 0 := by omega
    simp
theorem rng_odd (n : Nat) : sliceRange (min 1 (n : Int)) (n : Int) 2 = (List.range (((n - 1) + 1) / 2)).map fun k => 2 * k + 1 := by
  unfold sliceRange
  by_cases h : (1 : Int) < (n : Int)
  · have e1 : min (1 : Int) (n : Int) = 1 := by omega
    have e : (((n : Int) - 1 + 2 - 1) / 2).toNat = (n - 1 + 1) / 2 := by omega
    rw [e1]
    simp only [show (2 : Int) > 0 from by decide, if_true, h, e]
    exact List.map_congr_left fun k _ => by omega
  · rcases (show n = 0 ∨ n = 1 by omega) with rfl | rfl <;> rfl
theorem rng_back (n : Nat) : sliceRange ((n : Int) - 1) (-1) (-1) = (List.range n).map fun k => n - 1 - k := PySem.W.krv_sliceRange n
theorem pick_ev (its : Array Value) : slicePick its none none (some 2) = (ev its.toList).toArray := by
  have b : sliceBounds none none (some 2) its.size = (0, (its.size : Int), 2) := by first | rfl | simp [sliceBounds]
  unfold slicePick
  rw [b]
  show ((sliceRange 0 (its.size : Int) 2).filterMap (its[·]?)).toArray = _
  rw [rng_two, ← ev_pick its.toList, Array.length_toList]
  simp only [Array.getElem?_toList]
theorem pick_od (its : Array Value) : slicePick its (some 1) none (some 2) = (ev its.toList.tail).toArray := by
  have b : sliceBounds (some 1) none (some 2) its.size = (min 1 (its.size : Int), (its.size : Int), 2) := by
    simp only [sliceBounds]
    first | rfl | (simp; omega) | simp
  unfold slicePick
  rw [b]
  show ((sliceRange (min 1 (its.size : Int)) (its.size : Int) 2).filterMap (its[·]?)).toArray = _
  have l : its.toList.tail.length = its.size - 1 := by simp
  rw [rng_odd, ← ev_pick its.toList.tail, l, List.filterMap_map, List.filterMap_map]
  refine congrArg _ (fm_congr fun k _ => ?_)
  show its[2 * k + 1]? = its.toList.tail[2 * k]?
  rw [List.getElem?_tail, Array.getElem?_toList]
theorem RpAll.ev {K : PySem.W.Frag} {F : Hp} : ∀ {vs : List V} {ds : List DL.D}, RpAll K F vs ds → RpAll K F (DL.ev vs) (DL.ev ds)
  | _, _, .nil => .nil
  | _, _, .cons h .nil => .cons h .nil
  | _, _, .cons h (.cons _ t) => .cons h (RpAll.ev t)
theorem vals_ev : ∀ {vs : List V} {us : List Value}, Vals vs us → Vals (DL.ev vs) (DL.ev us)
  | _, _, .nil => .nil
  | _, _, .cons h .nil => .cons h .nil
  | _, _, .cons h (.cons _ t) => .cons h (vals_ev t)
theorem ev_length {α : Type} : ∀ l : List α, (ev l).length = (l.length + 1) / 2
  | [] => by simp [ev]
  | [_] => by simp [ev]
  | _ :: _ :: r => by
    show (ev r).length + 1 = (r.length + 1 + 1 + 1) / 2
    rw [ev_length r]; omega
theorem ev_mem {α : Type} {x : α} : ∀ {l : List α}, x ∈ ev l → x ∈ l
  | [], h => h
  | [_], h => h
  | y :: _ :: r, h => by
    cases List.mem_cons.mp h with
    | inl e => rw [e]; exact List.mem_cons_self
    | inr e => exact List.mem_cons_of_mem _ (List.mem_cons_of_mem _ (ev_mem e))
theorem vals_tail {vs : List V} {us : List Value} (h : Vals vs us) : Vals vs.tail us.tail := by
  cases h with
  | nil => exact .nil
  | cons a b => exact b
theorem RpAll.tail {K : PySem.W.Frag} {F : Hp} {vs : List V} {ds : List DL.D} (h : RpAll K F vs ds) : RpAll K F vs.tail ds.tail := by
  cases h with
  | nil => exact .nil
  | cons a b => exact b

/-! ### the slice -/
section
variable {X : Cx} {pos p p1 p2 p3 : Pos} {a b e st : Expr} {t u : DTE} {lo hi : Option Expr}
/-- what holds of x[lo:hi:st] when its parts are known -/
def Sl3R (X : Cx) (l h k : Option Int) (r : V → Hp → VK → Prop) : Prop :=
  ∀ (pins : List (Addr × Obj)) (s : Shared) (σ : St) (H : Hp) (x : V) (v vl vu vs : Value) (sl : Addr) (Q : VK), Inv X pins σ H s → RelV x v → s.heap.IsSliceOf sl vl vu vs → IsPart vl l → IsPart vu h → IsPart vs k → r x H Q →
    ∃ T id, typeLookup (.type T) "__getitem__" = pure (some (.builtin id)) ∧ s.TypeIs v T ∧ wpAny (model X.prog X.w) X.A (getItem v (.ref sl)) (EP X pins σ Q) X.xe s
theorem pe_slice3 {l h : Option Int} {k : Int} {r : V → Hp → VK → Prop} {te : TE} (hr : Sl3R X l h (some k) r) (he : PE X e te) (hl : PO X lo (fun _ H Q => Q l H)) (hu : PO X hi (fun _ H Q => Q h H)) (hs : PO X (some st) (fun _ H Q => Q (some k) H)) :
    PE X (.Subscript e (.Slice lo hi (some st) p2) pos) (fun σ H Q => te σ H fun x H1 => r x H1 Q) := by
  refine ⟨fun pins s σ H Q I q => Subscript_ (thn (he.run pins s σ H _ I q) fun v s1 ⟨x, H1, I1, r1, q1⟩ => ?_)⟩
  refine wpAny_Slice (thn (hl.run pins s1 σ H1 (fun o H2 => o = l ∧ H2 = H1) I1 ⟨rfl, rfl⟩) fun vl s2 ⟨_, H2, I2, pl, el, e2⟩ => ?_)
  subst el e2
  refine thn (hu.run pins s2 σ H2 (fun o H3 => o = h ∧ H3 = H2) I2 ⟨rfl, rfl⟩) fun vu s3 ⟨_, H3, I3, pu, eu, e3⟩ => ?_
  subst eu e3
  refine thn (hs.run pins s3 σ H3 (fun o H4 => o = some k ∧ H4 = H3) I3 ⟨rfl, rfl⟩) fun vs s4 ⟨_, H4, I4, ps, es, e4⟩ => ?_
  subst es e4
  have I5 : Inv X pins σ H4 { s4 with heap := s4.heap.push { cls := .type "slice", data := .fields #[vl, vu, vs] } } := I4.kept (t' := s4.toks) fun b ob z => Heap.get?_push_of_some _ z
  obtain ⟨T, id, hT, ht, hg⟩ := hr pins _ σ H4 x v vl vu vs s4.heap.objs.size Q I5 r1 (Heap.IsSliceOf.new _ vl vu vs) pl pu ps q1
  show wpAny (model X.prog X.w) X.A (subscriptTail e (.Slice lo hi (some st) p2) v (.ref s4.heap.objs.size)) (EP X pins σ Q) X.xe _
  exact tail_any (ops := [v, .ref s4.heap.objs.size]) ht hT hg (by with_unfolding_all rfl)
theorem po_c (i : Int) {c : Expr} (h : PE X c (tC (.int i))) : PO X (some c) (fun _ H Q => Q (some i) H) := by
  refine ⟨fun pins s σ H Q I q => ?_⟩
  exact (po_some h).run pins s σ H Q I ⟨i, rfl, q⟩
theorem po_n : PO X none (fun _ H Q => Q none H) := ⟨fun pins s σ H Q I q => po_none.run pins s σ H Q I q⟩
theorem sl3_list {l h : Option Int} {k : Int} {f : List V → List V} {g : List Value → List Value} (k0 : k ≠ 0) (hf : ∀ its : List Value, slicePick its.toArray l h (some k) = (g its).toArray) (hv : ∀ {vs us}, Vals vs us → Vals (f vs) (g us)) (hz : ∀ vs, (f vs).length ≤ vs.length) :
    Sl3R X l h (some k) (fun x H Q => ∃ a xs, x = .ref a ∧ SqL X.K H a xs ∧ ∀ p, H p = none → Q (.ref p) (upd H p (.lst (f xs)))) := by
  rintro pins s σ H x v vl vu vs sl Q I rx hs pl pu ps ⟨a, xs, rfl, hx, q⟩
  cases rx
  obtain ⟨its, r, ht, small⟩ := I.list hx
  have len := r.length
  refine ⟨"list", _, slot_list_getitem.lookup, ht.isList.typeIs, ?_⟩
  refine wpAny_getItem_list_slice ht.isList hs pl pu ps (fun z => k0 (Option.some.inj z)) ?_ (by rw [List.size_toArray]; omega)
  rw [hf]
  refine ⟨.ref _, _, I.laid (t' := s.toks) (o := .lst (f xs)) (fun b ob z => Heap.get?_push_of_some _ z) (Nat.le_refl _) ?_, rfl, q _ (I.hok.fresh (Nat.le_refl _))⟩
  exact ⟨Nat.le_trans (hz xs) small, _, 0, hv r, Heap.get?_push_size _ rfl⟩
/-- x[::2], x[1::2] of a list -/
def dEv (fz : Bool) (f : List DL.D → List DL.D) (t : DTE) : DTE := fun ρ M Q => t ρ M fun d M1 => ∃ xs, lstOf M1 d = some xs ∧ newL fz (f xs) M1 Q
theorem can_ev {fz : Bool} {f : List DL.D → List DL.D} {g : List V → List V} (hr : ∀ {F vs ds}, RpAll X.K F vs ds → RpAll X.K F (g vs) (f ds)) {σ : St} {H : Hp} {Q0 : VK} (q : canE X.K (dEv fz f t) σ H Q0) :
    canE X.K t σ H fun x H1 => ∃ a xs, x = .ref a ∧ SqL X.K H1 a xs ∧ ∀ p, H1 p = none → Q0 (.ref p) (upd H1 p (.lst (g xs))) := by
  obtain ⟨F, M, ρ, Q, rs, rl, q, k⟩ := q
  refine ⟨F, M, ρ, _, rs, rl, q, fun v d F1 M1 H1 s1 rp ⟨xs, e1, q1⟩ => ?_⟩
  obtain ⟨l, vs, rfl, h1, ra⟩ := lstOf_rp s1.rel rp e1
  exact ⟨l, vs, rfl, h1, fun p hp => newL_ok s1.rel (hr ra) q1 (fun v z F' M' H' s => k v z F' M' H' (s1.trans s)) p hp⟩
theorem de_step2_0 (fz : Bool) {kd : Nat} (he : DE X e t) : DE X (.Subscript e (.Slice none none (some (.Constant (.int 2) kd p1)) p2) pos) (dEv fz ev t) := by
  refine PE.weak (pe_slice3 (sl3_list (f := ev) (g := ev) (by decide) (fun its => pick_ev its.toArray) vals_ev (fun vs => by rw [ev_length]; omega)) he po_n po_n (po_c 2 pe_int)) fun σ H Q0 q => can_ev RpAll.ev q
theorem de_step2_1 (fz : Bool) {kd kd2 : Nat} (he : DE X e t) : DE X (.Subscript e (.Slice (some (.Constant (.int 1) kd2 p3)) none (some (.Constant (.int 2) kd p1)) p2) pos) (dEv fz (fun xs => ev xs.tail) t) := by
  refine PE.weak (pe_slice3 (sl3_list (f := fun xs => ev xs.tail) (g := fun xs => ev xs.tail) (by decide) (fun its => pick_od its.toArray) (fun r => vals_ev (vals_tail r)) (fun vs => by rw [ev_length, List.length_tail]; omega)) he (po_c 1 pe_int) po_n (po_c 2 pe_int)) fun σ H Q0 q => can_ev (fun r => r.tail.ev) q
end
/-! ### x[::-1] of a tuple, of a text -/
theorem getItem_tuple_back {P : Program} {w : World} {A : Around} {E : Value → Shared → Prop} {s : Shared} {t sl : Addr} {items : Array Value} {vl vu vs : Value} {Q : Value → Shared → Prop} (ht : IsTup s.heap t items) (hs : s.heap.IsSliceOf sl vl vu vs) (pl : IsPart vl none) (pu : IsPart vu none) (pk : IsPart vs (some (-1)))
    (small : items.size ≤ sizeLine) (h : Q (.ref s.heap.objs.size) { s with heap := s.heap.push { cls := .type "tuple", data := .seq items.toList.reverse.toArray } }) : wpAny (model P w) A (getItem (.ref t) (.ref sl)) Q E s := by
  obtain ⟨os, hos, hcs, hds⟩ := id hs
  have isSl : s.TypeIs (.ref sl) "slice" := ⟨os, hos, hcs⟩
  unfold getItem
  try with_reducible refine wpAny_holding ?_
  first | refine wpAny_bind (wpAny_pure ?_) | skip
  refine wpAny_bind (wpAny_sequenceKey ht.typeIs (by decide) (wpAny_bind (wpAny_callSpecial?_slot (name := Str.ofString "__getitem__") ht.typeIs PyProof.Rows.slot_tuple_getitem
    (wpAny_call_entry PyProof.Rows.slot_tuple_getitem ht.typeIs entry_tuple_getitem ?_ (args_tuple_getitem _ _)))))
  refine wpAny_bind (m := Builtin.Tuple.tupleItemsOf (.ref t)) (tupleItemsOf_ ht (wpAny_bind (wpAny_typeOf isSl ?_)))
  rw [if_pos (by decide)]
  have places : Builtin.Slice.slicePlaces ((items.size : Int) - 1) (-1) (-1) = items.size := by
    unfold Builtin.Slice.slicePlaces
    by_cases z : (items.size : Int) - 1 > -1
    · simp only [show ¬ ((-1 : Int) > 0) from by decide, if_false, z, if_true]
      rw [show (- -1 : Int) = 1 from rfl, Int.ediv_one]
      omega
    · simp only [show ¬ ((-1 : Int) > 0) from by decide, if_false, z]
      omega
  refine wpAny_bind (m := Builtin.Slice.sliceApplied (.ref sl) (pure (items.size : Int))) ?_
  unfold Builtin.Slice.sliceApplied Builtin.Slice.sliceFields
  refine wpAny_bind (wpAny_bind (wpAny_field hos hds (x := vl) rfl (wpAny_bind (wpAny_field hos hds (x := vu) rfl (wpAny_bind (wpAny_field hos hds (x := vs) rfl (wpAny_pure ?_)))))))
  refine wpAny_bind (HT.slicePart_ pk ?_)
  show wpAny _ _ (if ((-1 : Int) == 0) = true then _ else _) _ _ s
  rw [if_neg (by decide)]
  refine wpAny_bind (HT.slicePart_ pl (wpAny_bind (HT.slicePart_ pu (wpAny_bind (wpAny_pure ?_)))))
  have adj : Builtin.Slice.sliceAdjust none none (-1) (items.size : Int) = ((items.size : Int) - 1, -1) := by first | rfl | simp [Builtin.Slice.sliceAdjust]
  show wpAny _ _ (match Builtin.Slice.sliceAdjust none none (-1) (items.size : Int) with | (lo, hi) => pure (lo, (-1 : Int), Builtin.Slice.slicePlaces lo hi (-1))) _ _ s
  rw [adj]
  show wpAny _ _ (pure ((items.size : Int) - 1, (-1 : Int), Builtin.Slice.slicePlaces ((items.size : Int) - 1) (-1) (-1))) _ _ s
  rw [places]
  refine wpAny_pure ?_
  have notAll : ¬ ((((items.size : Int) - 1) == 0 && (-1 : Int) == 1 && items.size == items.size) = true) := by
    intro z
    rw [Bool.and_eq_true, Bool.and_eq_true] at z
    exact absurd z.1.2 (by decide)
  show wpAny _ _ (if (((items.size : Int) - 1) == 0 && (-1 : Int) == 1 && items.size == items.size) = true then _ else _) _ _ s
  have picked : ((List.range items.size).filterMap fun (m : Nat) => items[((items.size : Int) - 1 + (m : Int) * -1).toNat]?).toArray = items.toList.reverse.toArray := by
    have q := back_pick items.toList
    rw [List.filterMap_map, Array.length_toList] at q
    rw [← q]
    refine congrArg _ (fm_congr fun m hm => ?_)
    show _ = items.toList[items.size - 1 - m]?
    rw [Array.getElem?_toList]
    exact congrArg (items[·]?) (by omega)
  rw [if_neg notAll, picked]
  have fits : sizeOk (.seq items.toList.reverse.toArray) := by
    show items.toList.reverse.toArray.size ≤ sizeLine
    rw [List.size_toArray, List.length_reverse, Array.length_toList]; exact small
  first
    | exact wpAny_bind (m := Builtin.Tuple.tupleExact _) (wpAny_newObj_type (wpAny_pure ⟨_, rfl, wpAny_pure h⟩) fits)
    | exact wpAny_bind (m := Builtin.Tuple.tupleExact _) (wpAny_newObj_type (wpAny_bind (wpAny_pure (wpAny_pure ⟨_, rfl, wpAny_pure h⟩))) fits)
    | exact wpAny_bind (wpAny_bind (m := Builtin.Tuple.tupleExact _) (wpAny_newObj_type (wpAny_pure (wpAny_pure ⟨_, rfl, wpAny_pure h⟩)) fits))
    | exact wpAny_bind (wpAny_bind (m := Builtin.Tuple.tupleExact _) (wpAny_newObj_type (wpAny_pure ⟨_, rfl, wpAny_pure h⟩) fits))
theorem sl3_tupB {X : Cx} : Sl3R X none none (some (-1)) (fun x H Q => ∃ a xs, x = .ref a ∧ SqT X.K H a xs ∧ ∀ p, H p = none → Q (.ref p) (upd H p (.tup xs.reverse))) := by
  rintro pins s σ H x v vl vu vs sl Q I rx hs pl pu ps ⟨a, xs, rfl, hx, q⟩
  cases rx
  obtain ⟨its, r, ht, small⟩ := I.tuple hx
  have len := r.length
  refine ⟨"tuple", _, PyProof.Rows.slot_tuple_getitem.lookup, ht.typeIs, ?_⟩
  refine getItem_tuple_back ht hs pl pu ps (by rw [List.size_toArray]; omega) ?_
  refine ⟨.ref s.heap.objs.size, _, I.laid (t' := s.toks) (o := .tup xs.reverse) (fun b ob z => Heap.get?_push_of_some _ z) (Nat.le_refl _) ?_, rfl, q _ (I.hok.fresh (Nat.le_refl _))⟩
  exact ⟨by rw [List.length_reverse]; exact small, _, r.reverse, IsTup.new _ _⟩
def revT (z : Str) : Str := ⟨z.cps.toList.reverse.toArray⟩
theorem sl3_strB {X : Cx} : Sl3R X none none (some (-1)) (fun x H Q => ∃ z, x = .str z ∧ z.length ≤ sizeLine ∧ Q (.str (revT z)) H) := by
  rintro pins s σ H x v vl vu vs sl Q I rx hs pl pu ps ⟨z, rfl, small, q⟩
  obtain ⟨t, rfl⟩ := rx
  obtain ⟨os, hos, hcs, hds⟩ := hs
  obtain ⟨l, rfl, el⟩ := IsPart.raw pl
  obtain ⟨u, rfl, eu⟩ := IsPart.raw pu
  obtain ⟨k, rfl, ek⟩ := IsPart.raw ps
  refine ⟨"str", _, F.slot_str_getitem.lookup, typeIs_str _ _ _, ?_⟩
  refine wpAny_getItem_str_slice (l := l) (u := u) (st := k) ⟨os, hos, hcs, hds⟩ (by rw [ek]; rfl) ?_
  have e : slicePicked z l u k = (List.range z.cps.toList.length).map fun k => z.cps.toList.length - 1 - k := by
    unfold slicePicked
    rw [el, eu, ek, Array.length_toList]
    exact rng_back z.cps.size
  have made : sliceMade z t l u k = .str (revT z) := by
    unfold sliceMade
    rw [ek]
    rw [if_neg (by simp), e]
    unfold revT
    rw [← back_pick z.cps.toList]
    simp only [Array.getElem?_toList]
  rw [made]
  refine ⟨?_, ⟨.str (revT z), H, I.tok _, ⟨_, rfl⟩, q⟩⟩
  show z.cps.toList.reverse.toArray.size ≤ sizeLine
  rw [List.size_toArray, List.length_reverse, Array.length_toList]; exact small
end DL

/-! DL11: x[::-1]; a constant dict of numbers by texts. -/
namespace DL
open PySem PySem.Spec L2
open PyProof.Rows hiding St

section
variable {X : Cx} {pos p p1 p2 p3 : Pos} {a b e st : Expr} {t u : DTE}
def rRev (fz : Bool) : DL.D → Mp → DK → Prop
  | .str z, M, Q => z.length ≤ sizeLine ∧ Q (.str (revT z)) M
  | .tup xs, M, Q => Q (.tup xs.reverse) M
  | x, M, Q => ∃ xs, lstOf M x = some xs ∧ newL fz xs.reverse M Q
def dRevS (fz : Bool) (t : DTE) : DTE := fun ρ M Q => t ρ M fun d M1 => rRev fz d M1 Q
theorem Sl3R.or {l h k : Option Int} {r1 r2 : V → Hp → VK → Prop} (a : Sl3R X l h k r1) (b : Sl3R X l h k r2) : Sl3R X l h k (fun x H Q => r1 x H Q ∨ r2 x H Q) := by
  intro pins s σ H x v vl vu vs sl Q I rx hs pl pu ps q
  rcases q with q | q
  · exact a pins s σ H x v vl vu vs sl Q I rx hs pl pu ps q
  · exact b pins s σ H x v vl vu vs sl Q I rx hs pl pu ps q
theorem de_revS (fz : Bool) {kd : Nat} (he : DE X e t) : DE X (.Subscript e (.Slice none none (some (.UnaryOp .USub (.Constant (.int 1) kd p1) p3)) p2) pos) (dRevS fz t) := by
  have hst : PO X (some (.UnaryOp .USub (.Constant (.int 1) kd p1) p3)) (fun _ H Q => Q (some (-1)) H) := by
    refine ⟨fun pins s σ H Q I q => ?_⟩
    exact (po_some (pe_un un_neg pe_int)).run pins s σ H Q I ⟨1, rfl, -1, rfl, q⟩
  have hl : Sl3R X none none (some (-1)) (fun x H Q => ∃ a xs, x = .ref a ∧ SqL X.K H a xs ∧ ∀ p, H p = none → Q (.ref p) (upd H p (.lst xs.reverse))) :=
    sl3_list (f := List.reverse) (g := List.reverse) (by decide) (fun its => PySem.W.krv_pick its.toArray) (fun r => r.reverse) (fun vs => by rw [List.length_reverse]; exact Nat.le_refl _)
  refine PE.weak (pe_slice3 (hl.or (sl3_tupB.or sl3_strB)) he po_n po_n hst) ?_
  rintro σ H Q0 ⟨F, M, ρ, Q, rs, rl, q, k⟩
  refine ⟨F, M, ρ, _, rs, rl, q, fun v d F1 M1 H1 s1 rp q1 => ?_⟩
  have k1 : ∀ v d F' M' H', Stp X.K F1 M1 H1 F' M' H' → Rp X.K F' v d → Q d M' → Q0 v H' := fun v d F' M' H' s => k v d F' M' H' (s1.trans s)
  unfold rRev at q1
  split at q1
  · cases rp
    exact .inr (.inr ⟨_, rfl, q1.1, k1 _ _ F1 M1 H1 (Stp.refl s1.rel) (.str _) q1.2⟩)
  · cases rp with
    | tup sq ra =>
      exact .inr (.inl ⟨_, _, rfl, Same.tseq s1.rel.sub sq, fun p hp => newT_ok s1.rel ra.reverse q1 k1 p hp⟩)
  · obtain ⟨xs, e1, q1⟩ := q1
    obtain ⟨p, vs, rfl, h1, ra⟩ := lstOf_rp s1.rel rp e1
    exact .inl ⟨p, vs, rfl, h1, fun p hp => newL_ok s1.rel ra.reverse q1 k1 p hp⟩

/-! ### a constant dict -/
def kvE (kvs : List (Str × Int)) : List (TE × TE) := kvs.map fun kv => (tC (.str kv.1), tC (.int kv.2))
def kvV (kvs : List (Str × Int)) : List (Key × V) := kvs.map fun kv => (Sum.inr kv.1, V.int kv.2)
theorem tp_const {σ : St} {H : Hp} : ∀ {kvs : List (Str × Int)} {Q : List (V × V) → Hp → Prop}, Q (kvs.map fun kv => (V.str kv.1, V.int kv.2)) H → tPairs (kvE kvs) σ H Q
  | [], _, h => h
  | kv :: kvs, Q, h => tp_const (kvs := kvs) (Q := fun ps H3 => Q ((V.str kv.1, V.int kv.2) :: ps) H3) h
def dDictC (kvs : List (Str × Int)) : DTE := dC (.dct (kvs.map fun kv => Sum.inr kv.1) (kvs.map fun kv => .int kv.2))
theorem zip_kvV : ∀ kvs : List (Str × Int), (kvs.map fun kv => (Sum.inr kv.1 : Key)).zip (kvs.map fun kv => V.int kv.2) = kvV kvs
  | [] => rfl
  | kv :: kvs => by
    rw [List.map_cons, List.map_cons, List.zip_cons_cons, zip_kvV kvs]
    rfl
theorem of_kvV {K : PySem.W.Frag} {F : Hp} : ∀ kvs : List (Str × Int), RpAll K F (kvs.map fun kv => V.int kv.2) (kvs.map fun kv => D.int kv.2)
  | [] => .nil
  | kv :: kvs => .cons (.int _) (of_kvV kvs)
theorem de_dictC {keys : List (Option Expr)} {values : List Expr} (kvs : List (Str × Int)) (h : PPs X pos keys values (kvE kvs)) (hm : mergeK [] (kvV kvs) = kvV kvs) (hall : keys.all (·.isSome) = true := by rfl) (hl : keys.length = values.length := by rfl) (h0 : keys ≠ [] := by simp)
    (h15 : keys.length ≤ 15 := by decide) (few : kvs.length ≤ 15 := by decide) : DE X (.Dict keys values pos) (dDictC kvs) := by
  refine PE.weak (pe_disp h hall hl h0 h15) ?_
  rintro σ H Q0 ⟨F, M, ρ, Q, rs, rl, q, k⟩
  intro p hp
  refine tp_const ⟨upd_same, kvV kvs, ?_, by unfold kvV; rw [List.length_map]; exact few, ?_⟩
  · unfold kvV; rw [List.map_map]; rfl
  · rw [hm, L2.upd_upd]
    have s1 := rl.newF hp (.dK (kvV kvs))
    refine k _ _ _ M _ s1 (.dct (ks := kvs.map fun kv : Str × Int => (Sum.inr kv.1 : Key)) (xs := kvs.map fun kv : Str × Int => V.int kv.2) ?_ (by rw [List.length_map, List.length_map]) (of_kvV kvs)) q
    rw [zip_kvV]; exact upd_same
/-- what stands behind a key -/
def lkD (k : Int ⊕ Str) : List (Int ⊕ Str) → List DL.D → Option DL.D
  | j :: ks, d :: ds => if j = k then some d else lkD k ks ds
  | _, _ => none
theorem lk_rp {K : PySem.W.Frag} {F : Hp} (k : Key) : ∀ {ks : List Key} {vs : List V} {ds : List DL.D}, RpAll K F vs ds → ks.length = vs.length →
    (lkD k ks ds = none ∧ valV (ks.zip vs) k = none) ∨ ∃ d v, lkD k ks ds = some d ∧ valV (ks.zip vs) k = some v ∧ Rp K F v d
  | [], _, _, .nil, _ => .inl ⟨rfl, rfl⟩
  | _ :: _, _, _, .nil, h => by simp at h
  | [], _, _, .cons _ _, h => by simp at h
  | j :: ks, v :: vs, d :: ds, .cons a b, h => by
    by_cases e : j = k
    · exact .inr ⟨d, v, if_pos e, valV_pos e, a⟩
    · rcases lk_rp k (ks := ks) b (by simpa using h) with ⟨h1, h2⟩ | ⟨d', v', h1, h2, h3⟩
      · exact .inl ⟨(if_neg e).trans h1, (valV_neg e).trans h2⟩
      · exact .inr ⟨d', v', (if_neg e).trans h1, (valV_neg e).trans h2, h3⟩
def rInDk (neg : Bool) : RD2
  | .str x, .dct ks ds, M, Q => Q (.bl (if neg = true then !(lkD (.inr x) ks ds).isSome else (lkD (.inr x) ks ds).isSome)) M
  | _, _, _, _ => False
def rGetDk : RD2
  | .dct ks ds, .str x, M, Q => ∃ d, lkD (.inr x) ks ds = some d ∧ Q d M
  | _, _, _, _ => False
theorem can_inK {neg : Bool} {σ : St} {H : Hp} {Q0 : VK} (q : canE X.K (dOp (rInDk neg) t u) σ H Q0) : canE X.K t σ H fun y H1 => canE X.K u σ H1 fun x H2 => ∃ a o, x = .ref a ∧ DGet H2 a y o ∧ Q0 (.bl (if neg = true then !o.isSome else o.isSome)) H2 := by
  obtain ⟨F, M, ρ, Q, rs, rl, q, k⟩ := q
  refine ⟨F, M, ρ, _, rs, rl, q, fun y d F1 M1 H1 s1 rp1 q1 => ?_⟩
  refine ⟨F1, M1, ρ, _, rs.mono s1.same, s1.rel, q1, fun x e F2 M2 H2 s2 rp2 q2 => ?_⟩
  unfold rInDk at q2
  split at q2
  · cases rp1
    cases rp2 with
    | dct at1 len ra =>
      refine ⟨_, _, rfl, .inl ⟨_, Sum.inr _, .inl (s2.rel.sub _ _ at1), rfl, rfl⟩, ?_⟩
      have k1 := k _ _ F2 M2 H2 (s1.trans s2) (.bl _) q2
      rcases lk_rp (Sum.inr _) ra len with ⟨h1, h2⟩ | ⟨d', v', h1, h2, h3⟩
      · rw [h1] at k1; rw [h2]; exact k1
      · rw [h1] at k1; rw [h2]; exact k1
  · exact q2.elim
theorem dt_cmpK {n : Nat} (hr : Room n X.A) (ha : DE X a t) (hb : DE X b u) (hm : behindInMarks .In b = false) : DT X (.Compare a [.In] [b] pos) (dB (dOp (rInDk false) t u)) := by
  have hu := hr.units
  refine PT.weak (pt_cmp (pc_din (by omega) ha hb) hm) ?_
  rintro σ H Q0 ⟨F, M, ρ, Q, rs, rl, q, k⟩
  refine can_inK (neg := false) (Q0 := fun x H1 => ∃ c, x = V.bl c ∧ Q0 c H1) ⟨F, M, ρ, _, rs, rl, q, fun v d F1 M1 H1 s1 rp ⟨c, e, q1⟩ => ?_⟩
  subst e
  cases rp
  exact ⟨c, rfl, k c F1 M1 H1 s1 q1⟩
theorem dt_cmpKN {n : Nat} (hr : Room n X.A) (ha : DE X a t) (hb : DE X b u) (hm : behindInMarks .NotIn b = false) : DT X (.Compare a [.NotIn] [b] pos) (dB (dOp (rInDk true) t u)) := by
  have hu := hr.units
  refine PT.weak (pt_cmp (pc_dnotin (by omega) ha hb) hm) ?_
  rintro σ H Q0 ⟨F, M, ρ, Q, rs, rl, q, k⟩
  refine can_inK (neg := true) (Q0 := fun x H1 => ∃ c, x = V.bl c ∧ Q0 c H1) ⟨F, M, ρ, _, rs, rl, q, fun v d F1 M1 H1 s1 rp ⟨c, e, q1⟩ => ?_⟩
  subst e
  cases rp
  exact ⟨c, rfl, k c F1 M1 H1 s1 q1⟩
theorem de_getK {n : Nat} (hr : Room n X.A) (ha : DE X a t) (hb : DE X b u) (hs : NoSl b := by exact fun _ _ => rfl) : DE X (.Subscript a b pos) (dOp rGetDk t u) := by
  have hu := hr.units
  refine PE.weak (pe_dget (by omega) ha hb hs) ?_
  rintro σ H Q0 ⟨F, M, ρ, Q, rs, rl, q, k⟩
  refine ⟨F, M, ρ, _, rs, rl, q, fun x d F1 M1 H1 s1 rp1 q1 => ?_⟩
  refine ⟨F1, M1, ρ, _, rs.mono s1.same, s1.rel, q1, fun y e F2 M2 H2 s2 rp2 q2 => ?_⟩
  unfold rGetDk at q2
  split at q2
  · obtain ⟨d', e1, q2⟩ := q2
    cases rp2
    cases rp1 with
    | dct at1 len ra =>
      rcases lk_rp (Sum.inr _) ra len with ⟨h1, h2⟩ | ⟨d2, v2, h1, h2, h3⟩
      · rw [e1] at h1; cases h1
      · rw [e1] at h1; cases h1
        exact ⟨_, v2, rfl, .inl ⟨_, Sum.inr _, .inl (s2.rel.sub _ _ (s2.same _ _ at1)), rfl, h2.symm⟩, k _ _ F2 M2 H2 (s1.trans s2) (h3.mono s2.same) q2⟩
  · exact q2.elim
end
end DL

/-! DL12: readings of comprehensions and loops by invariants; promises weakened. -/
namespace DL
open PySem PySem.Spec L2
open PyProof.Rows hiding St

/-- each item gives its own value, nothing else happens -/
theorem lc_map {g : DTG} {tt : DTT} {te : DTE} {G : Mp → Prop} {ρ : Rho} {k : List DL.D → Mp → Prop} {M : Mp} (f : DL.D → DL.D) (hG : G M) : ∀ (xs acc : List DL.D),
    (∀ x ∈ xs, ∀ (K1 : DK) (K2 : Mp → Prop), K1 (f x) M → g x ρ M fun ρ2 M2 => tt ρ2 M2 fun b M3 => if b = true then te ρ2 M3 K1 else K2 M3) →
    acc.length + xs.length ≤ sizeLine → k (acc ++ xs.map f) M → lcW g tt te G ρ k xs acc M
  | [], acc, _, _, h => ⟨hG, by simpa using h⟩
  | x :: xs, acc, step, hz, h => by
    refine ⟨hG, step x List.mem_cons_self _ _ ⟨by rw [List.length_cons] at hz; omega, ?_⟩⟩
    exact lc_map f hG xs (acc ++ [f x]) (fun y hy => step y (List.mem_cons_of_mem _ hy)) (by rw [List.length_append]; simp at hz ⊢; omega) (by simpa using h)
/-- the state moves along I, each value has P -/
theorem lc_inv {g : DTG} {tt : DTT} {te : DTE} {G : Mp → Prop} {ρ : Rho} {k : List DL.D → Mp → Prop} (I : Nat → Mp → Prop) (P : DL.D → Prop) (hG : ∀ n M, I n M → G M) : ∀ (xs acc : List DL.D) (M : Mp), I acc.length M → (∀ d ∈ acc, P d) →
    (∀ x ∈ xs, ∀ n M, I n M → n < acc.length + xs.length → ∀ (K1 : DK) (K2 : Mp → Prop), (∀ d M', P d → I (n + 1) M' → K1 d M') → g x ρ M fun ρ2 M2 => tt ρ2 M2 fun b M3 => if b = true then te ρ2 M3 K1 else K2 M3) →
    acc.length + xs.length ≤ sizeLine → (∀ ds M', ds.length = acc.length + xs.length → (∀ d ∈ ds, P d) → I ds.length M' → k ds M') → lcW g tt te G ρ k xs acc M
  | [], acc, M, i, p, _, _, h => ⟨hG _ _ i, h acc M (by simp) p i⟩
  | x :: xs, acc, M, i, p, step, hz, h => by
    refine ⟨hG _ _ i, step x List.mem_cons_self _ _ i (by simp) _ _ fun d M' pd i' => ⟨by rw [List.length_cons] at hz; omega, ?_⟩⟩
    refine lc_inv I P hG xs (acc ++ [d]) M' (by simpa using i') ?_ (fun y hy n M i hn => step y (List.mem_cons_of_mem _ hy) n M i (by simp at hn ⊢; omega)) (by rw [List.length_append]; simp at hz ⊢; omega) (fun ds M2 e q j => h ds M2 (by rw [e]; simp; omega) q j)
    intro d' hd'
    rcases List.mem_append.mp hd' with z | z
    · exact p d' z
    · rw [List.mem_singleton.mp z]; exact pd
/-- a for loop along I -/
theorem for_inv {g : DTG} {tb : DTS} {D : DEnds} {G : Mp → Prop} (I : Nat → Rho → Mp → Prop) (hG : ∀ n ρ M, I n ρ M → G M) : ∀ (xs : List DL.D) (n : Nat) (ρ : Rho) (M : Mp), I n ρ M →
    (∀ x ∈ xs, ∀ m ρ M, I m ρ M → m < n + xs.length → ∀ N : Rho → Mp → Prop, (∀ ρ' M', I (m + 1) ρ' M' → N ρ' M') → g x ρ M fun ρ2 M2 => tb { D with nx := N, ct := N, bk := D.nx } ρ2 M2) →
    (∀ ρ' M', I (n + xs.length) ρ' M' → D.nx ρ' M') → forW g tb D G xs ρ M
  | [], n, ρ, M, i, _, h => ⟨hG _ _ _ i, h ρ M (by simpa using i)⟩
  | x :: xs, n, ρ, M, i, step, h => by
    refine ⟨hG _ _ _ i, step x List.mem_cons_self n ρ M i (by simp) _ fun ρ' M' i' => ?_⟩
    exact for_inv I hG xs (n + 1) ρ' M' i' (fun y hy m ρ M j hm => step y (List.mem_cons_of_mem _ hy) m ρ M j (by simp at hm ⊢; omega)) fun ρ2 M2 j => h ρ2 M2 (by simpa [Nat.add_assoc, Nat.add_comm 1] using j)
/-- what stands in M1 beside M2 is forgotten -/
theorem Stp.forget {K : PySem.W.Frag} {F F1 : Hp} {M M1 M2 : Mp} {H H1 : Hp} (s : Stp K F M H F1 M1 H1) (h : ∀ a m, M2 a = some m → M1 a = some m) : Stp K F M H F1 M2 H1 :=
  ⟨s.same, ⟨s.rel.sub, fun a m q => s.rel.mt a m (h a m q)⟩, fun a o q f m => by
    obtain ⟨h1, h2, h3⟩ := s.fr a o q f m
    refine ⟨h1, h2, ?_⟩
    cases e : M2 a with
    | none => rfl
    | some m2 => rw [h a m2 e] at h3; cases h3⟩
def SubM (M M' : Mp) : Prop := ∀ a m, M a = some m → M' a = some m
theorem SubM.refl (M : Mp) : SubM M M := fun _ _ h => h
theorem SubM.mu {M M' : Mp} (h : SubM M M') {a : Addr} (ha : M a = none) (o : MO) : SubM M (mu M' a o) := fun b m e => by
  have ne : b ≠ a := fun q => by rw [q, ha] at e; cases e
  rw [mu_ne ne]; exact h b m e
theorem SubM.md {M M' : Mp} (h : SubM M M') {a : Addr} (ha : M a = none) : SubM M (md M' a) := fun b m e => by
  have ne : b ≠ a := fun q => by rw [q, ha] at e; cases e
  unfold DL.md; rw [if_neg ne]; exact h b m e
theorem Cal.weak {P : Program} {w : World} {K : PySem.W.Frag} {mg : Str → Option Value} {base : Heap} {k : Nat} {x : Str} {es : List DL.D} {sp1 sp2 : DSp} (C : Cal P w K mg base k x es sp1)
    (h : ∀ ds M Q, sp2 ds M Q → sp1 ds M fun d M1 => ∃ M2, SubM M2 M1 ∧ Q d M2) : Cal P w K mg base k x es sp2 := by
  obtain ⟨f, fd, ps, dvs, us, G, m, kp, b, vd, rd⟩ := C.ex
  have w : ∀ vs H Q0 E, lift K sp2 vs H Q0 E → lift K sp1 vs H Q0 E := by
    rintro vs H Q0 E ⟨ds, F, M, Q, rp, rl, q, k⟩
    refine ⟨ds, F, M, _, rp, rl, h ds M Q q, fun v d F' M' H' s r ⟨M2, sub, q2⟩ => k v d F' M2 H' (s.forget sub) r q2⟩
  exact ⟨f, fd, ps, dvs, us, ⟨fun z => G.many (w _ _ _ _ z), fun r g e b v z => G.go r g e b v (w _ _ _ _ z)⟩, m, kp, b, vd, rd⟩
/-- the same as dcal, of a def at its address -/
theorem dgn {P : Program} {w : World} {K : PySem.W.Frag} {mg : Str → Option Value} {base : Heap} {x qual : Str} {st : Stmt} {N ps : List Str} {k : Nat} {sp : DSp} {f : Addr} {oc : Value} {od : Option Addr} {dV kV doc pm : Value} {an : Option Addr} {cd ct : Value} {osl : Array (Option Value)}
    (lk : K.lookup f = some ⟨oc, od, .func (PySem.W.fnOf x qual (defArgs st) (defBody st) (defScope st) dV kV doc pm an cd ct), osl⟩) (hcd : PySem.W.codeIn K cd qual = true) (S : FnScope N ps (defScope st)) {t : DTS}
    (body : ∀ (cdv : Value) (A : Around) (outer : List Env) (s : Shared) (H : Hp) (E : XK), Room k (A.deeper (envOfC qual (defScope st) s.heap.objs.size f cdv)) → (A.deeper (envOfC qual (defScope st) s.heap.objs.size f cdv)).guards = some [] →
      DSs (cxOf CX0 P w K mg base N qual (defScope st) f cdv A outer s H E).nox (defBody st) t)
    (read : ∀ ds M Q, sp ds M Q → ds.length = ps.length ∧ t { nx := fun _ M' => Q .non M', rt := Q } (dstart N ds) M) :
    GnOk P w K mg base CX0 (k + 1) f (PySem.W.fnOf x qual (defArgs st) (defBody st) (defScope st) dV kV doc pm an cd ct) ps (lift K sp) := by
  refine gfn_of lk hcd S ?_ ?_
  · rintro vs H Q E ⟨ds, F, M, Q, rp, _, q, _⟩
    rw [rp.length]; exact (read ds M Q q).1
  · rintro A outer s H vs Q0 E room gu ⟨ds, F, M, Q, rp, r, q, kk⟩
    refine ⟨_, PSs.nox (body cd A outer s H E room gu), F, M, dstart N ds, _, relS_start rp, r, (read ds M Q q).2, ⟨fun _ _ F' M' H' s' _ q' => kk .non .non F' M' H' s' .non q', fun v d F' M' H' s' rp' q' => kk v d F' M' H' s' rp' q', fun _ _ _ _ _ _ _ z => z.elim, fun _ _ _ _ _ _ _ z => z.elim⟩⟩
/-! ### what the top has left -/
def Dfn (K : PySem.W.Frag) (x : Str) (st : Stmt) : Prop := ∃ (f : Addr) (oc : Value) (od : Option Addr) (kV doc pm : Value) (an : Option Addr) (cd ct : Value) (osl : Array (Option Value)),
  PySem.W.nsIn K mainGlobals x = some (some (.ref f)) ∧ K.lookup f = some ⟨oc, od, .func (PySem.W.fnOf x x (defArgs st) (defBody st) (defScope st) .none kV doc pm an cd ct), osl⟩ ∧ PySem.W.codeIn K cd x = true ∧ PySem.W.keepIn K (.ref f) = true
section
variable {K : PySem.W.Frag} {h : Heap} {mg : Str → Option Value} {x : Str} {st : Stmt} {f : Addr} {oc : Value} {od : Option Addr} {kV doc pm : Value} {an : Option Addr} {cd ct : Value} {osl : Array (Option Value)}
theorem dfn_mk (a : PySem.W.nsIn K mainGlobals x = some (some (.ref f))) (l : K.lookup f = some ⟨oc, od, .func (PySem.W.fnOf x x (defArgs st) (defBody st) (defScope st) .none kV doc pm an cd ct), osl⟩) (c : PySem.W.codeIn K cd x = true) (k : PySem.W.keepIn K (.ref f) = true) : Dfn K x st :=
  ⟨f, oc, od, kV, doc, pm, an, cd, ct, osl, a, l, c, k⟩
theorem has_of (X : K.In h) (G : h.Ns mainGlobals mg) {ps : List Str} (D : Dfn K x st)
    (b : ∀ (kV doc pm : Value) (an : Option Addr) (cd ct : Value) (us : List Value), us.length = ps.length → bindArgs (PySem.W.fnOf x x (defArgs st) (defBody st) (defScope st) .none kV doc pm an cd ct) ⟨us, []⟩ = pure (ps.zip us)) : Has K mg x x st ps [] := by
  obtain ⟨f, oc, od, kV, doc, pm, an, cd, ct, osl, a, l, c, k⟩ := D
  exact ⟨f, oc, od, .none, kV, doc, pm, an, cd, ct, osl, [], [], l, c, k, PySem.W.mg_of X G a, .all (b kV doc pm an cd ct), .nil, fun F => .nil⟩
/-- a def with one default, asked with all its arguments -/
def DfnT (K : PySem.W.Frag) (x : Str) (st : Stmt) : Prop := ∃ (f : Addr) (oc : Value) (od : Option Addr) (T : Addr) (o : Obj) (u : Value) (n : Nat) (kV doc pm : Value) (an : Option Addr) (cd ct : Value) (osl : Array (Option Value)),
  PySem.W.nsIn K mainGlobals x = some (some (.ref f)) ∧ K.lookup f = some ⟨oc, od, .func (PySem.W.fnOf x x (defArgs st) (defBody st) (defScope st) (.ref T) kV doc pm an cd ct), osl⟩ ∧ PySem.W.codeIn K cd x = true ∧ PySem.W.keepIn K (.ref f) = true ∧ K.lookup T = some o ∧ o.data = .seq [u].toArray n
theorem dfnT_mk {T : Addr} {c2 : Value} {d2 : Option Addr} {u : Value} {n : Nat} {s2 : Array (Option Value)} (a : PySem.W.nsIn K mainGlobals x = some (some (.ref f))) (l : K.lookup f = some ⟨oc, od, .func (PySem.W.fnOf x x (defArgs st) (defBody st) (defScope st) (.ref T) kV doc pm an cd ct), osl⟩) (c : PySem.W.codeIn K cd x = true) (k : PySem.W.keepIn K (.ref f) = true)
    (lT : K.lookup T = some ⟨c2, d2, .seq #[u] n, s2⟩) : DfnT K x st := ⟨f, oc, od, T, _, u, n, kV, doc, pm, an, cd, ct, osl, a, l, c, k, lT, rfl⟩
theorem hasT_of (X : K.In h) (G : h.Ns mainGlobals mg) {ps : List Str} (D : DfnT K x st)
    (b : ∀ (T : Addr) (kV doc pm : Value) (an : Option Addr) (cd ct : Value) (us its : List Value), us.length = ps.length → its.length = 1 →
      ∃ k, bindArgs (PySem.W.fnOf x x (defArgs st) (defBody st) (defScope st) (.ref T) kV doc pm an cd ct) ⟨us, []⟩ = seqItems? (.ref T) >>= k ∧ k (some its.toArray) = pure (ps.zip us)) : Has K mg x x st ps [] := by
  obtain ⟨f, oc, od, T, o, u, n, kV, doc, pm, an, cd, ct, osl, a, l, c, k, lT, oT⟩ := D
  refine ⟨f, oc, od, .ref T, kV, doc, pm, an, cd, ct, osl, [], [], l, c, k, PySem.W.mg_of X G a, fun s us X2 hl => ?_, .nil, fun F => .nil⟩
  rw [List.append_nil] at hl ⊢
  obtain ⟨kk, e1, e2⟩ := b T kV doc pm an cd ct us [u] hl rfl
  refine BindsTo.of_looks fun M => ?_
  rw [e1]
  exact looks_items X2 lT oT (.of_pure e2)
theorem glob_str (X : K.In h) (G : h.Ns mainGlobals mg) {y : Str} {t : Tok} (a : PySem.W.nsIn K mainGlobals x = some (some (.str y t))) : Glob K mg x (.str y) := ⟨.str y, _, PySem.W.mg_of X G a, ⟨t, rfl⟩, fun F => .str y⟩
theorem glob_int (X : K.In h) (G : h.Ns mainGlobals mg) {i : Int} {t : Tok} (a : PySem.W.nsIn K mainGlobals x = some (some (.int i t))) : Glob K mg x (.int i) := ⟨.int i, _, PySem.W.mg_of X G a, ⟨t, rfl⟩, fun F => .int i⟩
theorem glob_texts (X : K.In h) (G : h.Ns mainGlobals mg) {T : Addr} {od : Option Addr} {its : Array Value} {n : Nat} {sl : Array (Option Value)} {ws : List Str} (a : PySem.W.nsIn K mainGlobals x = some (some (.ref T))) (l : K.lookup T = some ⟨.type "tuple", od, .seq its n, sl⟩)
    (v : Vals (ws.map V.str) its.toList) (z : ws.length ≤ sizeLine) : Glob K mg x (.tup (ws.map D.str)) := by
  refine ⟨.ref T, _, PySem.W.mg_of X G a, rfl, fun F => .tup (.inr ⟨_, its, n, l, rfl, rfl, ?_, v⟩) (of_strs ws)⟩
  have := v.length
  rw [List.length_map] at this
  rw [← Array.length_toList, ← this]
  exact z
end
end DL

set_option maxHeartbeats 4000000
namespace K01
open PySem PySem.Spec L2 DL
open PyProof.Rows hiding St
def topS (i : Nat) : Stmt := PySem.Challenge.pw_eithermended_k01_types_and_what_is_none.main.body.getD i (.Pass ⟨0, 0, 0, 0⟩)
def v_LEAVES : DL.D := .tup [(.str "text"), (.str "sign")]
def v_MOST_DEEP : DL.D := .int 30
def v_MOST_LEAF : DL.D := .int 20
def v_MOST_NODES : DL.D := .int 120
def v_PAIR : DL.D := .int 2
def v_PAIRS : DL.D := .tup [(.str "cat"), (.str "or")]
def v_SIGNS : DL.D := .str "\x0a ,-.0123456789:;=abcdefghijklmnopqrstuvwxyz"
def v_TEXT : DL.D := .str "text"
def v_TRIPLE : DL.D := .int 3
def v_WORDS : DL.D := .tup [(.str "text"), (.str "sign"), (.str "cat"), (.str "or"), (.str "star")]
abbrev st_is_tuple : Stmt := topS 3
abbrev N_is_tuple : List Str := ["value", "least", "most"]
theorem sc_is_tuple : FnScope N_is_tuple ["value", "least", "most"] (defScope st_is_tuple) := ⟨rfl, rfl, rfl, by decide +kernel, rfl, by decide +kernel, by decide +kernel⟩
def r_is_tuple : DTS := (dRet (dAndV (dIsi "tuple" (dSlot 0)) (dChain (rInt (fun _ _ => True) fun i j => .bl (decide (i ≤ j))) (rInt (fun _ _ => True) fun i j => .bl (decide (i ≤ j))) (dSlot 1) (dCB rLen (dCons (dSlot 0) dNil)) (dSlot 2))))
abbrev st_is_word : Stmt := topS 4
abbrev N_is_word : List Str := ["value", "words"]
theorem sc_is_word : FnScope N_is_word ["value", "words"] (defScope st_is_word) := ⟨rfl, rfl, rfl, by decide +kernel, rfl, by decide +kernel, by decide +kernel⟩
def r_is_word : DTS := (dRet (dAndV (dIsi "str" (dSlot 0)) (dOp (rInD false) (dSlot 0) (dSlot 1))))
abbrev st_is_text : Stmt := topS 5
abbrev N_is_text : List Str := ["value", "most", "sign"]
theorem sc_is_text : FnScope N_is_text ["value", "most"] (defScope st_is_text) := ⟨rfl, rfl, rfl, by decide +kernel, rfl, by decide +kernel, by decide +kernel⟩
def r_is_text : DTS := (dRet (dAndV (dIsi "str" (dSlot 0)) (dAndV (dOp (rInt (fun _ _ => True) fun i j => .bl (decide (i ≤ j))) (dCB rLen (dCons (dSlot 0) dNil)) (dSlot 1)) (dCB rAllD (dCons (dLc true (dIt (dSlot 0)) (dgName 2) dYes (dOp (rInD false) (dSlot 2) (dC v_SIGNS)) [2]) dNil)))))
abbrev st_is_leaf : Stmt := topS 20
abbrev N_is_leaf : List Str := ["value", "one", "other"]
theorem sc_is_leaf : FnScope N_is_leaf ["value"] (defScope st_is_leaf) := ⟨rfl, rfl, rfl, by decide +kernel, rfl, by decide +kernel, by decide +kernel⟩
def r_is_leaf (sp_is_text : DSp) : DTS := (dSeq (dIfS (dB (dOp (rEqD2 false) (dOp rIxD (dSlot 0) (dC (.int 0))) (dC v_TEXT))) (dRet (dCall sp_is_text [] (dCons (dOp rIxD (dSlot 0) (dC (.int 1))) (dCons (dC v_MOST_LEAF) dNil)))) dNext) (dSeq (dIfS (dOrT (dNotT (dB (dCall sp_is_text [] (dCons (dOp rIxD (dSlot 0) (dC (.int 1))) (dCons (dCB rLen (dCons (dC v_SIGNS) dNil)) dNil))))) (dB (dOp (rEqD2 false) (dOp rIxD (dSlot 0) (dC (.int 1))) (dC (.str ""))))) (dRet (dC (.bl false))) dNext) (dRet (dCB rAllD (dCons (dLc true (dZipS (dOp rIxD (dSlot 0) (dC (.int 1))) (dSl true (dOp rIxD (dSlot 0) (dC (.int 1))) (dPart (dC (.int 1))) dNoPart)) (dgTup 2 (dgCons (dgName 1) (dgCons (dgName 2) dgNil))) dYes (dOp rLtD (dSlot 1) (dSlot 2)) [1, 2]) dNil)))))
abbrev st_is_node : Stmt := topS 21
abbrev N_is_node : List Str := ["value"]
theorem sc_is_node : FnScope N_is_node ["value"] (defScope st_is_node) := ⟨rfl, rfl, rfl, by decide +kernel, rfl, by decide +kernel, by decide +kernel⟩
def r_is_node (sp_is_tuple : DSp) (sp_is_word : DSp) (sp_is_leaf : DSp) : DTS := (dSeq (dIfS (dOrT (dNotT (dB (dCall sp_is_tuple [] (dCons (dSlot 0) (dCons (dC v_PAIR) (dCons (dC v_TRIPLE) dNil)))))) (dNotT (dB (dCall sp_is_word [] (dCons (dOp rIxD (dSlot 0) (dC (.int 0))) (dCons (dC v_WORDS) dNil)))))) (dRet (dC (.bl false))) dNext) (dSeq (dIfS (dB (dOp (rEqD2 true) (dCB rLen (dCons (dSlot 0) dNil)) (dIf (dB (dOp (rInD false) (dOp rIxD (dSlot 0) (dC (.int 0))) (dC v_PAIRS))) (dC v_TRIPLE) (dC v_PAIR)))) (dRet (dC (.bl false))) dNext) (dRet (dOrV (dOp (rInD true) (dOp rIxD (dSlot 0) (dC (.int 0))) (dC v_LEAVES)) (dCall sp_is_leaf [] (dCons (dSlot 0) dNil))))))
abbrev st_parts_of : Stmt := topS 22
abbrev N_parts_of : List Str := ["term"]
theorem sc_parts_of : FnScope N_parts_of ["term"] (defScope st_parts_of) := ⟨rfl, rfl, rfl, by decide +kernel, rfl, by decide +kernel, by decide +kernel⟩
def r_parts_of : DTS := (dRet (dIf (dB (dOp (rInD false) (dOp rIxD (dSlot 0) (dC (.int 0))) (dC v_LEAVES))) (dTup dNil) (dSl true (dSlot 0) (dPart (dC (.int 1))) dNoPart)))
abbrev st_is_type : Stmt := topS 23
abbrev N_is_type : List Str := ["value", "waiting", "nodes", "node", "deep", "part"]
theorem sc_is_type : FnScope N_is_type ["value"] (defScope st_is_type) := ⟨rfl, rfl, rfl, by decide +kernel, rfl, by decide +kernel, by decide +kernel⟩
def r_is_type (sp_is_node : DSp) (sp_parts_of : DSp) : DTS := (dSeq (dPar 1 2 (dCons (dLst false (dCons (dTup (dCons (dSlot 0) (dCons (dC (.int 1)) dNil))) dNil)) (dCons (dC (.int 0)) dNil))) (dSeq (dWhile (dB (dOp (rEqD2 true) (dSlot 1) (dLst true dNil))) (dSeq (dAsg (dPop (dSlot 1)) (dgTup 2 (dgCons (dgName 3) (dgCons (dgName 4) dgNil)))) (dSeq (dAsg (dOp (rAddD true) (dSlot 2) (dC (.int 1))) (dgName 2)) (dSeq (dIfS (dOrT (dB (dOp (rInt (fun _ _ => True) fun i j => .bl (decide (j < i))) (dSlot 2) (dC v_MOST_NODES))) (dOrT (dB (dOp (rInt (fun _ _ => True) fun i j => .bl (decide (j < i))) (dSlot 4) (dC v_MOST_DEEP))) (dNotT (dB (dCall sp_is_node [] (dCons (dSlot 3) dNil)))))) (dRet (dC (.bl false))) dNext) (dDrop (dExtend (dSlot 1) (dLc true (dIt (dCall sp_parts_of [] (dCons (dSlot 3) dNil))) (dgName 5) dYes (dTup (dCons (dSlot 5) (dCons (dOp (rAddD true) (dSlot 4) (dC (.int 1))) dNil))) [5]))))))) (dRet (dC (.bl true)))))
abbrev st__law_pot : Stmt := topS 25
abbrev N__law_pot : List Str := ["script", "place", "cell", "own", "small"]
theorem sc__law_pot : FnScope N__law_pot ["script", "place"] (defScope st__law_pot) := ⟨rfl, rfl, rfl, by decide +kernel, rfl, by decide +kernel, by decide +kernel⟩
def r__law_pot : DTS := (dSeq (dAsg (dIf (dB (dOp rLtD (dSlot 1) (dCB rLen (dCons (dSlot 0) dNil)))) (dOp rIxD (dSlot 0) (dSlot 1)) (dOp (rAddD true) (dOp (rAddD true) (dOp (rInt (fun _ j => 0 < j) fun i j => .int (i % j)) (dCB rSumD (dCons (dSl true (dSlot 0) dNoPart (dPart (dC (.int 1)))) dNil)) (dC (.int 1000003))) (dOp (rMulD true) (dC (.int 7038)) (dSlot 1))) (dC (.int 3064)))) (dgName 2)) (dSeq (dAsg (dOp (rMulD true) (dOp (rInt (fun _ j => 0 < j) fun i j => .int (i % j)) (dCB rIntD (dCons (dCB rAbsD (dCons (dSlot 2) dNil)) dNil)) (dOp rPowD (dOp rPowD (dC (.int 10)) (dC (.int 60))) (dC (.int 5)))) (dCB rIntD (dCons (dOp (rInt (fun _ _ => True) fun i j => .bl (decide (j ≤ i))) (dCB rAbsD (dCons (dSlot 2) dNil)) (dOp rPowD (dC (.int 10)) (dC (.int 18)))) dNil))) (dgName 3)) (dSeq (dAsg (dOp (rInt (fun _ j => 0 < j) fun i j => .int (i % j)) (dCB rIntD (dCons (dSlot 2) dNil)) (dC (.int 2305843009213693951))) (dgName 4)) (dRet (dLst false (dCons (dSlot 3) (dCons (dOp (rInt (fun _ j => 0 < j) fun i j => .int (i % j)) (dCB rIntD (dCons (dOp (rAddD true) (dOp (rAddD true) (dOp (rMulD true) (dSlot 4) (dC (.int 77419))) (dOp (rMulD true) (dOp (rMulD true) (dC (.int 8652)) (dSlot 1)) (dSlot 1))) (dC (.int 108))) dNil)) (dC (.int 2305843009213693921))) (dCons (dC (.int 0)) dNil))))))))
abbrev st__law_take : Stmt := topS 26
abbrev N__law_take : List Str := ["pot", "upto", "prime", "blend", "digit"]
theorem sc__law_take : FnScope N__law_take ["pot", "upto"] (defScope st__law_take) := ⟨rfl, rfl, rfl, by decide +kernel, rfl, by decide +kernel, by decide +kernel⟩
def r__law_take : DTS := (dSeq (dIfS (dB (dOp (rInt (fun _ _ => True) fun i j => .bl (decide (j < i))) (dOp rIxD (dSlot 0) (dC (.int 0))) (dC (.int 0)))) (dSeq (dAsg (dOp (rInt (fun _ j => 0 < j) fun i j => .int (i % j)) (dCB rIntD (dCons (dOp rIxD (dSlot 0) (dC (.int 0))) dNil)) (dSlot 1)) (dgName 4)) (dSeq (dAsg (dOp (rInt (fun _ j => 0 < j ∧ j.natAbs < 2 ^ 64) fun i j => .int (i / j)) (dOp rIxD (dSlot 0) (dC (.int 0))) (dSlot 1)) (dgSub (dSlot 0) (dC (.int 0)) rSetD)) (dRet (dSlot 4)))) dNext) (dSeq (dAsg (dOp (rAddD true) (dOp rIxD (dSlot 0) (dC (.int 2))) (dC (.int 1))) (dgSub (dSlot 0) (dC (.int 2)) rSetD)) (dSeq (dAsg (dOp rIxD (dLst true (dCons (dC (.int 2147483647)) (dCons (dC (.int 2147483629)) (dCons (dC (.int 2147483587)) (dCons (dC (.int 2147483579)) (dCons (dC (.int 2147483563)) dNil)))))) (dOp (rInt (fun _ j => 0 < j) fun i j => .int (i % j)) (dCB rIntD (dCons (dOp rIxD (dSlot 0) (dC (.int 2))) dNil)) (dC (.int 5)))) (dgName 2)) (dSeq (dAsg (dOp (rInt (fun _ j => 0 < j) fun i j => .int (i % j)) (dCB rIntD (dCons (dOp rPowD (dCB rIntD (dCons (dOp (rAddD true) (dOp (rAddD true) (dOp rIxD (dSlot 0) (dC (.int 1))) (dOp (rMulD true) (dOp (rMulD true) (dC (.int 98244)) (dOp rIxD (dSlot 0) (dC (.int 2)))) (dOp rIxD (dSlot 0) (dC (.int 2))))) (dC (.int 50))) dNil)) (dC (.int 3))) dNil)) (dSlot 2)) (dgName 3)) (dSeq (dAsg (dOp (rInt (fun _ j => 0 < j) fun i j => .int (i % j)) (dCB rIntD (dCons (dOp (rMulD true) (dSlot 3) (dOp (rAddD true) (dOp (rInt (fun _ j => 0 < j) fun i j => .int (i % j)) (dCB rIntD (dCons (dSlot 3) dNil)) (dC (.int 10009))) (dOp (rMulD true) (dC (.int 104)) (dOp rIxD (dSlot 0) (dC (.int 2)))))) dNil)) (dC (.int 2305843009213693907))) (dgName 3)) (dRet (dOp (rInt (fun _ j => 0 < j) fun i j => .int (i % j)) (dCB rIntD (dCons (dOp (rInt (fun _ j => 0 < j ∧ j.natAbs < 2 ^ 64) fun i j => .int (i / j)) (dSlot 3) (dC (.int 129))) dNil)) (dSlot 1))))))))
abbrev st__law_of : Stmt := topS 27
abbrev N__law_of : List Str := ["pot", "some"]
theorem sc__law_of : FnScope N__law_of ["pot", "some"] (defScope st__law_of) := ⟨rfl, rfl, rfl, by decide +kernel, rfl, by decide +kernel, by decide +kernel⟩
def r__law_of (sp__law_take : DSp) : DTS := (dRet (dOp rIxD (dSlot 1) (dCall sp__law_take [] (dCons (dSlot 0) (dCons (dCB rLen (dCons (dSlot 1) dNil)) dNil)))))
abbrev st__law_cells : Stmt := topS 28
abbrev N__law_cells : List Str := ["script", "limit"]
theorem sc__law_cells : FnScope N__law_cells ["script", "limit"] (defScope st__law_cells) := ⟨rfl, rfl, rfl, by decide +kernel, rfl, by decide +kernel, by decide +kernel⟩
def r__law_cells : DTS := (dRet (dListRg true (dCB rMax2D (dCons (dC (.int 1)) (dCons (dCB rMin2D (dCons (dSlot 1) (dCons (dCB rLen (dCons (dSlot 0) dNil)) dNil))) dNil)))))
abbrev st__law_some : Stmt := topS 29
abbrev N__law_some : List Str := ["pot", "pool", "many", "lap", "rests", "found"]
theorem sc__law_some : FnScope N__law_some ["pot", "pool", "many"] (defScope st__law_some) := ⟨rfl, rfl, rfl, by decide +kernel, rfl, by decide +kernel, by decide +kernel⟩
def r__law_some (sp__law_take : DSp) : DTS := (dSeq (dPar 4 5 (dCons (dCB (rListD false) (dCons (dSlot 1) dNil)) (dCons (dLst false dNil) dNil))) (dSeq (dFor (dRange1 (dSlot 2)) (dgName 3) (dDrop (dAppend (dSlot 5) (dPopAt (dSlot 4) (dCall sp__law_take [] (dCons (dSlot 0) (dCons (dCB rLen (dCons (dSlot 4) dNil)) dNil))))))) (dRet (dHold (dSlot 5)))))
abbrev st__law_odd : Stmt := topS 30
abbrev N__law_odd : List Str := ["pot", "some"]
theorem sc__law_odd : FnScope N__law_odd ["pot"] (defScope st__law_odd) := ⟨rfl, rfl, rfl, by decide +kernel, rfl, by decide +kernel, by decide +kernel⟩
def r__law_odd (sp__law_of : DSp) : DTS := (dSeq (dAsg (dLst true (dCons (dC .non) (dCons (dC (.bl true)) (dCons (dC (.bl false)) (dCons (dC (.int 0)) (dCons (dC (.int 1)) (dCons (dNeg (dC (.int 1))) (dCons (dC (.int 2)) (dCons (dC (.int 44)) (dCons (dC (.str "")) (dCons (dC (.str "a")) (dCons (dC (.str "A")) (dCons (dC (.str "text")) (dCons (dC (.str "copy")) (dCons (dTup dNil) (dCons (dLst true dNil) (dCons (dTup (dCons (dC (.int 0)) dNil)) (dCons (dTup (dCons (dTup dNil) dNil)) (dCons (dLst true (dCons (dC (.int 0)) dNil)) (dCons (dTup (dCons (dC (.str "a")) dNil)) dNil)))))))))))))))))))) (dgName 1)) (dSeq (dAsg (dOp (rAddD true) (dSlot 1) (dLst true (dCons (dTup (dCons (dC (.str "text")) (dCons (dC (.str "a")) dNil))) (dCons (dTup (dCons (dC (.str "copy")) (dCons (dTup (dCons (dC (.str "text")) (dCons (dC (.str "a")) dNil))) dNil))) (dCons (dTup (dCons (dC .non) dNil)) (dCons (dLst true (dCons (dC (.str "a")) dNil)) (dCons (dOp (rMulD true) (dC (.str "a")) (dC (.int 401))) (dCons (dC (.str "/")) (dCons (dTup (dCons (dC (.str "none")) dNil)) dNil))))))))) (dgName 1)) (dRet (dCall sp__law_of [] (dCons (dSlot 0) (dCons (dSlot 1) dNil))))))
abbrev st__law_bent : Stmt := topS 31
abbrev N__law_bent : List Str := ["pot", "value", "at", "some"]
theorem sc__law_bent : FnScope N__law_bent ["pot", "value"] (defScope st__law_bent) := ⟨rfl, rfl, rfl, by decide +kernel, rfl, by decide +kernel, by decide +kernel⟩
def r__law_bent (sp__law_take : DSp) (sp__law_bent : DSp) (sp__law_of : DSp) (sp__law_odd : DSp) : DTS := (dSeq (dIfS (dAndT (dB (dIsi "tuple" (dSlot 1))) (dAndT (dB (dOp (rEqD2 true) (dSlot 1) (dTup dNil))) (dB (dOp (rInt (fun _ _ => True) fun i j => .bl (decide (j < i))) (dCall sp__law_take [] (dCons (dSlot 0) (dCons (dC (.int 5)) dNil))) (dC (.int 0)))))) (dSeq (dAsg (dCall sp__law_take [] (dCons (dSlot 0) (dCons (dCB rLen (dCons (dSlot 1) dNil)) dNil))) (dgName 2)) (dRet (dOp (rAddD true) (dOp (rAddD true) (dSl true (dSlot 1) dNoPart (dPart (dSlot 2))) (dTup (dCons (dCall sp__law_bent [] (dCons (dSlot 0) (dCons (dOp rIxD (dSlot 1) (dSlot 2)) dNil))) dNil))) (dSl true (dSlot 1) (dPart (dOp (rAddD true) (dSlot 2) (dC (.int 1)))) dNoPart)))) dNext) (dSeq (dIfS (dB (dIsi "tuple" (dSlot 1))) (dRet (dCall sp__law_of [] (dCons (dSlot 0) (dCons (dLst true (dCons (dCB (rListD true) (dCons (dSlot 1) dNil)) (dCons (dSl true (dSlot 1) (dPart (dC (.int 1))) dNoPart) (dCons (dSl true (dSlot 1) dNoPart (dPart (dNeg (dC (.int 1))))) (dCons (dOp (rAddD true) (dSlot 1) (dSl true (dSlot 1) (dPart (dNeg (dC (.int 1)))) dNoPart)) (dCons (dRevS true (dSlot 1)) (dCons (dTup dNil) (dCons (dC .non) dNil)))))))) dNil)))) dNext) (dSeq (dIfS (dB (dIsi "bool" (dSlot 1))) (dRet (dCall sp__law_of [] (dCons (dSlot 0) (dCons (dLst true (dCons (dNotV (dSlot 1)) (dCons (dCB rIntD (dCons (dSlot 1) dNil)) (dCons (dC .non) dNil)))) dNil)))) dNext) (dSeq (dIfS (dB (dIsi "int" (dSlot 1))) (dRet (dCall sp__law_of [] (dCons (dSlot 0) (dCons (dLst true (dCons (dOp (rAddD true) (dSlot 1) (dC (.int 1))) (dCons (dOp (rInt (fun _ _ => True) fun i j => .int (i - j)) (dSlot 1) (dC (.int 1))) (dCons (dNeg (dSlot 1)) (dCons (dCB rStrD (dCons (dSlot 1) dNil)) (dCons (dC .non) (dCons (dOp (rEqD2 false) (dSlot 1) (dC (.int 1))) (dCons (dTup (dCons (dSlot 1) dNil)) dNil)))))))) dNil)))) dNext) (dSeq (dIfS (dB (dIsi "str" (dSlot 1))) (dSeq (dAsg (dLst true (dCons (dOp (rAddD true) (dSlot 1) (dC (.str "a"))) (dCons (dSl true (dSlot 1) dNoPart (dPart (dNeg (dC (.int 1))))) (dCons (dUpper (dSlot 1)) (dCons (dLst true (dCons (dSlot 1) dNil)) (dCons (dC (.str "a")) (dCons (dC .non) (dCons (dC (.int 0)) (dCons (dC (.str "")) (dCons (dOp (rAddD true) (dC (.str "b")) (dSlot 1)) (dCons (dOp (rAddD true) (dSlot 1) (dC (.str "/"))) dNil))))))))))) (dgName 3)) (dRet (dCall sp__law_of [] (dCons (dSlot 0) (dCons (dSlot 3) dNil))))) dNext) (dRet (dCall sp__law_odd [] (dCons (dSlot 0) dNil))))))))
abbrev st__law_signs : Stmt := topS 32
abbrev N__law_signs : List Str := []
theorem sc__law_signs : FnScope N__law_signs [] (defScope st__law_signs) := ⟨rfl, rfl, rfl, by decide +kernel, rfl, by decide +kernel, by decide +kernel⟩
def r__law_signs : DTS := (dRet (dC (.str "\x0a ,-.0123456789:;=abcdefghijklmnopqrstuvwxyz")))
abbrev st__law_few : Stmt := topS 33
abbrev N__law_few : List Str := ["pot"]
theorem sc__law_few : FnScope N__law_few ["pot"] (defScope st__law_few) := ⟨rfl, rfl, rfl, by decide +kernel, rfl, by decide +kernel, by decide +kernel⟩
def r__law_few (sp__law_some : DSp) (sp__law_of : DSp) (sp__law_signs : DSp) : DTS := (dRet (dJoin (dC (.str "")) (dCB (rSortD true) (dCons (dCall sp__law_some [] (dCons (dSlot 0) (dCons (dCB (rListS true) (dCons (dCall sp__law_signs [] dNil) dNil)) (dCons (dCall sp__law_of [] (dCons (dSlot 0) (dCons (dLst true (dCons (dC (.int 2)) (dCons (dC (.int 2)) (dCons (dC (.int 3)) dNil)))) dNil))) dNil)))) dNil))))
abbrev st__law_leaf : Stmt := topS 34
abbrev N__law_leaf : List Str := ["pot", "signs", "lap"]
theorem sc__law_leaf : FnScope N__law_leaf ["pot", "signs"] (defScope st__law_leaf) := ⟨rfl, rfl, rfl, by decide +kernel, rfl, by decide +kernel, by decide +kernel⟩
def r__law_leaf (sp__law_take : DSp) (sp__law_of : DSp) : DTS := (dSeq (dIfS (dB (dOp (rEqD2 false) (dCall sp__law_take [] (dCons (dSlot 0) (dCons (dC (.int 3)) dNil))) (dC (.int 0)))) (dRet (dTup (dCons (dC (.str "sign")) (dCons (dJoin (dC (.str "")) (dSortSet true (dLc true (dRange1 (dOp (rAddD true) (dC (.int 1)) (dCall sp__law_take [] (dCons (dSlot 0) (dCons (dC (.int 3)) dNil))))) (dgName 2) dYes (dCall sp__law_of [] (dCons (dSlot 0) (dCons (dSlot 1) dNil))) [2]))) dNil)))) dNext) (dRet (dTup (dCons (dC (.str "text")) (dCons (dJoin (dC (.str "")) (dLc true (dRange1 (dCall sp__law_of [] (dCons (dSlot 0) (dCons (dLst true (dCons (dC (.int 0)) (dCons (dC (.int 1)) (dCons (dC (.int 1)) (dCons (dC (.int 1)) (dCons (dC (.int 2)) (dCons (dC (.int 3)) dNil))))))) dNil)))) (dgName 2) dYes (dCall sp__law_of [] (dCons (dSlot 0) (dCons (dSlot 1) dNil))) [2])) dNil)))))
abbrev st__law_type_drawn : Stmt := topS 35
abbrev N__law_type_drawn : List Str := ["pot", "signs", "deep", "way"]
theorem sc__law_type_drawn : FnScope N__law_type_drawn ["pot", "signs", "deep"] (defScope st__law_type_drawn) := ⟨rfl, rfl, rfl, by decide +kernel, rfl, by decide +kernel, by decide +kernel⟩
def r__law_type_drawn (sp__law_take : DSp) (sp__law_leaf : DSp) (sp__law_type_drawn : DSp) : DTS := (dSeq (dAsg (dCall sp__law_take [] (dCons (dSlot 0) (dCons (dC (.int 7)) dNil))) (dgName 3)) (dSeq (dIfS (dOrT (dB (dOp (rEqD2 false) (dSlot 2) (dC (.int 1)))) (dB (dOp rLtD (dSlot 3) (dC (.int 2))))) (dRet (dCall sp__law_leaf [] (dCons (dSlot 0) (dCons (dSlot 1) dNil)))) dNext) (dSeq (dIfS (dB (dOp (rEqD2 false) (dSlot 3) (dC (.int 2)))) (dRet (dTup (dCons (dC (.str "star")) (dCons (dCall sp__law_type_drawn [] (dCons (dSlot 0) (dCons (dSlot 1) (dCons (dOp (rInt (fun _ _ => True) fun i j => .int (i - j)) (dSlot 2) (dC (.int 1))) dNil)))) dNil)))) dNext) (dRet (dTup (dCons (dOp rIxD (dLst true (dCons (dC (.str "cat")) (dCons (dC (.str "or")) dNil))) (dOp (rInt (fun _ j => 0 < j) fun i j => .int (i % j)) (dSlot 3) (dC (.int 2)))) (dCons (dCall sp__law_type_drawn [] (dCons (dSlot 0) (dCons (dSlot 1) (dCons (dOp (rInt (fun _ _ => True) fun i j => .int (i - j)) (dSlot 2) (dC (.int 1))) dNil)))) (dCons (dCall sp__law_type_drawn [] (dCons (dSlot 0) (dCons (dSlot 1) (dCons (dOp (rInt (fun _ _ => True) fun i j => .int (i - j)) (dSlot 2) (dC (.int 1))) dNil)))) dNil))))))))
abbrev st__law_is_text : Stmt := topS 36
abbrev N__law_is_text : List Str := ["value", "sign"]
theorem sc__law_is_text : FnScope N__law_is_text ["value"] (defScope st__law_is_text) := ⟨rfl, rfl, rfl, by decide +kernel, rfl, by decide +kernel, by decide +kernel⟩
def r__law_is_text (sp__law_signs : DSp) : DTS := (dRet (dAndV (dIsi "str" (dSlot 0)) (dCB rAllD (dCons (dLc true (dIt (dSlot 0)) (dgName 1) dYes (dOp (rInD false) (dSlot 1) (dCall sp__law_signs [] dNil)) [1]) dNil))))
abbrev st__law_is_node : Stmt := topS 37
abbrev N__law_is_node : List Str := ["value", "sizes"]
theorem sc__law_is_node : FnScope N__law_is_node ["value"] (defScope st__law_is_node) := ⟨rfl, rfl, rfl, by decide +kernel, rfl, by decide +kernel, by decide +kernel⟩
def r__law_is_node (sp__law_is_text : DSp) : DTS := (dSeq (dIfS (dOrT (dNotT (dB (dIsi "tuple" (dSlot 0)))) (dOrT (dB (dOp rLtD (dCB rLen (dCons (dSlot 0) dNil)) (dC (.int 2)))) (dNotT (dB (dIsi "str" (dOp rIxD (dSlot 0) (dC (.int 0)))))))) (dRet (dC (.bl false))) dNext) (dSeq (dAsg (dDictC [("text", 2), ("sign", 2), ("star", 2), ("cat", 3), ("or", 3)]) (dgName 1)) (dSeq (dIfS (dOrT (dB (dOp (rInDk true) (dOp rIxD (dSlot 0) (dC (.int 0))) (dSlot 1))) (dB (dOp (rEqD2 true) (dCB rLen (dCons (dSlot 0) dNil)) (dOp rGetDk (dSlot 1) (dOp rIxD (dSlot 0) (dC (.int 0))))))) (dRet (dC (.bl false))) dNext) (dSeq (dIfS (dB (dOp (rEqD2 false) (dOp rIxD (dSlot 0) (dC (.int 0))) (dC (.str "text")))) (dRet (dAndV (dCall sp__law_is_text [] (dCons (dOp rIxD (dSlot 0) (dC (.int 1))) dNil)) (dOp (rInt (fun _ _ => True) fun i j => .bl (decide (i ≤ j))) (dCB rLen (dCons (dOp rIxD (dSlot 0) (dC (.int 1))) dNil)) (dC (.int 20))))) dNext) (dSeq (dIfS (dB (dOp (rEqD2 false) (dOp rIxD (dSlot 0) (dC (.int 0))) (dC (.str "sign")))) (dRet (dAndV (dCall sp__law_is_text [] (dCons (dOp rIxD (dSlot 0) (dC (.int 1))) dNil)) (dAndV (dOp (rEqD2 true) (dOp rIxD (dSlot 0) (dC (.int 1))) (dC (.str ""))) (dOp (rEqD2 false) (dJoin (dC (.str "")) (dSortSet true (dOp rIxD (dSlot 0) (dC (.int 1))))) (dOp rIxD (dSlot 0) (dC (.int 1))))))) dNext) (dRet (dC (.bl true))))))))
abbrev st__law_is_type : Stmt := topS 38
abbrev N__law_is_type : List Str := ["value", "deep", "part"]
theorem sc__law_is_type : FnScope N__law_is_type ["value", "deep"] (defScope st__law_is_type) := ⟨rfl, rfl, rfl, by decide +kernel, rfl, by decide +kernel, by decide +kernel⟩
def r__law_is_type (sp__law_is_node : DSp) (sp__law_is_type : DSp) : DTS := (dSeq (dIfS (dOrT (dB (dOp (rEqD2 false) (dSlot 1) (dC (.int 0)))) (dNotT (dB (dCall sp__law_is_node [] (dCons (dSlot 0) dNil))))) (dRet (dC (.int 1000))) dNext) (dSeq (dIfS (dB (dOp (rInD false) (dOp rIxD (dSlot 0) (dC (.int 0))) (dTup (dCons (dC (.str "text")) (dCons (dC (.str "sign")) dNil))))) (dRet (dC (.int 1))) dNext) (dRet (dOp (rAddD true) (dC (.int 1)) (dCB rSumD (dCons (dLc true (dIt (dSl true (dSlot 0) (dPart (dC (.int 1))) dNoPart)) (dgName 2) dYes (dCall sp__law_is_type [] (dCons (dSlot 2) (dCons (dOp (rInt (fun _ _ => True) fun i j => .int (i - j)) (dSlot 1) (dC (.int 1))) dNil))) [2]) dNil))))))
abbrev st__law_row : Stmt := topS 39
abbrev N__law_row : List Str := ["many", "leaf", "rows", "later", "one", "other"]
theorem sc__law_row : FnScope N__law_row ["many", "leaf"] (defScope st__law_row) := ⟨rfl, rfl, rfl, by decide +kernel, rfl, by decide +kernel, by decide +kernel⟩
def r__law_row : DTS := (dSeq (dAsg (dOp (rMulD true) (dLst true (dCons (dSlot 1) dNil)) (dSlot 0)) (dgName 2)) (dSeq (dWhile (dB (dOp (rInt (fun _ _ => True) fun i j => .bl (decide (j < i))) (dCB rLen (dCons (dSlot 2) dNil)) (dC (.int 1)))) (dSeq (dAsg (dLc true (dZipL (dEv true ev (dSlot 2)) (dEv true (fun xs => ev xs.tail) (dSlot 2))) (dgTup 2 (dgCons (dgName 4) (dgCons (dgName 5) dgNil))) dYes (dTup (dCons (dC (.str "cat")) (dCons (dSlot 4) (dCons (dSlot 5) dNil)))) [4, 5]) (dgName 3)) (dAsg (dOp (rAddD true) (dSlot 3) (dSl true (dSlot 2) (dPart (dOp (rInt (fun _ _ => True) fun i j => .int (i - j)) (dCB rLen (dCons (dSlot 2) dNil)) (dOp (rInt (fun _ j => 0 < j) fun i j => .int (i % j)) (dCB rLen (dCons (dSlot 2) dNil)) (dC (.int 2))))) dNoPart)) (dgName 2)))) (dRet (dOp rIxD (dSlot 2) (dC (.int 0))))))
abbrev st__law_stars : Stmt := topS 40
abbrev N__law_stars : List Str := ["many", "leaf", "lap"]
theorem sc__law_stars : FnScope N__law_stars ["many", "leaf"] (defScope st__law_stars) := ⟨rfl, rfl, rfl, by decide +kernel, rfl, by decide +kernel, by decide +kernel⟩
def r__law_stars : DTS := (dSeq (dFor (dRange1 (dSlot 0)) (dgName 2) (dAsg (dTup (dCons (dC (.str "star")) (dCons (dSlot 1) dNil))) (dgName 1))) (dRet (dSlot 1)))
abbrev st__law_bounds : Stmt := topS 41
abbrev N__law_bounds : List Str := ["pot", "signs", "leaf", "row", "found"]
theorem sc__law_bounds : FnScope N__law_bounds ["pot", "signs"] (defScope st__law_bounds) := ⟨rfl, rfl, rfl, by decide +kernel, rfl, by decide +kernel, by decide +kernel⟩
def r__law_bounds (sp__law_leaf : DSp) (sp__law_row : DSp) (sp__law_stars : DSp) (sp__law_signs : DSp) : DTS := (dSeq (dAsg (dCall sp__law_leaf [] (dCons (dSlot 0) (dCons (dSlot 1) dNil))) (dgName 2)) (dSeq (dAsg (dCall sp__law_row [] (dCons (dC (.int 60)) (dCons (dSlot 2) dNil))) (dgName 3)) (dSeq (dAsg (dLst true (dCons (dSlot 3) (dCons (dCall sp__law_row [] (dCons (dC (.int 61)) (dCons (dSlot 2) dNil))) (dCons (dTup (dCons (dC (.str "star")) (dCons (dSlot 3) dNil))) (dCons (dTup (dCons (dC (.str "star")) (dCons (dTup (dCons (dC (.str "star")) (dCons (dSlot 3) dNil))) dNil))) dNil))))) (dgName 4)) (dSeq (dAsg (dOp (rAddD true) (dSlot 4) (dLst true (dCons (dCall sp__law_stars [] (dCons (dC (.int 29)) (dCons (dSlot 2) dNil))) (dCons (dCall sp__law_stars [] (dCons (dC (.int 30)) (dCons (dSlot 2) dNil))) (dCons (dCall sp__law_stars [] (dCons (dC (.int 31)) (dCons (dSlot 2) dNil))) (dCons (dTup (dCons (dC (.str "text")) (dCons (dOp (rMulD true) (dOp rIxD (dSlot 1) (dC (.int 0))) (dC (.int 20))) dNil))) dNil)))))) (dgName 4)) (dSeq (dAsg (dOp (rAddD true) (dSlot 4) (dLst true (dCons (dTup (dCons (dC (.str "text")) (dCons (dOp (rMulD true) (dOp rIxD (dSlot 1) (dC (.int 0))) (dC (.int 21))) dNil))) (dCons (dTup (dCons (dC (.str "sign")) (dCons (dCall sp__law_signs [] dNil) dNil))) (dCons (dTup (dCons (dC (.str "sign")) (dCons (dRevS true (dSlot 1)) dNil))) dNil))))) (dgName 4)) (dSeq (dAsg (dOp (rAddD true) (dSlot 4) (dLst true (dCons (dTup (dCons (dC (.str "sign")) (dCons (dOp (rAddD true) (dSlot 1) (dOp rIxD (dSlot 1) (dNeg (dC (.int 1))))) dNil))) (dCons (dTup (dCons (dC (.str "sign")) (dCons (dC (.str "")) dNil))) (dCons (dTup (dCons (dC (.str "text")) (dCons (dC (.str "")) dNil))) (dCons (dTup (dCons (dC (.str "text")) (dCons (dC (.str "A")) dNil))) (dCons (dTup (dCons (dC (.str "sign")) (dCons (dC (.str "A")) dNil))) dNil))))))) (dgName 4)) (dSeq (dAsg (dOp (rAddD true) (dSlot 4) (dLst true (dCons (dTup (dCons (dC (.str "cat")) (dCons (dSlot 2) dNil))) (dCons (dTup (dCons (dC (.str "or")) (dCons (dSlot 2) dNil))) (dCons (dTup (dCons (dC (.str "star")) (dCons (dSlot 2) (dCons (dSlot 2) dNil)))) (dCons (dTup (dCons (dC (.str "cat")) (dCons (dSlot 2) (dCons (dSlot 2) (dCons (dSlot 2) dNil))))) (dCons (dTup (dCons (dC (.str "cat")) dNil)) dNil))))))) (dgName 4)) (dRet (dOp (rAddD true) (dSlot 4) (dLst true (dCons (dTup (dCons (dC (.str "keep")) (dCons (dSlot 2) dNil))) (dCons (dLst true (dCons (dC (.str "text")) (dCons (dC (.str "a")) dNil))) (dCons (dTup (dCons (dC (.str "cat")) (dCons (dSlot 2) (dCons (dC .non) dNil)))) (dCons (dTup (dCons (dC (.str "star")) (dCons (dC (.str "a")) dNil))) dNil))))))))))))))
abbrev st__law_is_right : Stmt := topS 42
abbrev N__law_is_right : List Str := ["value", "before", "due"]
theorem sc__law_is_right : FnScope N__law_is_right ["value"] (defScope st__law_is_right) := ⟨rfl, rfl, rfl, by decide +kernel, rfl, by decide +kernel, by decide +kernel⟩
def r__law_is_right (sp__law_is_type : DSp) (sp_is_type : DSp) : DTS := (dSeq (dPar 1 2 (dCons (dCB rReprD (dCons (dSlot 0) dNil)) (dCons (dOp (rInt (fun _ _ => True) fun i j => .bl (decide (i ≤ j))) (dCall sp__law_is_type [] (dCons (dSlot 0) (dCons (dC (.int 30)) dNil))) (dC (.int 120))) dNil))) (dRet (dAndV (dOp (rEqD2 false) (dCB rReprD (dCons (dCall sp_is_type [] (dCons (dSlot 0) dNil)) dNil)) (dCB rReprD (dCons (dSlot 2) dNil))) (dOp (rEqD2 false) (dCB rReprD (dCons (dSlot 0) dNil)) (dSlot 1)))))
abbrev st__law_right : Stmt := topS 43
abbrev N__law_right : List Str := ["pot", "signs", "term", "due", "lap", "value"]
theorem sc__law_right : FnScope N__law_right ["pot"] (defScope st__law_right) := ⟨rfl, rfl, rfl, by decide +kernel, rfl, by decide +kernel, by decide +kernel⟩
def r__law_right (sp__law_few : DSp) (sp__law_type_drawn : DSp) (sp__law_bounds : DSp) (sp__law_odd : DSp) (sp__law_is_right : DSp) (sp_parts_of : DSp) (sp__law_bent : DSp) : DTS := (dSeq (dAsg (dCall sp__law_few [] (dCons (dSlot 0) dNil)) (dgName 1)) (dSeq (dAsg (dCall sp__law_type_drawn [] (dCons (dSlot 0) (dCons (dSlot 1) (dCons (dC (.int 4)) dNil)))) (dgName 2)) (dSeq (dIfS (dNotT (dB (dCB rAllD (dCons (dLc true (dIt (dOp (rAddD true) (dCall sp__law_bounds [] (dCons (dSlot 0) (dCons (dSlot 1) dNil))) (dLst true (dCons (dSlot 2) (dCons (dCall sp__law_odd [] (dCons (dSlot 0) dNil)) (dCons (dCall sp__law_odd [] (dCons (dSlot 0) dNil)) dNil)))))) (dgName 5) dYes (dCall sp__law_is_right [] (dCons (dSlot 5) dNil)) [5]) dNil)))) (dRet (dC (.bl false))) dNext) (dSeq (dAsg (dIf (dB (dOp (rInD false) (dOp rIxD (dSlot 2) (dC (.int 0))) (dTup (dCons (dC (.str "text")) (dCons (dC (.str "sign")) dNil))))) (dTup dNil) (dSl true (dSlot 2) (dPart (dC (.int 1))) dNoPart)) (dgName 3)) (dSeq (dIfS (dB (dOp (rEqD2 true) (dCB rReprD (dCons (dCall sp_parts_of [] (dCons (dSlot 2) dNil)) dNil)) (dCB rReprD (dCons (dSlot 3) dNil)))) (dRet (dC (.bl false))) dNext) (dRet (dCB rAllD (dCons (dLc true (dRange1 (dC (.int 12))) (dgName 4) dYes (dCall sp__law_is_right [] (dCons (dCall sp__law_bent [] (dCons (dSlot 0) (dCons (dSlot 2) dNil))) dNil)) [4]) dNil))))))))
abbrev st_law : Stmt := topS 44
abbrev N_law : List Str := ["script", "place"]
theorem sc_law : FnScope N_law ["script"] (defScope st_law) := ⟨rfl, rfl, rfl, by decide +kernel, rfl, by decide +kernel, by decide +kernel⟩
def r_law (sp__law_cells : DSp) (sp__law_right : DSp) (sp__law_pot : DSp) : DTS := (dRet (dCB rAllD (dCons (dLc true (dIt (dCall sp__law_cells [] (dCons (dSlot 0) (dCons (dC (.int 3)) dNil)))) (dgName 1) dYes (dCall sp__law_right [] (dCons (dCall sp__law_pot [] (dCons (dSlot 0) (dCons (dSlot 1) dNil))) dNil)) [1]) dNil)))
/-- what the text's top leaves, as the walk asks it -/
structure Txt (K : PySem.W.Frag) (mg : Str → Option Value) : Prop where
  m_abs : mg "abs" = none
  m_all : mg "all" = none
  m_bool : mg "bool" = none
  m_int : mg "int" = none
  m_isinstance : mg "isinstance" = none
  m_len : mg "len" = none
  m_list : mg "list" = none
  m_max : mg "max" = none
  m_min : mg "min" = none
  m_range : mg "range" = none
  m_repr : mg "repr" = none
  m_set : mg "set" = none
  m_sorted : mg "sorted" = none
  m_str : mg "str" = none
  m_sum : mg "sum" = none
  m_tuple : mg "tuple" = none
  m_zip : mg "zip" = none
  g_LEAVES : Glob K mg "LEAVES" v_LEAVES
  g_MOST_DEEP : Glob K mg "MOST_DEEP" v_MOST_DEEP
  g_MOST_LEAF : Glob K mg "MOST_LEAF" v_MOST_LEAF
  g_MOST_NODES : Glob K mg "MOST_NODES" v_MOST_NODES
  g_PAIR : Glob K mg "PAIR" v_PAIR
  g_PAIRS : Glob K mg "PAIRS" v_PAIRS
  g_SIGNS : Glob K mg "SIGNS" v_SIGNS
  g_TEXT : Glob K mg "TEXT" v_TEXT
  g_TRIPLE : Glob K mg "TRIPLE" v_TRIPLE
  g_WORDS : Glob K mg "WORDS" v_WORDS
  h_is_tuple : Has K mg "is_tuple" "is_tuple" st_is_tuple ["value", "least", "most"] []
  h_is_word : Has K mg "is_word" "is_word" st_is_word ["value", "words"] []
  h_is_text : Has K mg "is_text" "is_text" st_is_text ["value", "most"] []
  h_is_leaf : Has K mg "is_leaf" "is_leaf" st_is_leaf ["value"] []
  h_is_node : Has K mg "is_node" "is_node" st_is_node ["value"] []
  h_parts_of : Has K mg "parts_of" "parts_of" st_parts_of ["term"] []
  h_is_type : Has K mg "is_type" "is_type" st_is_type ["value"] []
  h__law_pot : Has K mg "_law_pot" "_law_pot" st__law_pot ["script", "place"] []
  h__law_take : Has K mg "_law_take" "_law_take" st__law_take ["pot", "upto"] []
  h__law_of : Has K mg "_law_of" "_law_of" st__law_of ["pot", "some"] []
  h__law_cells : Has K mg "_law_cells" "_law_cells" st__law_cells ["script", "limit"] []
  h__law_some : Has K mg "_law_some" "_law_some" st__law_some ["pot", "pool", "many"] []
  h__law_odd : Has K mg "_law_odd" "_law_odd" st__law_odd ["pot"] []
  h__law_bent : Has K mg "_law_bent" "_law_bent" st__law_bent ["pot", "value"] []
  h__law_signs : Has K mg "_law_signs" "_law_signs" st__law_signs [] []
  h__law_few : Has K mg "_law_few" "_law_few" st__law_few ["pot"] []
  h__law_leaf : Has K mg "_law_leaf" "_law_leaf" st__law_leaf ["pot", "signs"] []
  h__law_type_drawn : Has K mg "_law_type_drawn" "_law_type_drawn" st__law_type_drawn ["pot", "signs", "deep"] []
  h__law_is_text : Has K mg "_law_is_text" "_law_is_text" st__law_is_text ["value"] []
  h__law_is_node : Has K mg "_law_is_node" "_law_is_node" st__law_is_node ["value"] []
  h__law_is_type : Has K mg "_law_is_type" "_law_is_type" st__law_is_type ["value", "deep"] []
  h__law_row : Has K mg "_law_row" "_law_row" st__law_row ["many", "leaf"] []
  h__law_stars : Has K mg "_law_stars" "_law_stars" st__law_stars ["many", "leaf"] []
  h__law_bounds : Has K mg "_law_bounds" "_law_bounds" st__law_bounds ["pot", "signs"] []
  h__law_is_right : Has K mg "_law_is_right" "_law_is_right" st__law_is_right ["value"] []
  h__law_right : Has K mg "_law_right" "_law_right" st__law_right ["pot"] []
section
variable {P : Program} {w : World} {K : PySem.W.Frag} {mg : Str → Option Value} {base : Heap}
theorem c_is_tuple {k : Nat} (T : Txt K mg) {sp : DSp} (read : ∀ ds M Q, sp ds M Q → ds.length = 3 ∧ r_is_tuple { nx := fun _ M' => Q .non M', rt := Q } (dstart N_is_tuple ds) M) : Cal P w K mg base (k + 1) "is_tuple" [] sp :=
  dcal T.h_is_tuple sc_is_tuple (t := r_is_tuple) (fun f cdv A outer s H E hr gu =>
    (dss_one (ds_ret (de_and (de_isi T.m_isinstance T.m_tuple (de_v 0)) (de_one (de_chain od_le od_le (de_v 1) (de_b cd_len T.m_len (da_cons (de_v 0) da_nil)) (de_v 2))))))) read
theorem c_is_word {k : Nat} (T : Txt K mg) {sp : DSp} (read : ∀ ds M Q, sp ds M Q → ds.length = 2 ∧ r_is_word { nx := fun _ M' => Q .non M', rt := Q } (dstart N_is_word ds) M) : Cal P w K mg base (k + 1) "is_word" [] sp :=
  dcal T.h_is_word sc_is_word (t := r_is_word) (fun f cdv A outer s H E hr gu =>
    (dss_one (ds_ret (de_and (de_isi T.m_isinstance T.m_str (de_v 0)) (de_one (de_cmp od_in (de_v 0) (de_v 1) (by with_unfolding_all rfl))))))) read
theorem c_is_text {k : Nat} (T : Txt K mg) {sp : DSp} (read : ∀ ds M Q, sp ds M Q → ds.length = 2 ∧ r_is_text { nx := fun _ M' => Q .non M', rt := Q } (dstart N_is_text ds) M) : Cal P w K mg base (k + 1) "is_text" [] sp :=
  dcal T.h_is_text sc_is_text (t := r_is_text) (fun f cdv A outer s H E hr gu =>
    (dss_one (ds_ret (de_and (de_isi T.m_isinstance T.m_str (de_v 0)) (de_and (de_cmp od_le (de_b cd_len T.m_len (da_cons (de_v 0) da_nil)) (de_v 1) (nomark _)) (de_one (de_b (cd_all rfl) T.m_all (da_cons (de_lc true (own := [("sign", 2)]) (g := (dgName 2)) (tt := dYes) (te := (dOp (rInD false) (dSlot 2) (dC v_SIGNS))) rfl sc_is_text.nd (di_it (de_v 0)) (blkOk_by (own := [("sign", 2)]) (N := N_is_text) (sc := defScope st_is_text) (by decide +kernel)) (by decide) (fun _ _ _ _ _ => (dg_name (i := 2) sc_is_text.nd rfl (by first | exact Or.inl rfl | exact Or.inr rfl))) (fun _ _ _ _ _ => dts_nil) (fun _ _ _ _ _ => (de_cmp od_in (de_v 2) (de_g T.g_SIGNS) (by with_unfolding_all rfl)))) da_nil)))))))) read
theorem c_is_leaf {k : Nat} (T : Txt K mg) {sp_is_text : DSp} (c_is_text : Cal P w K mg base k "is_text" [] sp_is_text) {sp : DSp} (read : ∀ ds M Q, sp ds M Q → ds.length = 1 ∧ r_is_leaf sp_is_text { nx := fun _ M' => Q .non M', rt := Q } (dstart N_is_leaf ds) M) : Cal P w K mg base (k + 1) "is_leaf" [] sp :=
  dcal T.h_is_leaf sc_is_leaf (t := r_is_leaf sp_is_text) (fun f cdv A outer s H E hr gu =>
    (dss_cons (ds_if (dt_cmp (od_eq hr) (de_ix (de_v 0) de_int) (de_g T.g_TEXT) (nomark _)) (dss_one (ds_ret (de_call c_is_text hr gu (da_cons (de_ix (de_v 0) de_int) (da_cons (de_g T.g_MOST_LEAF) da_nil))))) dss_nil)
    (dss_cons (ds_if (dt_w (dw_or (dt_not (dt_val (de_call c_is_text hr gu (da_cons (de_ix (de_v 0) de_int) (da_cons (de_b cd_len T.m_len (da_cons (de_g T.g_SIGNS) da_nil)) da_nil))))) (dw_or1 (dt_cmp (od_eq hr) (de_ix (de_v 0) de_int) de_str (nomark _))))) (dss_one (ds_ret de_bl)) dss_nil)
    (dss_one (ds_ret (de_b (cd_all rfl) T.m_all (da_cons (de_lc true (own := [("one", 1), ("other", 2)]) (g := (dgTup 2 (dgCons (dgName 1) (dgCons (dgName 2) dgNil)))) (tt := dYes) (te := (dOp rLtD (dSlot 1) (dSlot 2))) rfl sc_is_leaf.nd (di_zipS T.m_zip (de_ix (de_v 0) de_int) (de_slice true (de_ix (de_v 0) de_int) (do_some de_int) do_none)) (blkOk_by (own := [("one", 1), ("other", 2)]) (N := N_is_leaf) (sc := defScope st_is_leaf) (by decide +kernel)) (by decide) (fun _ _ _ _ _ => (dg_tup rfl (dgs_cons (dg_name (i := 1) sc_is_leaf.nd rfl (by first | exact Or.inl rfl | exact Or.inr rfl)) (dgs_cons (dg_name (i := 2) sc_is_leaf.nd rfl (by first | exact Or.inl rfl | exact Or.inr rfl)) dgs_nil)))) (fun _ _ _ _ _ => dts_nil) (fun _ _ _ _ _ => (de_cmp od_lt (de_v 1) (de_v 2) (nomark _)))) da_nil))))))) read
theorem c_is_node {k : Nat} (T : Txt K mg) {sp_is_tuple : DSp} (c_is_tuple : Cal P w K mg base k "is_tuple" [] sp_is_tuple) {sp_is_word : DSp} (c_is_word : Cal P w K mg base k "is_word" [] sp_is_word) {sp_is_leaf : DSp} (c_is_leaf : Cal P w K mg base k "is_leaf" [] sp_is_leaf) {sp : DSp} (read : ∀ ds M Q, sp ds M Q → ds.length = 1 ∧ r_is_node sp_is_tuple sp_is_word sp_is_leaf { nx := fun _ M' => Q .non M', rt := Q } (dstart N_is_node ds) M) : Cal P w K mg base (k + 1) "is_node" [] sp :=
  dcal T.h_is_node sc_is_node (t := r_is_node sp_is_tuple sp_is_word sp_is_leaf) (fun f cdv A outer s H E hr gu =>
    (dss_cons (ds_if (dt_w (dw_or (dt_not (dt_val (de_call c_is_tuple hr gu (da_cons (de_v 0) (da_cons (de_g T.g_PAIR) (da_cons (de_g T.g_TRIPLE) da_nil)))))) (dw_or1 (dt_not (dt_val (de_call c_is_word hr gu (da_cons (de_ix (de_v 0) de_int) (da_cons (de_g T.g_WORDS) da_nil)))))))) (dss_one (ds_ret de_bl)) dss_nil)
    (dss_cons (ds_if (dt_cmp (od_ne hr) (de_b cd_len T.m_len (da_cons (de_v 0) da_nil)) (de_if (dt_cmp od_in (de_ix (de_v 0) de_int) (de_g T.g_PAIRS) (by with_unfolding_all rfl)) (de_g T.g_TRIPLE) (de_g T.g_PAIR)) (nomark _)) (dss_one (ds_ret de_bl)) dss_nil)
    (dss_one (ds_ret (de_or (de_cmp od_notIn (de_ix (de_v 0) de_int) (de_g T.g_LEAVES) (by with_unfolding_all rfl)) (de_one (de_call c_is_leaf hr gu (da_cons (de_v 0) da_nil))))))))) read
theorem c_parts_of {k : Nat} (T : Txt K mg) {sp : DSp} (read : ∀ ds M Q, sp ds M Q → ds.length = 1 ∧ r_parts_of { nx := fun _ M' => Q .non M', rt := Q } (dstart N_parts_of ds) M) : Cal P w K mg base (k + 1) "parts_of" [] sp :=
  dcal T.h_parts_of sc_parts_of (t := r_parts_of) (fun f cdv A outer s H E hr gu =>
    (dss_one (ds_ret (de_if (dt_cmp od_in (de_ix (de_v 0) de_int) (de_g T.g_LEAVES) (by with_unfolding_all rfl)) (de_tup da_nil) (de_slice true (de_v 0) (do_some de_int) do_none))))) read
theorem c_is_type {k : Nat} (T : Txt K mg) {sp_is_node : DSp} (c_is_node : Cal P w K mg base k "is_node" [] sp_is_node) {sp_parts_of : DSp} (c_parts_of : Cal P w K mg base k "parts_of" [] sp_parts_of) {sp : DSp} (read : ∀ ds M Q, sp ds M Q → ds.length = 1 ∧ r_is_type sp_is_node sp_parts_of { nx := fun _ M' => Q .non M', rt := Q } (dstart N_is_type ds) M) : Cal P w K mg base (k + 1) "is_type" [] sp :=
  dcal T.h_is_type sc_is_type (t := r_is_type sp_is_node sp_parts_of) (fun f cdv A outer s H E hr gu =>
    (dss_cons (ds_par (i := 1) (j := 2) rfl sc_is_type.nd rfl rfl (by decide) rfl rfl (da_cons (de_lst false (da_cons (de_tup (da_cons (de_v 0) (da_cons de_int da_nil))) da_nil)) (da_cons de_int da_nil)))
    (dss_cons (ds_while PassesOwn.never (dt_cmp (od_ne hr) (de_v 1) (de_lst true da_nil) (nomark _)) (dss_cons (ds_asg (de_pop (de_v 1)) (dg_tup rfl (dgs_cons (dg_name (i := 3) sc_is_type.nd rfl (by first | exact Or.inl rfl | exact Or.inr rfl)) (dgs_cons (dg_name (i := 4) sc_is_type.nd rfl (by first | exact Or.inl rfl | exact Or.inr rfl)) dgs_nil))))
    (dss_cons (ds_set (i := 2) sc_is_type.nd rfl (by first | exact Or.inl rfl | exact Or.inr rfl) (de_op (od_add true) (de_v 2) de_int))
    (dss_cons (ds_if (dt_w (dw_or (dt_cmp od_gt (de_v 2) (de_g T.g_MOST_NODES) (nomark _)) (dw_or (dt_cmp od_gt (de_v 4) (de_g T.g_MOST_DEEP) (nomark _)) (dw_or1 (dt_not (dt_val (de_call c_is_node hr gu (da_cons (de_v 3) da_nil)))))))) (dss_one (ds_ret de_bl)) dss_nil)
    (dss_one (ds_expr (de_extend (de_v 1) (de_lc true (own := [("part", 5)]) (g := (dgName 5)) (tt := dYes) (te := (dTup (dCons (dSlot 5) (dCons (dOp (rAddD true) (dSlot 4) (dC (.int 1))) dNil)))) rfl sc_is_type.nd (di_it (de_call c_parts_of hr gu (da_cons (de_v 3) da_nil))) (blkOk_by (own := [("part", 5)]) (N := N_is_type) (sc := defScope st_is_type) (by decide +kernel)) (by decide) (fun _ _ _ _ _ => (dg_name (i := 5) sc_is_type.nd rfl (by first | exact Or.inl rfl | exact Or.inr rfl))) (fun _ _ _ _ _ => dts_nil) (fun _ _ _ _ _ => (de_tup (da_cons (de_v 5) (da_cons (de_op (od_add true) (de_v 4) de_int) da_nil))))))))))))
    (dss_one (ds_ret de_bl))))) read
theorem c__law_pot {k : Nat} (T : Txt K mg) {sp : DSp} (read : ∀ ds M Q, sp ds M Q → ds.length = 2 ∧ r__law_pot { nx := fun _ M' => Q .non M', rt := Q } (dstart N__law_pot ds) M) : Cal P w K mg base (k + 1) "_law_pot" [] sp :=
  dcal T.h__law_pot sc__law_pot (t := r__law_pot) (fun f cdv A outer s H E hr gu =>
    (dss_cons (ds_set (i := 2) sc__law_pot.nd rfl (by first | exact Or.inl rfl | exact Or.inr rfl) (de_if (dt_cmp od_lt (de_v 1) (de_b cd_len T.m_len (da_cons (de_v 0) da_nil)) (nomark _)) (de_ix (de_v 0) (de_v 1)) (de_op (od_add true) (de_op (od_add true) (de_op od_mod (de_b (cd_sum rfl) T.m_sum (da_cons (de_slice true (de_v 0) do_none (do_some de_int)) da_nil)) de_int) (de_op (od_mul true) de_int (de_v 1))) de_int)))
    (dss_cons (ds_set (i := 3) sc__law_pot.nd rfl (by first | exact Or.inl rfl | exact Or.inr rfl) (de_op (od_mul true) (de_op od_mod (de_bT cd_int T.m_int (da_cons (de_b cd_abs T.m_abs (da_cons (de_v 2) da_nil)) da_nil)) (de_op od_pows (de_op od_pows de_int de_int) de_int)) (de_bT cd_int T.m_int (da_cons (de_cmp od_ge (de_b cd_abs T.m_abs (da_cons (de_v 2) da_nil)) (de_op od_pows de_int de_int) (nomark _)) da_nil))))
    (dss_cons (ds_set (i := 4) sc__law_pot.nd rfl (by first | exact Or.inl rfl | exact Or.inr rfl) (de_op od_mod (de_bT cd_int T.m_int (da_cons (de_v 2) da_nil)) de_int))
    (dss_one (ds_ret (de_lst false (da_cons (de_v 3) (da_cons (de_op od_mod (de_bT cd_int T.m_int (da_cons (de_op (od_add true) (de_op (od_add true) (de_op (od_mul true) (de_v 4) de_int) (de_op (od_mul true) (de_op (od_mul true) de_int (de_v 1)) (de_v 1))) de_int) da_nil)) de_int) (da_cons de_int da_nil)))))))))) read
theorem c__law_take {k : Nat} (T : Txt K mg) {sp : DSp} (read : ∀ ds M Q, sp ds M Q → ds.length = 2 ∧ r__law_take { nx := fun _ M' => Q .non M', rt := Q } (dstart N__law_take ds) M) : Cal P w K mg base (k + 1) "_law_take" [] sp :=
  dcal T.h__law_take sc__law_take (t := r__law_take) (fun f cdv A outer s H E hr gu =>
    (dss_cons (ds_if (dt_cmp od_gt (de_ix (de_v 0) de_int) de_int (nomark _)) (dss_cons (ds_set (i := 4) sc__law_take.nd rfl (by first | exact Or.inl rfl | exact Or.inr rfl) (de_op od_mod (de_bT cd_int T.m_int (da_cons (de_ix (de_v 0) de_int) da_nil)) (de_v 1)))
    (dss_cons (ds_asg (de_op od_fdiv (de_ix (de_v 0) de_int) (de_v 1)) (dg_sub (de_v 0) de_int set_lstD))
    (dss_one (ds_ret (de_v 4))))) dss_nil)
    (dss_cons (ds_asg (de_op (od_add true) (de_ix (de_v 0) de_int) de_int) (dg_sub (de_v 0) de_int set_lstD))
    (dss_cons (ds_set (i := 2) sc__law_take.nd rfl (by first | exact Or.inl rfl | exact Or.inr rfl) (de_ix (de_lst true (da_cons de_int (da_cons de_int (da_cons de_int (da_cons de_int (da_cons de_int da_nil)))))) (de_op od_mod (de_bT cd_int T.m_int (da_cons (de_ix (de_v 0) de_int) da_nil)) de_int)))
    (dss_cons (ds_set (i := 3) sc__law_take.nd rfl (by first | exact Or.inl rfl | exact Or.inr rfl) (de_op od_mod (de_bT cd_int T.m_int (da_cons (de_op od_pows (de_bT cd_int T.m_int (da_cons (de_op (od_add true) (de_op (od_add true) (de_ix (de_v 0) de_int) (de_op (od_mul true) (de_op (od_mul true) de_int (de_ix (de_v 0) de_int)) (de_ix (de_v 0) de_int))) de_int) da_nil)) de_int) da_nil)) (de_v 2)))
    (dss_cons (ds_set (i := 3) sc__law_take.nd rfl (by first | exact Or.inl rfl | exact Or.inr rfl) (de_op od_mod (de_bT cd_int T.m_int (da_cons (de_op (od_mul true) (de_v 3) (de_op (od_add true) (de_op od_mod (de_bT cd_int T.m_int (da_cons (de_v 3) da_nil)) de_int) (de_op (od_mul true) de_int (de_ix (de_v 0) de_int)))) da_nil)) de_int))
    (dss_one (ds_ret (de_op od_mod (de_bT cd_int T.m_int (da_cons (de_op od_fdiv (de_v 3) de_int) da_nil)) (de_v 1)))))))))) read
theorem c__law_of {k : Nat} (T : Txt K mg) {sp__law_take : DSp} (c__law_take : Cal P w K mg base k "_law_take" [] sp__law_take) {sp : DSp} (read : ∀ ds M Q, sp ds M Q → ds.length = 2 ∧ r__law_of sp__law_take { nx := fun _ M' => Q .non M', rt := Q } (dstart N__law_of ds) M) : Cal P w K mg base (k + 1) "_law_of" [] sp :=
  dcal T.h__law_of sc__law_of (t := r__law_of sp__law_take) (fun f cdv A outer s H E hr gu =>
    (dss_one (ds_ret (de_ix (de_v 1) (de_call c__law_take hr gu (da_cons (de_v 0) (da_cons (de_b cd_len T.m_len (da_cons (de_v 1) da_nil)) da_nil))))))) read
theorem c__law_cells {k : Nat} (T : Txt K mg) {sp : DSp} (read : ∀ ds M Q, sp ds M Q → ds.length = 2 ∧ r__law_cells { nx := fun _ M' => Q .non M', rt := Q } (dstart N__law_cells ds) M) : Cal P w K mg base (k + 1) "_law_cells" [] sp :=
  dcal T.h__law_cells sc__law_cells (t := r__law_cells) (fun f cdv A outer s H E hr gu =>
    (dss_one (ds_ret (de_listRg true T.m_list T.m_range (de_b (cd_max2 rfl) T.m_max (da_cons de_int (da_cons (de_b (cd_min2 rfl) T.m_min (da_cons (de_v 1) (da_cons (de_b cd_len T.m_len (da_cons (de_v 0) da_nil)) da_nil))) da_nil))))))) read
theorem c__law_some {k : Nat} (T : Txt K mg) {sp__law_take : DSp} (c__law_take : Cal P w K mg base k "_law_take" [] sp__law_take) {sp : DSp} (read : ∀ ds M Q, sp ds M Q → ds.length = 3 ∧ r__law_some sp__law_take { nx := fun _ M' => Q .non M', rt := Q } (dstart N__law_some ds) M) : Cal P w K mg base (k + 1) "_law_some" [] sp :=
  dcal T.h__law_some sc__law_some (t := r__law_some sp__law_take) (fun f cdv A outer s H E hr gu =>
    (dss_cons (ds_par (i := 4) (j := 5) rfl sc__law_some.nd rfl rfl (by decide) rfl rfl (da_cons (de_bT (cd_list false) T.m_list (da_cons (de_v 1) da_nil)) (da_cons (de_lst false da_nil) da_nil)))
    (dss_cons (ds_for PassesOwn.never rfl (di_range1 T.m_range (de_v 2)) (dg_name (i := 3) sc__law_some.nd rfl (by first | exact Or.inl rfl | exact Or.inr rfl)) (dss_one (ds_expr (de_append (de_v 5) (de_popAt (de_v 4) (de_call c__law_take hr gu (da_cons (de_v 0) (da_cons (de_b cd_len T.m_len (da_cons (de_v 4) da_nil)) da_nil))))))))
    (dss_one (ds_ret (de_hold (de_v 5))))))) read
theorem c__law_odd {k : Nat} (T : Txt K mg) {sp__law_of : DSp} (c__law_of : Cal P w K mg base k "_law_of" [] sp__law_of) {sp : DSp} (read : ∀ ds M Q, sp ds M Q → ds.length = 1 ∧ r__law_odd sp__law_of { nx := fun _ M' => Q .non M', rt := Q } (dstart N__law_odd ds) M) : Cal P w K mg base (k + 1) "_law_odd" [] sp :=
  dcal T.h__law_odd sc__law_odd (t := r__law_odd sp__law_of) (fun f cdv A outer s H E hr gu =>
    (dss_cons (ds_set (i := 1) sc__law_odd.nd rfl (by first | exact Or.inl rfl | exact Or.inr rfl) (de_lst true (da_cons de_non (da_cons de_bl (da_cons de_bl (da_cons de_int (da_cons de_int (da_cons (de_neg de_int) (da_cons de_int (da_cons de_int (da_cons de_str (da_cons de_str (da_cons de_str (da_cons de_str (da_cons de_str (da_cons (de_tup da_nil) (da_cons (de_lst true da_nil) (da_cons (de_tup (da_cons de_int da_nil)) (da_cons (de_tup (da_cons (de_tup da_nil) da_nil)) (da_cons (de_lst true (da_cons de_int da_nil)) (da_cons (de_tup (da_cons de_str da_nil)) da_nil)))))))))))))))))))))
    (dss_cons (ds_set (i := 1) sc__law_odd.nd rfl (by first | exact Or.inl rfl | exact Or.inr rfl) (de_op (od_add true) (de_v 1) (de_lst true (da_cons (de_tup (da_cons de_str (da_cons de_str da_nil))) (da_cons (de_tup (da_cons de_str (da_cons (de_tup (da_cons de_str (da_cons de_str da_nil))) da_nil))) (da_cons (de_tup (da_cons de_non da_nil)) (da_cons (de_lst true (da_cons de_str da_nil)) (da_cons (de_op (od_mul true) de_str de_int) (da_cons de_str (da_cons (de_tup (da_cons de_str da_nil)) da_nil))))))))))
    (dss_one (ds_ret (de_call c__law_of hr gu (da_cons (de_v 0) (da_cons (de_v 1) da_nil)))))))) read
theorem c__law_bent {k : Nat} (T : Txt K mg) {sp__law_take : DSp} (c__law_take : Cal P w K mg base k "_law_take" [] sp__law_take) {sp__law_bent : DSp} (c__law_bent : Cal P w K mg base k "_law_bent" [] sp__law_bent) {sp__law_of : DSp} (c__law_of : Cal P w K mg base k "_law_of" [] sp__law_of) {sp__law_odd : DSp} (c__law_odd : Cal P w K mg base k "_law_odd" [] sp__law_odd) {sp : DSp} (read : ∀ ds M Q, sp ds M Q → ds.length = 2 ∧ r__law_bent sp__law_take sp__law_bent sp__law_of sp__law_odd { nx := fun _ M' => Q .non M', rt := Q } (dstart N__law_bent ds) M) : Cal P w K mg base (k + 1) "_law_bent" [] sp :=
  dcal T.h__law_bent sc__law_bent (t := r__law_bent sp__law_take sp__law_bent sp__law_of sp__law_odd) (fun f cdv A outer s H E hr gu =>
    (dss_cons (ds_if (dt_w (dw_and (dt_val (de_isi T.m_isinstance T.m_tuple (de_v 1))) (dw_and (dt_cmp (od_ne hr) (de_v 1) (de_tup da_nil) (nomark _)) (dw_and1 (dt_cmp od_gt (de_call c__law_take hr gu (da_cons (de_v 0) (da_cons de_int da_nil))) de_int (nomark _)))))) (dss_cons (ds_set (i := 2) sc__law_bent.nd rfl (by first | exact Or.inl rfl | exact Or.inr rfl) (de_call c__law_take hr gu (da_cons (de_v 0) (da_cons (de_b cd_len T.m_len (da_cons (de_v 1) da_nil)) da_nil))))
    (dss_one (ds_ret (de_op (od_add true) (de_op (od_add true) (de_slice true (de_v 1) do_none (do_some (de_v 2))) (de_tup (da_cons (de_call c__law_bent hr gu (da_cons (de_v 0) (da_cons (de_ix (de_v 1) (de_v 2)) da_nil))) da_nil))) (de_slice true (de_v 1) (do_some (de_op (od_add true) (de_v 2) de_int)) do_none))))) dss_nil)
    (dss_cons (ds_if (dt_val (de_isi T.m_isinstance T.m_tuple (de_v 1))) (dss_one (ds_ret (de_call c__law_of hr gu (da_cons (de_v 0) (da_cons (de_lst true (da_cons (de_bT (cd_list true) T.m_list (da_cons (de_v 1) da_nil)) (da_cons (de_slice true (de_v 1) (do_some de_int) do_none) (da_cons (de_slice true (de_v 1) do_none (do_some (de_neg de_int))) (da_cons (de_op (od_add true) (de_v 1) (de_slice true (de_v 1) (do_some (de_neg de_int)) do_none)) (da_cons (de_revS true (de_v 1)) (da_cons (de_tup da_nil) (da_cons de_non da_nil)))))))) da_nil))))) dss_nil)
    (dss_cons (ds_if (dt_val (de_isi T.m_isinstance T.m_bool (de_v 1))) (dss_one (ds_ret (de_call c__law_of hr gu (da_cons (de_v 0) (da_cons (de_lst true (da_cons (de_not (de_v 1)) (da_cons (de_bT cd_int T.m_int (da_cons (de_v 1) da_nil)) (da_cons de_non da_nil)))) da_nil))))) dss_nil)
    (dss_cons (ds_if (dt_val (de_isi T.m_isinstance T.m_int (de_v 1))) (dss_one (ds_ret (de_call c__law_of hr gu (da_cons (de_v 0) (da_cons (de_lst true (da_cons (de_op (od_add true) (de_v 1) de_int) (da_cons (de_op od_sub (de_v 1) de_int) (da_cons (de_neg (de_v 1)) (da_cons (de_bT cd_str T.m_str (da_cons (de_v 1) da_nil)) (da_cons de_non (da_cons (de_cmp (od_eq hr) (de_v 1) de_int (nomark _)) (da_cons (de_tup (da_cons (de_v 1) da_nil)) da_nil)))))))) da_nil))))) dss_nil)
    (dss_cons (ds_if (dt_val (de_isi T.m_isinstance T.m_str (de_v 1))) (dss_cons (ds_set (i := 3) sc__law_bent.nd rfl (by first | exact Or.inl rfl | exact Or.inr rfl) (de_lst true (da_cons (de_op (od_add true) (de_v 1) de_str) (da_cons (de_slice true (de_v 1) do_none (do_some (de_neg de_int))) (da_cons (de_upper (de_v 1)) (da_cons (de_lst true (da_cons (de_v 1) da_nil)) (da_cons de_str (da_cons de_non (da_cons de_int (da_cons de_str (da_cons (de_op (od_add true) de_str (de_v 1)) (da_cons (de_op (od_add true) (de_v 1) de_str) da_nil))))))))))))
    (dss_one (ds_ret (de_call c__law_of hr gu (da_cons (de_v 0) (da_cons (de_v 3) da_nil)))))) dss_nil)
    (dss_one (ds_ret (de_call c__law_odd hr gu (da_cons (de_v 0) da_nil)))))))))) read
theorem c__law_signs {k : Nat} (T : Txt K mg) {sp : DSp} (read : ∀ ds M Q, sp ds M Q → ds.length = 0 ∧ r__law_signs { nx := fun _ M' => Q .non M', rt := Q } (dstart N__law_signs ds) M) : Cal P w K mg base (k + 1) "_law_signs" [] sp :=
  dcal T.h__law_signs sc__law_signs (t := r__law_signs) (fun f cdv A outer s H E hr gu =>
    (dss_one (ds_ret de_str))) read
theorem c__law_few {k : Nat} (T : Txt K mg) {sp__law_some : DSp} (c__law_some : Cal P w K mg base k "_law_some" [] sp__law_some) {sp__law_of : DSp} (c__law_of : Cal P w K mg base k "_law_of" [] sp__law_of) {sp__law_signs : DSp} (c__law_signs : Cal P w K mg base k "_law_signs" [] sp__law_signs) {sp : DSp} (read : ∀ ds M Q, sp ds M Q → ds.length = 1 ∧ r__law_few sp__law_some sp__law_of sp__law_signs { nx := fun _ M' => Q .non M', rt := Q } (dstart N__law_few ds) M) : Cal P w K mg base (k + 1) "_law_few" [] sp :=
  dcal T.h__law_few sc__law_few (t := r__law_few sp__law_some sp__law_of sp__law_signs) (fun f cdv A outer s H E hr gu =>
    (dss_one (ds_ret (de_join de_str (de_b (cd_sort true) T.m_sorted (da_cons (de_call c__law_some hr gu (da_cons (de_v 0) (da_cons (de_bT (cd_listS true rfl) T.m_list (da_cons (de_call0 c__law_signs hr gu) da_nil)) (da_cons (de_call c__law_of hr gu (da_cons (de_v 0) (da_cons (de_lst true (da_cons de_int (da_cons de_int (da_cons de_int da_nil)))) da_nil))) da_nil)))) da_nil)))))) read
theorem c__law_leaf {k : Nat} (T : Txt K mg) {sp__law_take : DSp} (c__law_take : Cal P w K mg base k "_law_take" [] sp__law_take) {sp__law_of : DSp} (c__law_of : Cal P w K mg base k "_law_of" [] sp__law_of) {sp : DSp} (read : ∀ ds M Q, sp ds M Q → ds.length = 2 ∧ r__law_leaf sp__law_take sp__law_of { nx := fun _ M' => Q .non M', rt := Q } (dstart N__law_leaf ds) M) : Cal P w K mg base (k + 1) "_law_leaf" [] sp :=
  dcal T.h__law_leaf sc__law_leaf (t := r__law_leaf sp__law_take sp__law_of) (fun f cdv A outer s H E hr gu =>
    (dss_cons (ds_if (dt_cmp (od_eq hr) (de_call c__law_take hr gu (da_cons (de_v 0) (da_cons de_int da_nil))) de_int (nomark _)) (dss_one (ds_ret (de_tup (da_cons de_str (da_cons (de_join de_str (de_sortSet true T.m_sorted T.m_set (de_lc true (own := [("lap", 2)]) (g := (dgName 2)) (tt := dYes) (te := (dCall sp__law_of [] (dCons (dSlot 0) (dCons (dSlot 1) dNil)))) rfl sc__law_leaf.nd (di_range1 T.m_range (de_op (od_add true) de_int (de_call c__law_take hr gu (da_cons (de_v 0) (da_cons de_int da_nil))))) (blkOk_by (own := [("lap", 2)]) (N := N__law_leaf) (sc := defScope st__law_leaf) (by decide +kernel)) (by decide) (fun _ _ _ _ _ => (dg_name (i := 2) sc__law_leaf.nd rfl (by first | exact Or.inl rfl | exact Or.inr rfl))) (fun _ _ _ _ _ => dts_nil) (fun _ _ _ _ _ => (de_call c__law_of hr gu (da_cons (de_v 0) (da_cons (de_v 1) da_nil))))))) da_nil))))) dss_nil)
    (dss_one (ds_ret (de_tup (da_cons de_str (da_cons (de_join de_str (de_lc true (own := [("lap", 2)]) (g := (dgName 2)) (tt := dYes) (te := (dCall sp__law_of [] (dCons (dSlot 0) (dCons (dSlot 1) dNil)))) rfl sc__law_leaf.nd (di_range1 T.m_range (de_call c__law_of hr gu (da_cons (de_v 0) (da_cons (de_lst true (da_cons de_int (da_cons de_int (da_cons de_int (da_cons de_int (da_cons de_int (da_cons de_int da_nil))))))) da_nil)))) (blkOk_by (own := [("lap", 2)]) (N := N__law_leaf) (sc := defScope st__law_leaf) (by decide +kernel)) (by decide) (fun _ _ _ _ _ => (dg_name (i := 2) sc__law_leaf.nd rfl (by first | exact Or.inl rfl | exact Or.inr rfl))) (fun _ _ _ _ _ => dts_nil) (fun _ _ _ _ _ => (de_call c__law_of hr gu (da_cons (de_v 0) (da_cons (de_v 1) da_nil)))))) da_nil))))))) read
theorem c__law_type_drawn {k : Nat} (T : Txt K mg) {sp__law_take : DSp} (c__law_take : Cal P w K mg base k "_law_take" [] sp__law_take) {sp__law_leaf : DSp} (c__law_leaf : Cal P w K mg base k "_law_leaf" [] sp__law_leaf) {sp__law_type_drawn : DSp} (c__law_type_drawn : Cal P w K mg base k "_law_type_drawn" [] sp__law_type_drawn) {sp : DSp} (read : ∀ ds M Q, sp ds M Q → ds.length = 3 ∧ r__law_type_drawn sp__law_take sp__law_leaf sp__law_type_drawn { nx := fun _ M' => Q .non M', rt := Q } (dstart N__law_type_drawn ds) M) : Cal P w K mg base (k + 1) "_law_type_drawn" [] sp :=
  dcal T.h__law_type_drawn sc__law_type_drawn (t := r__law_type_drawn sp__law_take sp__law_leaf sp__law_type_drawn) (fun f cdv A outer s H E hr gu =>
    (dss_cons (ds_set (i := 3) sc__law_type_drawn.nd rfl (by first | exact Or.inl rfl | exact Or.inr rfl) (de_call c__law_take hr gu (da_cons (de_v 0) (da_cons de_int da_nil))))
    (dss_cons (ds_if (dt_w (dw_or (dt_cmp (od_eq hr) (de_v 2) de_int (nomark _)) (dw_or1 (dt_cmp od_lt (de_v 3) de_int (nomark _))))) (dss_one (ds_ret (de_call c__law_leaf hr gu (da_cons (de_v 0) (da_cons (de_v 1) da_nil))))) dss_nil)
    (dss_cons (ds_if (dt_cmp (od_eq hr) (de_v 3) de_int (nomark _)) (dss_one (ds_ret (de_tup (da_cons de_str (da_cons (de_call c__law_type_drawn hr gu (da_cons (de_v 0) (da_cons (de_v 1) (da_cons (de_op od_sub (de_v 2) de_int) da_nil)))) da_nil))))) dss_nil)
    (dss_one (ds_ret (de_tup (da_cons (de_ix (de_lst true (da_cons de_str (da_cons de_str da_nil))) (de_op od_mod (de_v 3) de_int)) (da_cons (de_call c__law_type_drawn hr gu (da_cons (de_v 0) (da_cons (de_v 1) (da_cons (de_op od_sub (de_v 2) de_int) da_nil)))) (da_cons (de_call c__law_type_drawn hr gu (da_cons (de_v 0) (da_cons (de_v 1) (da_cons (de_op od_sub (de_v 2) de_int) da_nil)))) da_nil)))))))))) read
theorem c__law_is_text {k : Nat} (T : Txt K mg) {sp__law_signs : DSp} (c__law_signs : Cal P w K mg base k "_law_signs" [] sp__law_signs) {sp : DSp} (read : ∀ ds M Q, sp ds M Q → ds.length = 1 ∧ r__law_is_text sp__law_signs { nx := fun _ M' => Q .non M', rt := Q } (dstart N__law_is_text ds) M) : Cal P w K mg base (k + 1) "_law_is_text" [] sp :=
  dcal T.h__law_is_text sc__law_is_text (t := r__law_is_text sp__law_signs) (fun f cdv A outer s H E hr gu =>
    (dss_one (ds_ret (de_and (de_isi T.m_isinstance T.m_str (de_v 0)) (de_one (de_b (cd_all rfl) T.m_all (da_cons (de_lc true (own := [("sign", 1)]) (g := (dgName 1)) (tt := dYes) (te := (dOp (rInD false) (dSlot 1) (dCall sp__law_signs [] dNil))) rfl sc__law_is_text.nd (di_it (de_v 0)) (blkOk_by (own := [("sign", 1)]) (N := N__law_is_text) (sc := defScope st__law_is_text) (by decide +kernel)) (by decide) (fun _ _ _ _ _ => (dg_name (i := 1) sc__law_is_text.nd rfl (by first | exact Or.inl rfl | exact Or.inr rfl))) (fun _ _ _ _ _ => dts_nil) (fun _ _ _ _ _ => (de_cmp od_in (de_v 1) (de_call0 c__law_signs hr gu) (by with_unfolding_all rfl)))) da_nil))))))) read
theorem c__law_is_node {k : Nat} (T : Txt K mg) {sp__law_is_text : DSp} (c__law_is_text : Cal P w K mg base k "_law_is_text" [] sp__law_is_text) {sp : DSp} (read : ∀ ds M Q, sp ds M Q → ds.length = 1 ∧ r__law_is_node sp__law_is_text { nx := fun _ M' => Q .non M', rt := Q } (dstart N__law_is_node ds) M) : Cal P w K mg base (k + 1) "_law_is_node" [] sp :=
  dcal T.h__law_is_node sc__law_is_node (t := r__law_is_node sp__law_is_text) (fun f cdv A outer s H E hr gu =>
    (dss_cons (ds_if (dt_w (dw_or (dt_not (dt_val (de_isi T.m_isinstance T.m_tuple (de_v 0)))) (dw_or (dt_cmp od_lt (de_b cd_len T.m_len (da_cons (de_v 0) da_nil)) de_int (nomark _)) (dw_or1 (dt_not (dt_val (de_isi T.m_isinstance T.m_str (de_ix (de_v 0) de_int)))))))) (dss_one (ds_ret de_bl)) dss_nil)
    (dss_cons (ds_set (i := 1) sc__law_is_node.nd rfl (by first | exact Or.inl rfl | exact Or.inr rfl) (de_dictC [("text", 2), ("sign", 2), ("star", 2), ("cat", 3), ("or", 3)] (pps_cons pe_str pe_int (pps_cons pe_str pe_int (pps_cons pe_str pe_int (pps_cons pe_str pe_int (pps_cons pe_str pe_int pps_nil))))) (by decide +kernel)))
    (dss_cons (ds_if (dt_w (dw_or (dt_cmpKN hr (de_ix (de_v 0) de_int) (de_v 1) (by with_unfolding_all rfl)) (dw_or1 (dt_cmp (od_ne hr) (de_b cd_len T.m_len (da_cons (de_v 0) da_nil)) (de_getK hr (de_v 1) (de_ix (de_v 0) de_int)) (nomark _))))) (dss_one (ds_ret de_bl)) dss_nil)
    (dss_cons (ds_if (dt_cmp (od_eq hr) (de_ix (de_v 0) de_int) de_str (nomark _)) (dss_one (ds_ret (de_and (de_call c__law_is_text hr gu (da_cons (de_ix (de_v 0) de_int) da_nil)) (de_one (de_cmp od_le (de_b cd_len T.m_len (da_cons (de_ix (de_v 0) de_int) da_nil)) de_int (nomark _)))))) dss_nil)
    (dss_cons (ds_if (dt_cmp (od_eq hr) (de_ix (de_v 0) de_int) de_str (nomark _)) (dss_one (ds_ret (de_and (de_call c__law_is_text hr gu (da_cons (de_ix (de_v 0) de_int) da_nil)) (de_and (de_cmp (od_ne hr) (de_ix (de_v 0) de_int) de_str (nomark _)) (de_one (de_cmp (od_eq hr) (de_join de_str (de_sortSet true T.m_sorted T.m_set (de_ix (de_v 0) de_int))) (de_ix (de_v 0) de_int) (nomark _))))))) dss_nil)
    (dss_one (ds_ret de_bl)))))))) read
theorem c__law_is_type {k : Nat} (T : Txt K mg) {sp__law_is_node : DSp} (c__law_is_node : Cal P w K mg base k "_law_is_node" [] sp__law_is_node) {sp__law_is_type : DSp} (c__law_is_type : Cal P w K mg base k "_law_is_type" [] sp__law_is_type) {sp : DSp} (read : ∀ ds M Q, sp ds M Q → ds.length = 2 ∧ r__law_is_type sp__law_is_node sp__law_is_type { nx := fun _ M' => Q .non M', rt := Q } (dstart N__law_is_type ds) M) : Cal P w K mg base (k + 1) "_law_is_type" [] sp :=
  dcal T.h__law_is_type sc__law_is_type (t := r__law_is_type sp__law_is_node sp__law_is_type) (fun f cdv A outer s H E hr gu =>
    (dss_cons (ds_if (dt_w (dw_or (dt_cmp (od_eq hr) (de_v 1) de_int (nomark _)) (dw_or1 (dt_not (dt_val (de_call c__law_is_node hr gu (da_cons (de_v 0) da_nil))))))) (dss_one (ds_ret de_int)) dss_nil)
    (dss_cons (ds_if (dt_cmp od_in (de_ix (de_v 0) de_int) (de_tup (da_cons de_str (da_cons de_str da_nil))) (by with_unfolding_all rfl)) (dss_one (ds_ret de_int)) dss_nil)
    (dss_one (ds_ret (de_op (od_add true) de_int (de_b (cd_sum rfl) T.m_sum (da_cons (de_lc true (own := [("part", 2)]) (g := (dgName 2)) (tt := dYes) (te := (dCall sp__law_is_type [] (dCons (dSlot 2) (dCons (dOp (rInt (fun _ _ => True) fun i j => .int (i - j)) (dSlot 1) (dC (.int 1))) dNil)))) rfl sc__law_is_type.nd (di_it (de_slice true (de_v 0) (do_some de_int) do_none)) (blkOk_by (own := [("part", 2)]) (N := N__law_is_type) (sc := defScope st__law_is_type) (by decide +kernel)) (by decide) (fun _ _ _ _ _ => (dg_name (i := 2) sc__law_is_type.nd rfl (by first | exact Or.inl rfl | exact Or.inr rfl))) (fun _ _ _ _ _ => dts_nil) (fun _ _ _ _ _ => (de_call c__law_is_type hr gu (da_cons (de_v 2) (da_cons (de_op od_sub (de_v 1) de_int) da_nil))))) da_nil)))))))) read
theorem c__law_row {k : Nat} (T : Txt K mg) {sp : DSp} (read : ∀ ds M Q, sp ds M Q → ds.length = 2 ∧ r__law_row { nx := fun _ M' => Q .non M', rt := Q } (dstart N__law_row ds) M) : Cal P w K mg base (k + 1) "_law_row" [] sp :=
  dcal T.h__law_row sc__law_row (t := r__law_row) (fun f cdv A outer s H E hr gu =>
    (dss_cons (ds_set (i := 2) sc__law_row.nd rfl (by first | exact Or.inl rfl | exact Or.inr rfl) (de_op (od_mul true) (de_lst true (da_cons (de_v 1) da_nil)) (de_v 0)))
    (dss_cons (ds_while PassesOwn.never (dt_cmp od_gt (de_b cd_len T.m_len (da_cons (de_v 2) da_nil)) de_int (nomark _)) (dss_cons (ds_setLc (i := 3) true (own := [("one", 4), ("other", 5)]) (g := (dgTup 2 (dgCons (dgName 4) (dgCons (dgName 5) dgNil)))) (tt := dYes) (te := (dTup (dCons (dC (.str "cat")) (dCons (dSlot 4) (dCons (dSlot 5) dNil))))) rfl sc__law_row.nd rfl rfl (sw_true rfl rfl rfl (by decide +kernel)) (di_zipL T.m_zip (de_step2_0 true (de_v 2)) (de_step2_1 true (de_v 2))) (blkOk_by (own := [("one", 4), ("other", 5)]) (N := N__law_row) (sc := defScope st__law_row) (by decide +kernel)) (by decide) (fun _ _ _ _ _ => (dg_tup rfl (dgs_cons (dg_name (i := 4) sc__law_row.nd rfl (by first | exact Or.inl rfl | exact Or.inr rfl)) (dgs_cons (dg_name (i := 5) sc__law_row.nd rfl (by first | exact Or.inl rfl | exact Or.inr rfl)) dgs_nil)))) (fun _ _ _ _ _ => dts_nil) (fun _ _ _ _ _ => (de_tup (da_cons de_str (da_cons (de_v 4) (da_cons (de_v 5) da_nil))))))
    (dss_one (ds_set (i := 2) sc__law_row.nd rfl (by first | exact Or.inl rfl | exact Or.inr rfl) (de_op (od_add true) (de_v 3) (de_slice true (de_v 2) (do_some (de_op od_sub (de_b cd_len T.m_len (da_cons (de_v 2) da_nil)) (de_op od_mod (de_b cd_len T.m_len (da_cons (de_v 2) da_nil)) de_int))) do_none))))))
    (dss_one (ds_ret (de_ix (de_v 2) de_int)))))) read
theorem c__law_stars {k : Nat} (T : Txt K mg) {sp : DSp} (read : ∀ ds M Q, sp ds M Q → ds.length = 2 ∧ r__law_stars { nx := fun _ M' => Q .non M', rt := Q } (dstart N__law_stars ds) M) : Cal P w K mg base (k + 1) "_law_stars" [] sp :=
  dcal T.h__law_stars sc__law_stars (t := r__law_stars) (fun f cdv A outer s H E hr gu =>
    (dss_cons (ds_for PassesOwn.never rfl (di_range1 T.m_range (de_v 0)) (dg_name (i := 2) sc__law_stars.nd rfl (by first | exact Or.inl rfl | exact Or.inr rfl)) (dss_one (ds_set (i := 1) sc__law_stars.nd rfl (by first | exact Or.inl rfl | exact Or.inr rfl) (de_tup (da_cons de_str (da_cons (de_v 1) da_nil))))))
    (dss_one (ds_ret (de_v 1))))) read
theorem c__law_bounds {k : Nat} (T : Txt K mg) {sp__law_leaf : DSp} (c__law_leaf : Cal P w K mg base k "_law_leaf" [] sp__law_leaf) {sp__law_row : DSp} (c__law_row : Cal P w K mg base k "_law_row" [] sp__law_row) {sp__law_stars : DSp} (c__law_stars : Cal P w K mg base k "_law_stars" [] sp__law_stars) {sp__law_signs : DSp} (c__law_signs : Cal P w K mg base k "_law_signs" [] sp__law_signs) {sp : DSp} (read : ∀ ds M Q, sp ds M Q → ds.length = 2 ∧ r__law_bounds sp__law_leaf sp__law_row sp__law_stars sp__law_signs { nx := fun _ M' => Q .non M', rt := Q } (dstart N__law_bounds ds) M) : Cal P w K mg base (k + 1) "_law_bounds" [] sp :=
  dcal T.h__law_bounds sc__law_bounds (t := r__law_bounds sp__law_leaf sp__law_row sp__law_stars sp__law_signs) (fun f cdv A outer s H E hr gu =>
    (dss_cons (ds_set (i := 2) sc__law_bounds.nd rfl (by first | exact Or.inl rfl | exact Or.inr rfl) (de_call c__law_leaf hr gu (da_cons (de_v 0) (da_cons (de_v 1) da_nil))))
    (dss_cons (ds_set (i := 3) sc__law_bounds.nd rfl (by first | exact Or.inl rfl | exact Or.inr rfl) (de_call c__law_row hr gu (da_cons de_int (da_cons (de_v 2) da_nil))))
    (dss_cons (ds_set (i := 4) sc__law_bounds.nd rfl (by first | exact Or.inl rfl | exact Or.inr rfl) (de_lst true (da_cons (de_v 3) (da_cons (de_call c__law_row hr gu (da_cons de_int (da_cons (de_v 2) da_nil))) (da_cons (de_tup (da_cons de_str (da_cons (de_v 3) da_nil))) (da_cons (de_tup (da_cons de_str (da_cons (de_tup (da_cons de_str (da_cons (de_v 3) da_nil))) da_nil))) da_nil))))))
    (dss_cons (ds_set (i := 4) sc__law_bounds.nd rfl (by first | exact Or.inl rfl | exact Or.inr rfl) (de_op (od_add true) (de_v 4) (de_lst true (da_cons (de_call c__law_stars hr gu (da_cons de_int (da_cons (de_v 2) da_nil))) (da_cons (de_call c__law_stars hr gu (da_cons de_int (da_cons (de_v 2) da_nil))) (da_cons (de_call c__law_stars hr gu (da_cons de_int (da_cons (de_v 2) da_nil))) (da_cons (de_tup (da_cons de_str (da_cons (de_op (od_mul true) (de_ix (de_v 1) de_int) de_int) da_nil))) da_nil)))))))
    (dss_cons (ds_set (i := 4) sc__law_bounds.nd rfl (by first | exact Or.inl rfl | exact Or.inr rfl) (de_op (od_add true) (de_v 4) (de_lst true (da_cons (de_tup (da_cons de_str (da_cons (de_op (od_mul true) (de_ix (de_v 1) de_int) de_int) da_nil))) (da_cons (de_tup (da_cons de_str (da_cons (de_call0 c__law_signs hr gu) da_nil))) (da_cons (de_tup (da_cons de_str (da_cons (de_revS true (de_v 1)) da_nil))) da_nil))))))
    (dss_cons (ds_set (i := 4) sc__law_bounds.nd rfl (by first | exact Or.inl rfl | exact Or.inr rfl) (de_op (od_add true) (de_v 4) (de_lst true (da_cons (de_tup (da_cons de_str (da_cons (de_op (od_add true) (de_v 1) (de_ix (de_v 1) (de_neg de_int))) da_nil))) (da_cons (de_tup (da_cons de_str (da_cons de_str da_nil))) (da_cons (de_tup (da_cons de_str (da_cons de_str da_nil))) (da_cons (de_tup (da_cons de_str (da_cons de_str da_nil))) (da_cons (de_tup (da_cons de_str (da_cons de_str da_nil))) da_nil))))))))
    (dss_cons (ds_set (i := 4) sc__law_bounds.nd rfl (by first | exact Or.inl rfl | exact Or.inr rfl) (de_op (od_add true) (de_v 4) (de_lst true (da_cons (de_tup (da_cons de_str (da_cons (de_v 2) da_nil))) (da_cons (de_tup (da_cons de_str (da_cons (de_v 2) da_nil))) (da_cons (de_tup (da_cons de_str (da_cons (de_v 2) (da_cons (de_v 2) da_nil)))) (da_cons (de_tup (da_cons de_str (da_cons (de_v 2) (da_cons (de_v 2) (da_cons (de_v 2) da_nil))))) (da_cons (de_tup (da_cons de_str da_nil)) da_nil))))))))
    (dss_one (ds_ret (de_op (od_add true) (de_v 4) (de_lst true (da_cons (de_tup (da_cons de_str (da_cons (de_v 2) da_nil))) (da_cons (de_lst true (da_cons de_str (da_cons de_str da_nil))) (da_cons (de_tup (da_cons de_str (da_cons (de_v 2) (da_cons de_non da_nil)))) (da_cons (de_tup (da_cons de_str (da_cons de_str da_nil))) da_nil)))))))))))))))) read
theorem c__law_is_right {k : Nat} (T : Txt K mg) {sp__law_is_type : DSp} (c__law_is_type : Cal P w K mg base k "_law_is_type" [] sp__law_is_type) {sp_is_type : DSp} (c_is_type : Cal P w K mg base k "is_type" [] sp_is_type) {sp : DSp} (read : ∀ ds M Q, sp ds M Q → ds.length = 1 ∧ r__law_is_right sp__law_is_type sp_is_type { nx := fun _ M' => Q .non M', rt := Q } (dstart N__law_is_right ds) M) : Cal P w K mg base (k + 1) "_law_is_right" [] sp :=
  dcal T.h__law_is_right sc__law_is_right (t := r__law_is_right sp__law_is_type sp_is_type) (fun f cdv A outer s H E hr gu =>
    (dss_cons (ds_par (i := 1) (j := 2) rfl sc__law_is_right.nd rfl rfl (by decide) rfl rfl (da_cons (de_b (cd_repr hr gu) T.m_repr (da_cons (de_v 0) da_nil)) (da_cons (de_cmp od_le (de_call c__law_is_type hr gu (da_cons (de_v 0) (da_cons de_int da_nil))) de_int (nomark _)) da_nil)))
    (dss_one (ds_ret (de_and (de_cmp (od_eq hr) (de_b (cd_repr hr gu) T.m_repr (da_cons (de_call c_is_type hr gu (da_cons (de_v 0) da_nil)) da_nil)) (de_b (cd_repr hr gu) T.m_repr (da_cons (de_v 2) da_nil)) (nomark _)) (de_one (de_cmp (od_eq hr) (de_b (cd_repr hr gu) T.m_repr (da_cons (de_v 0) da_nil)) (de_v 1) (nomark _)))))))) read
theorem c__law_right {k : Nat} (T : Txt K mg) {sp__law_few : DSp} (c__law_few : Cal P w K mg base k "_law_few" [] sp__law_few) {sp__law_type_drawn : DSp} (c__law_type_drawn : Cal P w K mg base k "_law_type_drawn" [] sp__law_type_drawn) {sp__law_bounds : DSp} (c__law_bounds : Cal P w K mg base k "_law_bounds" [] sp__law_bounds) {sp__law_odd : DSp} (c__law_odd : Cal P w K mg base k "_law_odd" [] sp__law_odd) {sp__law_is_right : DSp} (c__law_is_right : Cal P w K mg base k "_law_is_right" [] sp__law_is_right) {sp_parts_of : DSp} (c_parts_of : Cal P w K mg base k "parts_of" [] sp_parts_of) {sp__law_bent : DSp} (c__law_bent : Cal P w K mg base k "_law_bent" [] sp__law_bent) {sp : DSp} (read : ∀ ds M Q, sp ds M Q → ds.length = 1 ∧ r__law_right sp__law_few sp__law_type_drawn sp__law_bounds sp__law_odd sp__law_is_right sp_parts_of sp__law_bent { nx := fun _ M' => Q .non M', rt := Q } (dstart N__law_right ds) M) : Cal P w K mg base (k + 1) "_law_right" [] sp :=
  dcal T.h__law_right sc__law_right (t := r__law_right sp__law_few sp__law_type_drawn sp__law_bounds sp__law_odd sp__law_is_right sp_parts_of sp__law_bent) (fun f cdv A outer s H E hr gu =>
    (dss_cons (ds_set (i := 1) sc__law_right.nd rfl (by first | exact Or.inl rfl | exact Or.inr rfl) (de_call c__law_few hr gu (da_cons (de_v 0) da_nil)))
    (dss_cons (ds_set (i := 2) sc__law_right.nd rfl (by first | exact Or.inl rfl | exact Or.inr rfl) (de_call c__law_type_drawn hr gu (da_cons (de_v 0) (da_cons (de_v 1) (da_cons de_int da_nil)))))
    (dss_cons (ds_if (dt_not (dt_val (de_b (cd_all rfl) T.m_all (da_cons (de_lc true (own := [("value", 5)]) (g := (dgName 5)) (tt := dYes) (te := (dCall sp__law_is_right [] (dCons (dSlot 5) dNil))) rfl sc__law_right.nd (di_it (de_op (od_add true) (de_call c__law_bounds hr gu (da_cons (de_v 0) (da_cons (de_v 1) da_nil))) (de_lst true (da_cons (de_v 2) (da_cons (de_call c__law_odd hr gu (da_cons (de_v 0) da_nil)) (da_cons (de_call c__law_odd hr gu (da_cons (de_v 0) da_nil)) da_nil)))))) (blkOk_by (own := [("value", 5)]) (N := N__law_right) (sc := defScope st__law_right) (by decide +kernel)) (by decide) (fun _ _ _ _ _ => (dg_name (i := 5) sc__law_right.nd rfl (by first | exact Or.inl rfl | exact Or.inr rfl))) (fun _ _ _ _ _ => dts_nil) (fun _ _ _ _ _ => (de_call c__law_is_right hr gu (da_cons (de_v 5) da_nil)))) da_nil)))) (dss_one (ds_ret de_bl)) dss_nil)
    (dss_cons (ds_set (i := 3) sc__law_right.nd rfl (by first | exact Or.inl rfl | exact Or.inr rfl) (de_if (dt_cmp od_in (de_ix (de_v 2) de_int) (de_tup (da_cons de_str (da_cons de_str da_nil))) (by with_unfolding_all rfl)) (de_tup da_nil) (de_slice true (de_v 2) (do_some de_int) do_none)))
    (dss_cons (ds_if (dt_cmp (od_ne hr) (de_b (cd_repr hr gu) T.m_repr (da_cons (de_call c_parts_of hr gu (da_cons (de_v 2) da_nil)) da_nil)) (de_b (cd_repr hr gu) T.m_repr (da_cons (de_v 3) da_nil)) (nomark _)) (dss_one (ds_ret de_bl)) dss_nil)
    (dss_one (ds_ret (de_b (cd_all rfl) T.m_all (da_cons (de_lc true (own := [("lap", 4)]) (g := (dgName 4)) (tt := dYes) (te := (dCall sp__law_is_right [] (dCons (dCall sp__law_bent [] (dCons (dSlot 0) (dCons (dSlot 2) dNil))) dNil))) rfl sc__law_right.nd (di_range1 T.m_range de_int) (blkOk_by (own := [("lap", 4)]) (N := N__law_right) (sc := defScope st__law_right) (by decide +kernel)) (by decide) (fun _ _ _ _ _ => (dg_name (i := 4) sc__law_right.nd rfl (by first | exact Or.inl rfl | exact Or.inr rfl))) (fun _ _ _ _ _ => dts_nil) (fun _ _ _ _ _ => (de_call c__law_is_right hr gu (da_cons (de_call c__law_bent hr gu (da_cons (de_v 0) (da_cons (de_v 2) da_nil))) da_nil)))) da_nil)))))))))) read
theorem c_law {k : Nat} (T : Txt K mg) {sp__law_cells : DSp} (c__law_cells : Cal P w K mg base k "_law_cells" [] sp__law_cells) {sp__law_right : DSp} (c__law_right : Cal P w K mg base k "_law_right" [] sp__law_right) {sp__law_pot : DSp} (c__law_pot : Cal P w K mg base k "_law_pot" [] sp__law_pot) {sp : DSp} {f : Addr} {oc : Value} {od : Option Addr} {dV kV doc pm : Value} {an : Option Addr} {cd ct : Value} {osl : Array (Option Value)} (lk : K.lookup f = some ⟨oc, od, .func (PySem.W.fnOf "law" "law" (defArgs st_law) (defBody st_law) (defScope st_law) dV kV doc pm an cd ct), osl⟩) (hcd : PySem.W.codeIn K cd "law" = true) (read : ∀ ds M Q, sp ds M Q → ds.length = 1 ∧ r_law sp__law_cells sp__law_right sp__law_pot { nx := fun _ M' => Q .non M', rt := Q } (dstart N_law ds) M) : GnOk P w K mg base CX0 (k + 1) f (PySem.W.fnOf "law" "law" (defArgs st_law) (defBody st_law) (defScope st_law) dV kV doc pm an cd ct) ["script"] (lift K sp) :=
  dgn lk hcd sc_law (t := r_law sp__law_cells sp__law_right sp__law_pot) (fun cdv A outer s H E hr gu =>
    (dss_one (ds_ret (de_b (cd_all rfl) T.m_all (da_cons (de_lc true (own := [("place", 1)]) (g := (dgName 1)) (tt := dYes) (te := (dCall sp__law_right [] (dCons (dCall sp__law_pot [] (dCons (dSlot 0) (dCons (dSlot 1) dNil))) dNil))) rfl sc_law.nd (di_it (de_call c__law_cells hr gu (da_cons (de_v 0) (da_cons de_int da_nil)))) (blkOk_by (own := [("place", 1)]) (N := N_law) (sc := defScope st_law) (by decide +kernel)) (by decide) (fun _ _ _ _ _ => (dg_name (i := 1) sc_law.nd rfl (by first | exact Or.inl rfl | exact Or.inr rfl))) (fun _ _ _ _ _ => dts_nil) (fun _ _ _ _ _ => (de_call c__law_right hr gu (da_cons (de_call c__law_pot hr gu (da_cons (de_v 0) (da_cons (de_v 1) da_nil))) da_nil)))) da_nil))))) read
end
end K01

/-! K01p: plain law: rising signs, by neighbours and by sorted(set(..)). -/
namespace K01
open PySem PySem.Spec DL
open PyProof.Rows hiding St signs

def sg (c : Nat) : Str := ⟨#[c]⟩
theorem sg_inj {a b : Nat} (h : sg a = sg b) : a = b := by
  have := congrArg (fun s : Str => s.cps.toList) h
  simpa [sg] using this
def asc : List Nat → Bool
  | a :: b :: r => decide (a < b) && asc (b :: r)
  | _ => true
theorem asc_pw : ∀ {l : List Nat}, asc l = true → l.Pairwise (· < ·)
  | [], _ => .nil
  | [a], _ => by simp
  | a :: b :: r, h => by
    simp only [asc, Bool.and_eq_true, decide_eq_true_eq] at h
    have ih := asc_pw h.2
    refine List.pairwise_cons.mpr ⟨fun x hx => ?_, ih⟩
    rcases List.mem_cons.mp hx with rfl | hx
    · exact h.1
    · exact Nat.lt_trans h.1 ((List.pairwise_cons.mp ih).1 x hx)
theorem pw_uniq : ∀ {l m : List Nat}, l.Pairwise (· < ·) → m.Pairwise (· < ·) → (∀ k, k ∈ l ↔ k ∈ m) → l = m
  | [], [], _, _, _ => rfl
  | [], y :: m, _, _, h => absurd ((h y).mpr List.mem_cons_self) (by simp)
  | x :: l, [], _, _, h => absurd ((h x).mp List.mem_cons_self) (by simp)
  | x :: l, y :: m, hl, hm, h => by
    obtain ⟨l1, l2⟩ := List.pairwise_cons.mp hl
    obtain ⟨m1, m2⟩ := List.pairwise_cons.mp hm
    have e : x = y := by
      rcases List.mem_cons.mp ((h x).mp List.mem_cons_self) with e | q
      · exact e
      · rcases List.mem_cons.mp ((h y).mpr List.mem_cons_self) with e | p
        · exact e.symm
        · have a := l1 y p
          have b := m1 x q
          omega
    subst e
    have ih := pw_uniq l2 m2 fun k => by
      constructor
      · intro hk
        rcases List.mem_cons.mp ((h k).mp (List.mem_cons_of_mem _ hk)) with e | q
        · have := l1 k hk; omega
        · exact q
      · intro hk
        rcases List.mem_cons.mp ((h k).mpr (List.mem_cons_of_mem _ hk)) with e | q
        · have := m1 k hk; omega
        · exact q
    rw [ih]
theorem lt_sg (a b : Nat) : ltCps (sg a).cps.toList (sg b).cps.toList = decide (a < b) := by
  simp [sg, ltCps]
theorem rising_asc : ∀ (p : Nat) (ms : List Nat), risingS (sg p) (ms.map sg) = true → (p :: ms).Nodup → asc (p :: ms) = true
  | _, [], _, _ => rfl
  | p, x :: r, h, nd => by
    rw [List.map_cons, risingS, Bool.and_eq_true, lt_sg] at h
    obtain ⟨n1, n2⟩ := List.nodup_cons.mp nd
    have ne : p ≠ x := fun e => n1 (by rw [e]; exact List.mem_cons_self)
    have lt : p < x := by
      have := h.1
      simp at this
      omega
    simp only [asc, Bool.and_eq_true, decide_eq_true_eq]
    exact ⟨lt, rising_asc x r h.2 n2⟩
theorem sorted_asc {ms : List Nat} (h : sortedS (ms.map sg) = true) (nd : ms.Nodup) : asc ms = true := by
  cases ms with
  | nil => rfl
  | cons p r => exact rising_asc p r h nd
theorem sgs_of : ∀ {ys : List Str}, (∀ y ∈ ys, ∃ c, y = sg c) → ∃ ms : List Nat, ys = ms.map sg
  | [], _ => ⟨[], rfl⟩
  | y :: ys, h => by
    obtain ⟨c, rfl⟩ := h y List.mem_cons_self
    obtain ⟨ms, rfl⟩ := sgs_of fun z hz => h z (List.mem_cons_of_mem _ hz)
    exact ⟨c :: ms, rfl⟩
theorem app_list (a b : Str) : (a ++ b).cps.toList = a.cps.toList ++ b.cps.toList := by
  show (a.cps ++ b.cps).toList = _
  simp
theorem join_list : ∀ ss : List Str, (Txt.join (Str.ofString "") ss).cps.toList = (ss.map fun s : Str => s.cps.toList).flatten := by
  intro ss
  unfold Txt.join
  rw [StrLaws.glued_eq_join]
  induction ss with
  | nil => rfl
  | cons a r ih =>
    cases r with
    | nil => simp [Str.join]
    | cons b r =>
      have e : (Str.ofString "").cps.toList = [] := by decide
      rw [Str.join, app_list, app_list, ih, e, List.map_cons, List.flatten_cons, List.append_nil]
      · simp
      · simp
theorem flat_sg : ∀ ms : List Nat, ((ms.map sg).map fun s : Str => s.cps.toList).flatten = ms
  | [] => rfl
  | m :: ms => by
    rw [List.map_cons, List.map_cons, List.flatten_cons, flat_sg ms]
    rfl
theorem gl_sg (ms : List Nat) : Txt.join (Str.ofString "") (ms.map sg) = ⟨ms.toArray⟩ := by
  have h := join_list (ms.map sg)
  rw [flat_sg] at h
  generalize Txt.join (Str.ofString "") (ms.map sg) = z at h
  obtain ⟨⟨l⟩⟩ := z
  have : l = ms := h
  rw [this]
theorem sg_eq (x : Str) : PyProof.Rows.signs x = x.cps.toList.map sg := rfl
theorem sign_same (x : Str) {ys : List Str} (nd : ys.Nodup) (mem : ∀ k, k ∈ ys ↔ k ∈ PyProof.Rows.signs x) (so : sortedS ys = true) : decide (Txt.join (Str.ofString "") ys = x) = asc x.cps.toList := by
  obtain ⟨ms, rfl⟩ := sgs_of (ys := ys) fun y hy => by
    have := (mem y).mp hy
    rw [sg_eq] at this
    obtain ⟨c, _, e⟩ := List.mem_map.mp this
    exact ⟨c, e.symm⟩
  have nd2 : ms.Nodup := by
    clear mem so
    induction ms with
    | nil => exact .nil
    | cons a r ih =>
      obtain ⟨n1, n2⟩ := List.nodup_cons.mp nd
      exact List.nodup_cons.mpr ⟨fun h => n1 (List.mem_map.mpr ⟨a, h, rfl⟩), ih n2⟩
  have a1 := sorted_asc so nd2
  have mem2 : ∀ k, k ∈ ms ↔ k ∈ x.cps.toList := fun k => by
    have q := mem (sg k)
    rw [sg_eq] at q
    constructor
    · intro h
      obtain ⟨c, hc, e⟩ := List.mem_map.mp (q.mp (List.mem_map.mpr ⟨k, h, rfl⟩))
      rw [← sg_inj e]; exact hc
    · intro h
      obtain ⟨c, hc, e⟩ := List.mem_map.mp (q.mpr (List.mem_map.mpr ⟨k, h, rfl⟩))
      rw [← sg_inj e]; exact hc
  rw [gl_sg]
  by_cases h : asc x.cps.toList = true
  · rw [h, pw_uniq (asc_pw a1) (asc_pw h) mem2]
    simp
  · rw [Bool.eq_false_iff.mpr h]
    refine decide_eq_false fun e => h ?_
    have : x.cps.toList = ms := by rw [← e]
    rw [this]; exact a1
end K01

/-! K01b: what the program's defs tell. -/
namespace K01
open PySem PySem.Spec DL
open L2 (atI ixN)
open PyProof.Rows hiding St signs

def tupB (v : DL.D) (lo hi : Int) : Bool := match v with
  | .tup xs => decide (lo ≤ xs.length) && decide ((xs.length : Int) ≤ hi)
  | _ => false
def plain : DL.D → Bool
  | .ref _ => false
  | .str x => decide (x.cps.size ≤ 100000)
  | _ => true
def sp_tuple : DSp := fun ds M Q => ∃ v lo hi, ds = [v, .int lo, .int hi] ∧ plain v = true ∧ Q (.bl (tupB v lo hi)) M
theorem rd_tuple : ∀ ds M Q, sp_tuple ds M Q → ds.length = 3 ∧ r_is_tuple { nx := fun _ M' => Q .non M', rt := Q } (dstart N_is_tuple ds) M := by
  rintro _ M Q ⟨v, lo, hi, rfl, pv, q⟩
  refine ⟨rfl, ?_⟩
  cases v
  case tup xs =>
    by_cases h : lo ≤ (xs.length : Int) <;> simp [tupB, h] at q <;> simp [dstart, dRet, dAndV, dOrV, dNotV, dIsi, dSlot, tyD, isiB, dChain, rInt, dCB, DL.rLen, dCons, dNil, seqOf, lstOf, lstIn, mol, dSeq, dIfS, dAsg, dgName, dgTup, dgCons, dgNil, dPar, dC, dB, dNotT, dAndT, dOrT, dOp, rEqD2, DL.rLtD, DL.rInD, DL.rIxD, dCall, dIf, dTup, dLst, dNext, dDrop, r_is_tuple] <;> simp [h, q]
  all_goals first | (simp [plain] at pv; done) | (simp [tupB] at q; simp [dstart, dRet, dAndV, dOrV, dNotV, dIsi, dSlot, tyD, isiB, dChain, rInt, dCB, DL.rLen, dCons, dNil, seqOf, lstOf, lstIn, mol, dSeq, dIfS, dAsg, dgName, dgTup, dgCons, dgNil, dPar, dC, dB, dNotT, dAndT, dOrT, dOp, rEqD2, DL.rLtD, DL.rInD, DL.rIxD, dCall, dIf, dTup, dLst, dNext, dDrop, r_is_tuple]; exact q)
/-- is_word(value, words): a flat value, texts -/
def inTx (v : DL.D) (ws : List Str) : Bool := match v with
  | .str x => decide (x ∈ ws)
  | _ => false
theorem any_eqV (x : Str) : ∀ ws : List Str, (ws.any ((fun y => L2.eqV (vOf y) (vOf (D.str x))) ∘ D.str)) = decide (x ∈ ws)
  | [] => rfl
  | w :: ws => by
    rw [List.any_cons, any_eqV x ws]
    have : ((fun y => L2.eqV (vOf y) (vOf (D.str x))) ∘ D.str) w = decide (x = w) := by
      show (w == x) = _
      by_cases h : x = w
      · subst h; simp
      · simp [h, Ne.symm h]
    rw [this]
    by_cases h : x = w <;> simp [h]
theorem all_flat (ws : List Str) : (ws.map D.str).all flatD = true := by
  rw [List.all_map]; exact List.all_eq_true.mpr fun _ _ => rfl
/-- x in (a tuple of texts) -/
theorem in_texts {neg : Bool} {x : Str} {ws : List Str} {M : Mp} {Q : DK} (q : Q (.bl (if neg then !decide (x ∈ ws) else decide (x ∈ ws))) M) : DL.rInD neg (.str x) (.tup (ws.map D.str)) M Q := by
  refine ⟨_, rfl, rfl, all_flat ws, ?_⟩
  rw [List.any_map, any_eqV]
  exact q
theorem op_in_texts {neg : Bool} {x : Str} (ws : List Str) {e : DL.D} {t : DTE} {ρ : Rho} {M : Mp} {Q : DK} (he : e = .tup (ws.map D.str)) (ht : ∀ Q' : DK, Q' (.str x) M → t ρ M Q')
    (q : Q (.bl (if neg then !decide (x ∈ ws) else decide (x ∈ ws))) M) : dOp (DL.rInD neg) t (dC e) ρ M Q := by
  subst he
  exact ht _ (in_texts q)
def sp_word : DSp := fun ds M Q => ∃ v ws, ds = [v, .tup (ws.map D.str)] ∧ plain v = true ∧ Q (.bl (inTx v ws)) M
theorem rd_word : ∀ ds M Q, sp_word ds M Q → ds.length = 2 ∧ r_is_word { nx := fun _ M' => Q .non M', rt := Q } (dstart N_is_word ds) M := by
  rintro _ M Q ⟨v, ws, rfl, pv, q⟩
  refine ⟨rfl, ?_⟩
  cases v
  case str x =>
    refine ⟨_, rfl, _, rfl, true, rfl, ?_⟩
    exact ⟨_, rfl, _, rfl, in_texts q⟩
  all_goals first | (simp [plain] at pv; done) | (simp [inTx] at q; simp [dstart, dRet, dAndV, dOrV, dNotV, dIsi, dSlot, tyD, isiB, dChain, rInt, dCB, DL.rLen, dCons, dNil, seqOf, lstOf, lstIn, mol, dSeq, dIfS, dAsg, dgName, dgTup, dgCons, dgNil, dPar, dC, dB, dNotT, dAndT, dOrT, dOp, rEqD2, DL.rLtD, DL.rInD, DL.rIxD, dCall, dIf, dTup, dLst, dNext, dDrop, r_is_word]; exact q)
abbrev SIG : Str := "\x0a ,-.0123456789:;=abcdefghijklmnopqrstuvwxyz"
def okSign (c : Nat) : Bool := decide (c ∈ SIG.cps.toList)
def textB (v : DL.D) (most : Int) : Bool := match v with
  | .str x => decide ((x.length : Int) ≤ most) && x.cps.toList.all okSign
  | _ => false
theorem small {n : Nat} (h : n ≤ 100000) : n ≤ sizeLine := by rw [sizeLine_eq]; omega
def sp_text : DSp := fun ds M Q => ∃ v most, ds = [v, .int most] ∧ plain v = true ∧ Q (.bl (textB v most)) M
theorem rd_text : ∀ ds M Q, sp_text ds M Q → ds.length = 2 ∧ r_is_text { nx := fun _ M' => Q .non M', rt := Q } (dstart N_is_text ds) M := by
  rintro _ M Q ⟨v, most, rfl, pv, q⟩
  refine ⟨rfl, ?_⟩
  cases v
  case str x =>
    have sz : x.cps.size ≤ 100000 := by simpa [plain] using pv
    refine ⟨_, rfl, _, rfl, true, rfl, ?_⟩
    refine ⟨_, rfl, small sz, _, rfl, _, _, rfl, rfl, trivial, _, rfl, ?_⟩
    by_cases h : (x.length : Int) ≤ most
    · have e : textB (.str x) most = x.cps.toList.all okSign := by simp [textB, h]
      rw [e] at q
      rw [decide_eq_true h]
      refine ⟨_, rfl, ?_⟩
      refine lc_map (fun d => match d with | .str s => .bl (s.cps.toList.all okSign) | _ => .non) (by exact trivial) _ [] ?_ (by unfold DL.signs; simpa using small sz) ?_
      · intro d hd K1 K2 hk
        obtain ⟨c, hc, rfl⟩ := List.mem_map.mp hd
        refine ⟨_, rfl, c, rfl, ?_⟩
        simpa [okSign] using hk
      · refine ⟨_, x.cps.toList.map okSign, rfl, ?_, ?_⟩
        · show some _ = some _
          unfold DL.signs
          rw [List.nil_append, List.map_map, List.map_map]
          refine congrArg some (List.map_congr_left fun c _ => ?_)
          simp
        · rw [List.all_map]; exact q
    · have e : textB (.str x) most = false := by simp [textB, h]
      rw [e] at q
      rw [decide_eq_false h]
      exact q
  all_goals first | (simp [plain] at pv; done) | (simp [textB] at q; simp [dstart, dRet, dAndV, dOrV, dNotV, dIsi, dSlot, tyD, isiB, dChain, rInt, dCB, DL.rLen, dCons, dNil, seqOf, lstOf, lstIn, mol, dSeq, dIfS, dAsg, dgName, dgTup, dgCons, dgNil, dPar, dC, dB, dNotT, dAndT, dOrT, dOp, rEqD2, DL.rLtD, DL.rInD, DL.rIxD, dCall, dIf, dTup, dLst, dNext, dDrop, r_is_text]; exact q)

theorem ix0 {x : DL.D} {r : List DL.D} : atI (x :: r) 0 = some x := L2.atI_nat (j := 0) rfl
theorem ix1 {x y : DL.D} {r : List DL.D} : atI (x :: y :: r) 1 = some y := L2.atI_nat (j := 1) rfl
theorem cut1 {α : Type} (l : List α) : DL.cutD l (some 1) none = l.tail := by
  unfold DL.cutD
  rw [show (1 : Int) = ((1 : Nat) : Int) from rfl, HT.sIx_nat, HT.sIx_none]
  cases l with
  | nil => rfl
  | cons a r =>
    have e : min 1 (a :: r).length = 1 := by simp
    rw [e, List.drop_one, List.tail_cons, List.length_cons, Nat.add_sub_cancel]
    exact List.take_length
theorem cutS1 (x : Str) : (L2.cutS x (some 1) none).cps.toList = x.cps.toList.tail := by
  rw [← cut1 x.cps.toList]
  unfold L2.cutS DL.cutD
  rw [Array.length_toList]
  rfl
def signB (v : DL.D) : Bool := match v with
  | .str x => textB (.str x) 44 && !decide (x = "") && asc x.cps.toList
  | _ => false
def leafB (t : Str) (v : DL.D) : Bool := if t = "text" then textB v 20 else signB v
theorem asc_zip : ∀ l : List Nat, ((l.map fun c => (⟨#[c]⟩ : Str)).zip (l.tail.map fun c => (⟨#[c]⟩ : Str))).all (fun p => decide (p.1.cps.toList < p.2.cps.toList)) = asc l
  | [] => rfl
  | [_] => rfl
  | a :: b :: r => by
    have ih := asc_zip (b :: r)
    have e : (decide ((#[a] : Array Nat).toList < (#[b] : Array Nat).toList)) = decide (a < b) := by
      simp [List.cons_lt_cons_iff]
    rw [List.map_cons, List.tail_cons, List.map_cons, List.zip_cons_cons, List.all_cons]
    show (decide ((#[a] : Array Nat).toList < (#[b] : Array Nat).toList) && _) = (decide (a < b) && asc (b :: r))
    rw [e, ← ih]
    rfl
def sp_leaf : DSp := fun ds M Q => ∃ t a r, ds = [.tup (.str t :: a :: r)] ∧ plain a = true ∧ Q (.bl (leafB t a)) M
theorem rd_leaf : ∀ ds M Q, sp_leaf ds M Q → ds.length = 1 ∧ r_is_leaf sp_text { nx := fun _ M' => Q .non M', rt := Q } (dstart N_is_leaf ds) M := by
  rintro _ M Q ⟨t, a, r, rfl, pa, q⟩
  refine ⟨rfl, ?_⟩
  refine ⟨_, rfl, _, _, rfl, ix0, ?_⟩
  refine ⟨decide (t = "text"), rfl, ?_⟩
  by_cases ht : t = "text"
  · rw [decide_eq_true ht]
    refine ⟨_, rfl, _, _, rfl, ix1, a, 20, rfl, pa, ?_⟩
    rw [leafB, if_pos ht] at q
    exact q
  · rw [decide_eq_false ht]
    rw [leafB, if_neg ht] at q
    refine ⟨_, rfl, _, _, rfl, ix1, by decide +kernel, a, 44, rfl, pa, ?_⟩
    cases a
    case str x =>
      refine ⟨textB (.str x) 44, rfl, ?_⟩
      have sz : x.cps.size ≤ 100000 := by simpa [plain] using pa
      cases ht : textB (.str x) 44 with
      | false => simp [signB, ht] at q; exact q
      | true =>
        refine ⟨_, rfl, _, _, rfl, ix1, ?_⟩
        refine ⟨decide (x = ""), rfl, ?_⟩
        by_cases he : x = ""
        · rw [decide_eq_true he]
          simp [signB, he] at q
          exact q
        · rw [decide_eq_false he]
          simp [signB, he, ht] at q
          refine ⟨_, rfl, _, _, rfl, ix1, _, rfl, _, _, rfl, ix1, 1, rfl, small sz, _, _, rfl, rfl, ?_⟩
          have lz : (pairs (DL.signs x) (DL.signs (L2.cutS x (some 1) none))).length ≤ sizeLine := by
            unfold pairs DL.signs
            rw [List.length_map, List.length_zip, List.length_map, Array.length_toList]
            exact Nat.le_trans (Nat.min_le_left _ _) (small sz)
          refine lc_map (fun d => match d with | .tup [.str a, .str b] => .bl (decide (a.cps.toList < b.cps.toList)) | _ => .non) (by exact trivial) _ [] ?_ (by simpa using lz) ?_
          · intro d hd K1 K2 hk
            unfold pairs DL.signs at hd
            obtain ⟨p, hp, rfl⟩ := List.mem_map.mp hd
            obtain ⟨h1, h2⟩ := List.of_mem_zip hp
            obtain ⟨c1, _, e1⟩ := List.mem_map.mp h1
            obtain ⟨c2, _, e2⟩ := List.mem_map.mp h2
            obtain ⟨p1, p2⟩ := p
            subst e1 e2
            exact ⟨_, rfl, rfl, _, _, rfl, _, _, rfl, rfl, _, rfl, _, rfl, hk⟩
          · refine ⟨_, ((x.cps.toList.map fun c => (⟨#[c]⟩ : Str)).zip (x.cps.toList.tail.map fun c => (⟨#[c]⟩ : Str))).map (fun p => decide (p.1.cps.toList < p.2.cps.toList)), rfl, ?_, ?_⟩
            · show some _ = some _
              unfold pairs DL.signs
              rw [cutS1, List.nil_append, List.map_map, List.map_map]
              have z : ∀ l m : List Nat, (l.map fun c => D.str ⟨#[c]⟩).zip (m.map fun c => D.str ⟨#[c]⟩) = ((l.map fun c => (⟨#[c]⟩ : Str)).zip (m.map fun c => (⟨#[c]⟩ : Str))).map fun p => (D.str p.1, D.str p.2) := by
                intro l
                induction l with
                | nil => intro m; rfl
                | cons a l ih =>
                  intro m
                  cases m with
                  | nil => rfl
                  | cons b m => simp [ih m]
              rw [z, List.map_map]
              exact congrArg some (List.map_congr_left fun p _ => rfl)
            · rw [List.all_map, show (id ∘ fun p : Str × Str => decide (p.1.cps.toList < p.2.cps.toList)) = fun p => decide (p.1.cps.toList < p.2.cps.toList) from rfl, asc_zip]
              exact q
    all_goals
      refine ⟨_, rfl, ?_⟩
      simp [signB] at q
      exact q

mutual
/-- plain data of a bounded size -/
def gd : DL.D → Bool
  | .non => true
  | .bl _ => true
  | .int i => decide (i.natAbs.log2 < 1900)
  | .str x => decide (x.cps.size ≤ 100000) && x.cps.toList.all fun c => decide (c < 128)
  | .tup xs => decide (xs.length ≤ 100000) && gdAll xs
  | .lst xs => decide (xs.length ≤ 100000) && gdAll xs
  | _ => false
def gdAll : List DL.D → Bool
  | [] => true
  | x :: xs => gd x && gdAll xs
end
theorem gdAll_iff : ∀ {xs : List DL.D}, gdAll xs = true ↔ ∀ x ∈ xs, gd x = true
  | [] => by simp [gdAll]
  | x :: xs => by simp [gdAll, gdAll_iff (xs := xs)]
theorem gd_tup {xs : List DL.D} : gd (.tup xs) = true ↔ xs.length ≤ 100000 ∧ ∀ x ∈ xs, gd x = true := by
  simp [gd, gdAll_iff]
theorem gd_lst {xs : List DL.D} : gd (.lst xs) = true ↔ xs.length ≤ 100000 ∧ ∀ x ∈ xs, gd x = true := by
  simp [gd, gdAll_iff]
theorem gd_str {x : Str} : gd (.str x) = true ↔ x.cps.size ≤ 100000 ∧ ∀ c ∈ x.cps.toList, c < 128 := by
  rw [gd, Bool.and_eq_true, decide_eq_true_eq, List.all_eq_true]
  simp only [decide_eq_true_eq]
theorem gd_plain {v : DL.D} (h : gd v = true) : plain v = true := by
  cases v <;> first | rfl | (simp [gd] at h; done) | skip
  simp only [plain]
  exact decide_eq_true (gd_str.mp h).1
abbrev LV : List Str := ["text", "sign"]
abbrev PR : List Str := ["cat", "or"]
abbrev WD : List Str := ["text", "sign", "cat", "or", "star"]
def nodeB : DL.D → Bool
  | .tup [.str t, a] => if t ∈ LV then leafB t a else decide (t = "star")
  | .tup [.str t, _, _] => decide (t ∈ PR)
  | _ => false
def sp_node : DSp := fun ds M Q => ∃ v, ds = [v] ∧ gd v = true ∧ Q (.bl (nodeB v)) M
theorem rd_node : ∀ ds M Q, sp_node ds M Q → ds.length = 1 ∧ r_is_node sp_tuple sp_word sp_leaf { nx := fun _ M' => Q .non M', rt := Q } (dstart N_is_node ds) M := by
  rintro _ M Q ⟨v, rfl, gv, q⟩
  refine ⟨rfl, ?_⟩
  refine ⟨_, rfl, v, 2, 3, rfl, gd_plain gv, _, rfl, ?_⟩
  have no : ∀ w : DL.D, tupB w 2 3 = false → nodeB w = false := by
    intro w h
    unfold nodeB
    split <;> first | rfl | (simp [tupB] at h)
  by_cases ht : tupB v 2 3 = true
  case neg =>
    have ht := Bool.eq_false_iff.mpr ht
    rw [ht]
    rw [no v ht] at q
    exact q
  rw [ht]
  cases v <;> first | (simp [tupB] at ht; done) | skip
  rename_i xs
  obtain ⟨gl, ga⟩ := gd_tup.mp gv
  simp only [tupB, Bool.and_eq_true, decide_eq_true_eq] at ht
  cases xs with
  | nil => simp at ht
  | cons x r =>
    have px := gd_plain (ga x List.mem_cons_self)
    refine ⟨_, rfl, _, _, rfl, ix0, x, WD, rfl, px, _, rfl, ?_⟩
    by_cases hw : inTx x WD = true
    case neg =>
      have hw := Bool.eq_false_iff.mpr hw
      rw [hw]
      have : nodeB (.tup (x :: r)) = false := by
        unfold nodeB
        split
        · rename_i t a e
          cases e
          simp [inTx] at hw
          simp [hw]
        · rename_i t a b e
          cases e
          simp [inTx] at hw
          simp [hw]
        · rfl
      rw [this] at q
      exact q
    rw [hw]
    cases x <;> first | (simp [inTx] at hw; done) | skip
    rename_i t
    have ht2 : t ∈ WD := by simpa [inTx] using hw
    clear hw
    refine ⟨_, rfl, _, rfl, ?_⟩
    refine op_in_texts PR rfl (fun Q' h => ⟨_, rfl, _, _, rfl, ix0, h⟩) ?_
    refine ⟨decide (t ∈ PR), rfl, ?_⟩
    have three : ∀ n : Int, n = (if t ∈ PR then 3 else 2) → (dIf (fun _ M1 Q => Q (decide (t ∈ PR)) M1) (dC v_TRIPLE) (dC v_PAIR)) [] M (fun y M2 => y = .int n) := by
      intro n hn
      show (if decide (t ∈ PR) = true then _ else _)
      by_cases h : t ∈ PR <;> simp [h] at hn ⊢ <;> subst hn <;> rfl
    have leaf : ∀ a, r = [a] → t ∈ LV → Q (.bl (leafB t a)) M := by
      rintro a rfl hl
      simpa [nodeB, hl] using q
    rcases r with _ | ⟨a, _ | ⟨b, _ | ⟨c, r⟩⟩⟩
    · simp at ht
    · by_cases hp : t ∈ PR
      · rw [decide_eq_true hp]
        have : nodeB (.tup [.str t, a]) = false := by
          have h2 : t ∉ LV := by
            simp at hp ⊢
            rcases hp with rfl | rfl <;> decide
          have h3 : t ≠ "star" := by
            simp at hp
            rcases hp with rfl | rfl <;> decide
          simp [nodeB, h2, h3]
        rw [this] at q
        exact ⟨true, rfl, q⟩
      · rw [decide_eq_false hp]
        refine ⟨false, rfl, ?_⟩
        show dOp (DL.rInD true) (dOp DL.rIxD (dSlot 0) (dC (.int 0))) (dC v_LEAVES) (dstart N_is_node _) M _
        refine op_in_texts LV rfl (fun Q' h => ⟨_, rfl, _, _, rfl, ix0, h⟩) ?_
        by_cases hl : t ∈ LV
        · simp only [hl, decide_true, Bool.not_true, if_true]
          exact ⟨false, rfl, _, rfl, t, a, [], rfl, gd_plain (ga a (by simp)), leaf a rfl hl⟩
        · simp only [hl, decide_false, Bool.not_false, if_true]
          have h3 : t = "star" := by
            simp at ht2 hp hl
            rcases ht2 with h | h | h | h | h <;> first | exact h | (simp [h] at hl; done) | (simp [h] at hp; done)
          have e : nodeB (.tup [.str t, a]) = true := by
            rw [nodeB, if_neg hl]
            exact decide_eq_true h3
          rw [e] at q
          exact ⟨true, rfl, q⟩
    · by_cases hp : t ∈ PR
      · rw [decide_eq_true hp]
        refine ⟨false, rfl, ?_⟩
        show dOp (DL.rInD true) (dOp DL.rIxD (dSlot 0) (dC (.int 0))) (dC v_LEAVES) (dstart N_is_node _) M _
        refine op_in_texts LV rfl (fun Q' h => ⟨_, rfl, _, _, rfl, ix0, h⟩) ?_
        have h2 : t ∉ LV := by
          simp at hp ⊢
          rcases hp with rfl | rfl <;> decide
        simp only [h2, decide_false, Bool.not_false, if_true]
        refine ⟨true, rfl, ?_⟩
        simpa [nodeB, hp] using q
      · rw [decide_eq_false hp]
        simp only [nodeB, hp, decide_false] at q
        exact ⟨true, rfl, q⟩
    · simp at ht
      omega
def partsB : DL.D → List DL.D
  | .tup (.str t :: r) => if t ∈ LV then [] else r
  | _ => []
def sp_parts : DSp := fun ds M Q => ∃ t r, ds = [.tup (.str t :: r)] ∧ r.length ≤ 100000 ∧ Q (.tup (partsB (.tup (.str t :: r)))) M
theorem rd_parts : ∀ ds M Q, sp_parts ds M Q → ds.length = 1 ∧ r_parts_of { nx := fun _ M' => Q .non M', rt := Q } (dstart N_parts_of ds) M := by
  rintro _ M Q ⟨t, r, rfl, hz, q⟩
  refine ⟨rfl, ?_⟩
  refine op_in_texts LV rfl (fun Q' h => ⟨_, rfl, _, _, rfl, ix0, h⟩) ?_
  refine ⟨decide (t ∈ LV), rfl, ?_⟩
  by_cases h : t ∈ LV
  · simp only [h, decide_true, if_true]
    refine ⟨Nat.zero_le _, ?_⟩
    simpa [partsB, h] using q
  · simp only [h, decide_false, Bool.false_eq_true, if_false]
    refine ⟨_, rfl, 1, rfl, ?_⟩
    show Q (.tup (DL.cutD (D.str t :: r) (some 1) none)) M
    rw [cut1]
    simpa [partsB, h] using q

/-! ### is_type -/
/-- the nodes, as the law counts them: to a depth -/
def countT : Nat → DL.D → Nat
  | 0, _ => 1000
  | n + 1, v => if nodeB v = true then 1 + ((partsB v).map (countT n)).sum else 1000
theorem countT_pos : ∀ (n : Nat) (v : DL.D), 1 ≤ countT n v
  | 0, _ => by simp [countT]
  | n + 1, v => by
    unfold countT
    split <;> omega
mutual
def dep : DL.D → Nat
  | .tup xs => depAll xs + 1
  | .lst xs => depAll xs + 1
  | _ => 0
def depAll : List DL.D → Nat
  | [] => 0
  | x :: xs => max (dep x) (depAll xs)
end
theorem depAll_le {n : Nat} : ∀ {xs : List DL.D}, depAll xs ≤ n ↔ ∀ x ∈ xs, dep x ≤ n
  | [] => by simp [depAll]
  | x :: xs => by simp [depAll, Nat.max_le, depAll_le (xs := xs)]
mutual
theorem py_gd : ∀ (v : DL.D), gd v = true → ∃ p, v.py = some p ∧ p.showable = true ∧ p.canLay0 = true ∧ p.depth = dep v
  | .non, _ => ⟨.none, rfl, rfl, rfl, rfl⟩
  | .bl b, _ => ⟨.bool b, rfl, rfl, rfl, rfl⟩
  | .int i, h => by
    have h' : i.natAbs.log2 < 1900 := by simpa [gd] using h
    refine ⟨.int i, rfl, ?_, rfl, rfl⟩
    simp [PyData.showable]; omega
  | .str x, h => by
    refine ⟨.str x, rfl, rfl, ?_, rfl⟩
    have h' := (gd_str.mp h).2
    simp only [PyData.canLay0, PyData.strOk]
    rw [← Array.all_toList]
    exact List.all_eq_true.mpr fun c hc => by
      have := h' c hc
      simp; omega
  | .tup xs, h => by
    obtain ⟨ps, e, h1, h2, h3⟩ := pyAll_gd xs (gd_tup.mp h).2
    exact ⟨.tuple ps, by simp [D.py, e], by simpa [PyData.showable] using h1, by simpa [PyData.canLay0] using h2, by simp [PyData.depth, dep, h3]⟩
  | .lst xs, h => by
    obtain ⟨ps, e, h1, h2, h3⟩ := pyAll_gd xs (gd_lst.mp h).2
    exact ⟨.list ps, by simp [D.py, e], by simpa [PyData.showable] using h1, by simpa [PyData.canLay0] using h2, by simp [PyData.depth, dep, h3]⟩
  | .slst xs, h => by simp [gd] at h
  | .ref a, h => by simp [gd] at h
  | .dct a b, h => by simp [gd] at h
theorem pyAll_gd : ∀ (xs : List DL.D), (∀ x ∈ xs, gd x = true) → ∃ ps, pyAll xs = some ps ∧ PyData.showableAll ps = true ∧ PyData.canLayAll0 ps = true ∧ PyData.depthAll ps = depAll xs
  | [], _ => ⟨[], rfl, rfl, rfl, rfl⟩
  | x :: xs, h => by
    obtain ⟨p, e, h1, h2, h3⟩ := py_gd x (h x List.mem_cons_self)
    obtain ⟨ps, e', g1, g2, g3⟩ := pyAll_gd xs fun y hy => h y (List.mem_cons_of_mem _ hy)
    exact ⟨p :: ps, by simp [pyAll, e, e'], by simp [PyData.showableAll, h1, g1], by simp [PyData.canLayAll0, h2, g2], by simp [PyData.depthAll, depAll, h3, g3]⟩
end

def pr (p : DL.D × Nat) : DL.D := .tup [p.1, .int p.2]
def need (st : List (DL.D × Nat)) : Nat := (st.map fun p => countT (31 - p.2) p.1).sum
theorem newTr {ds : List DL.D} {M : Mp} {Q : DK} (h : Q (.lst ds) M) : newL true ds M Q := h
theorem ne_nil {M : Mp} {a : Addr} {xs : List DL.D} {Q : DK} (h : M a = some (.lst xs)) (g : ∀ x ∈ xs, gd x = true) (d : depAll xs ≤ 63) (q : Q (.bl (!xs.isEmpty)) M) : rEqD2 true (.ref a) (.lst []) M Q := by
  obtain ⟨ps, e, h1, h2, h3⟩ := pyAll_gd xs g
  refine ⟨.list ps, .list [], ?_, rfl, ?_, by decide, ?_⟩
  · show (match mol (M a) with | some xs => _ | none => none) = _
    rw [h]
    show (match pyAll xs with | some ps => some (PyData.list ps) | none => none) = _
    rw [e]
  · unfold SeqAt.shaped
    simp only [PyData.canLay0, PyData.depth, h2, h3, Bool.true_and, decide_eq_true_eq]
    omega
  · have : PyData.eqv (.list ps) (.list []) = xs.isEmpty := by
      cases xs with
      | nil => simp [pyAll] at e; subst e; rfl
      | cons x xs =>
        simp only [pyAll] at e
        split at e
        · cases e; rfl
        · cases e
    rw [if_pos rfl, this]
    exact q
theorem node_shape {v : DL.D} (h : nodeB v = true) : ∃ t r, v = .tup (.str t :: r) ∧ r.length ≤ 2 ∧ 1 ≤ r.length := by
  unfold nodeB at h
  split at h
  · exact ⟨_, _, rfl, by simp, by simp⟩
  · exact ⟨_, _, rfl, by simp, by simp⟩
  · cases h
theorem parts_mem {v x : DL.D} (h : x ∈ partsB v) : ∃ t r, v = .tup (.str t :: r) ∧ x ∈ r := by
  unfold partsB at h
  split at h
  · split at h
    · simp at h
    · exact ⟨_, _, rfl, h⟩
  · simp at h
theorem parts_gd {v x : DL.D} (gv : gd v = true) (h : x ∈ partsB v) : gd x = true ∧ dep x + 1 ≤ dep v := by
  obtain ⟨t, r, rfl, hx⟩ := parts_mem h
  refine ⟨(gd_tup.mp gv).2 x (List.mem_cons_of_mem _ hx), ?_⟩
  have := (depAll_le (n := depAll (.str t :: r))).mp (Nat.le_refl _) x (List.mem_cons_of_mem _ hx)
  simp only [dep]
  omega
def sp_type1 : DSp := fun ds M Q => ∃ v, ds = [v] ∧ gd v = true ∧ dep v ≤ 60 ∧ ∀ M', SubM M M' → Q (.bl (decide (countT 30 v ≤ 120))) M'
def StOk (st : List (DL.D × Nat)) (k : Nat) : Prop := (∀ p ∈ st, gd p.1 = true ∧ dep p.1 ≤ 60 ∧ p.2 ≤ 31) ∧ st.length ≤ k + 1
theorem sum_append (l m : List Nat) : (l ++ m).sum = l.sum + m.sum := by simp
theorem rd_type : ∀ ds M Q, sp_type1 ds M Q → ds.length = 1 ∧ r_is_type sp_node sp_parts { nx := fun _ M' => Q .non M', rt := Q } (dstart N_is_type ds) M := by
  rintro _ M Q ⟨v, rfl, gv, dv, q⟩
  refine ⟨rfl, ?_⟩
  refine ⟨v, rfl, small (by simp), small (by simp), ?_⟩
  intro a ha
  refine ⟨_, _, rfl, ?_⟩
  refine ⟨fun m ρ M' => ∃ st k x3 x4 x5, ρ = [some v, some (.ref a), some (.int (k : Nat)), x3, x4, x5] ∧ M' = mu M a (.lst (st.map pr)) ∧ k ≤ 120 ∧ m = 121 - k ∧ StOk st k ∧ (countT 30 v ≤ 120 ↔ k + need st ≤ 120),
    ⟨121, [(v, 1)], 0, none, none, none, rfl, rfl, by omega, rfl, ⟨fun p hp => by simp at hp; subst hp; exact ⟨gv, dv, by omega⟩, by simp⟩, by simp [need]⟩, ?_⟩
  rintro m ρ M' ⟨st, k, x3, x4, x5, rfl, rfl, hk, rfl, ⟨ok, len⟩, iff⟩
  have sub : ∀ o, SubM M (mu M a o) := fun o => (SubM.refl M).mu ha o
  refine ⟨.ref a, rfl, Nat.zero_le _, ?_⟩
  refine newTr (ne_nil mu_same ?_ ?_ ?_)
  · intro x hx
    obtain ⟨p, hp, rfl⟩ := List.mem_map.mp hx
    obtain ⟨h1, _, h3⟩ := ok p hp
    refine gd_tup.mpr ⟨by simp, fun y hy => ?_⟩
    simp at hy
    rcases hy with rfl | rfl
    · exact h1
    · have : p.2.log2 ≤ p.2 := Nat.log2_le_self _
      simp [gd]
      omega
  · refine depAll_le.mpr fun x hx => ?_
    obtain ⟨p, hp, rfl⟩ := List.mem_map.mp hx
    have := (ok p hp).2.1
    simp [pr, dep, depAll]
    omega
  refine ⟨_, rfl, ?_⟩
  rcases List.eq_nil_or_concat st with rfl | ⟨st', ⟨node, deep⟩, e0⟩
  · -- nothing waits
    have e : countT 30 v ≤ 120 := by rw [iff]; simp [need]; exact hk
    have q1 := q _ (sub (.lst ([].map pr)))
    rw [decide_eq_true e] at q1
    exact q1
  · rw [List.concat_eq_append] at e0
    subst e0
    have hne : ((st' ++ [(node, deep)]).map pr).isEmpty = false := by simp
    rw [hne]
    obtain ⟨gn, dn, hd⟩ := ok (node, deep) (by simp)
    dsimp only at gn dn hd
    have need1 : need (st' ++ [(node, deep)]) = need st' + countT (31 - deep) node := by unfold need; rw [List.map_append, sum_append]; simp
    have cp := countT_pos (31 - deep) node
    refine ⟨fun ρ' M' => ∃ m', m' < 121 - k ∧ ∃ st k x3 x4 x5, ρ' = [some v, some (.ref a), some (.int (k : Nat)), x3, x4, x5] ∧ M' = mu M a (.lst (st.map pr)) ∧ k ≤ 120 ∧ m' = 121 - k ∧ StOk st k ∧ (countT 30 v ≤ 120 ↔ k + need st ≤ 120), fun ρ' M' h => h, ?_⟩
    have e1 : (st' ++ [(node, deep)]).map pr = st'.map pr ++ [pr (node, deep)] := by simp
    rw [e1]
    refine ⟨.ref a, rfl, by show (mol (mu M a _ a)).isSome = true; rw [mu_same]; rfl, a, _, pr (node, deep), rfl, rfl, mu_same, by simp, ?_⟩
    rw [List.dropLast_concat, mu_mu]
    refine ⟨_, rfl, rfl, _, _, rfl, _, _, rfl, rfl, ?_⟩
    refine ⟨_, rfl, ?_⟩
    -- nodes, deep, is_node
    have out : ¬ (countT 30 v ≤ 120) → ∀ o, Q (.bl false) (mu M a o) := fun h o => by
      have q1 := q _ (sub o)
      rw [decide_eq_false h] at q1
      exact q1
    refine ⟨_, rfl, _, _, rfl, rfl, trivial, _, rfl, ?_⟩
    by_cases h1 : (120 : Int) < (k : Int) + 1
    · rw [decide_eq_true h1]
      exact out (by omega) _
    rw [decide_eq_false h1]
    refine ⟨_, rfl, _, _, rfl, rfl, trivial, _, rfl, ?_⟩
    by_cases h2 : (30 : Int) < (deep : Int)
    · rw [decide_eq_true h2]
      have : countT (31 - deep) node = 1000 := by rw [show 31 - deep = 0 by omega]; rfl
      exact out (by omega) _
    rw [decide_eq_false h2]
    refine ⟨_, rfl, node, rfl, gn, _, rfl, ?_⟩
    obtain ⟨n, hn⟩ : ∃ n, 31 - deep = n + 1 := ⟨30 - deep, by omega⟩
    cases hb : nodeB node with
    | false =>
      have : countT (31 - deep) node = 1000 := by rw [hn]; unfold countT; rw [if_neg (by rw [hb]; decide)]
      exact out (by omega) _
    | true =>
      obtain ⟨t, r, rfl, r2, _⟩ := node_shape hb
      have cnt : countT (31 - deep) (.tup (.str t :: r)) = 1 + ((partsB (.tup (.str t :: r))).map (countT n)).sum := by
        rw [hn]
        show (if nodeB _ = true then _ else _) = _
        rw [if_pos hb]
      have pl : (partsB (.tup (.str t :: r))).length ≤ 2 := by
        show (if t ∈ LV then [] else r).length ≤ 2
        split
        · simp
        · exact r2
      refine ⟨.ref a, rfl, by show (mol (mu M a _ a)).isSome = true; rw [mu_same]; rfl, ?_⟩
      refine ⟨_, rfl, t, r, rfl, by omega, ?_⟩
      refine lc_map (fun d => .tup [d, .int ((deep : Int) + 1)]) trivial _ [] ?_ (small (by simp; omega)) ?_
      · intro x hx K1 K2 hk
        exact ⟨_, rfl, _, rfl, small (by simp), hk⟩
      · refine ⟨a, _, _, _, rfl, rfl, mu_same, rfl, ?_, ?_⟩
        · simp at len ⊢
          exact small (by omega)
        · rw [mu_mu]
          refine ⟨_, ?_, st' ++ (partsB (.tup (.str t :: r))).map fun x => (x, deep + 1), k + 1, _, _, _, rfl, ?_, by omega, rfl, ⟨?_, ?_⟩, ?_⟩
          · omega
          · refine congrArg (fun l => mu M a (.lst l)) ?_
            rw [List.map_append, List.map_map, List.nil_append]
            rfl
          · intro p hp
            rcases List.mem_append.mp hp with z | z
            · exact ok p (by simp [z])
            · obtain ⟨x, hx, rfl⟩ := List.mem_map.mp z
              obtain ⟨g1, g2⟩ := parts_gd gn hx
              dsimp only
              exact ⟨g1, by omega, by omega⟩
          · simp at len ⊢
            omega
          · rw [iff, need1, cnt]
            have : need (st' ++ (partsB (.tup (.str t :: r))).map fun x => (x, deep + 1)) = need st' + ((partsB (.tup (.str t :: r))).map (countT n)).sum := by
              unfold need
              rw [List.map_append, sum_append, List.map_map]
              have : (fun p : DL.D × Nat => countT (31 - p.2) p.1) ∘ (fun x => (x, deep + 1)) = countT n := by
                funext x
                show countT (31 - (deep + 1)) x = _
                rw [show 31 - (deep + 1) = n by omega]
              rw [this]
            rw [this]
            omega
end K01

/-! K01c: the law's own look, and that it tells the same. -/
namespace K01
open PySem PySem.Spec DL
open L2 (atI ixN)
open PyProof.Rows hiding St signs

def sp_signs : DSp := fun ds M Q => ds = [] ∧ Q (.str SIG) M
theorem rd_signs : ∀ ds M Q, sp_signs ds M Q → ds.length = 0 ∧ r__law_signs { nx := fun _ M' => Q .non M', rt := Q } (dstart N__law_signs ds) M := by
  rintro _ M Q ⟨rfl, q⟩
  exact ⟨rfl, q⟩
def textA (v : DL.D) : Bool := match v with
  | .str x => x.cps.toList.all okSign
  | _ => false
def sp_ltext : DSp := fun ds M Q => ∃ v, ds = [v] ∧ plain v = true ∧ Q (.bl (textA v)) M
theorem rd_ltext : ∀ ds M Q, sp_ltext ds M Q → ds.length = 1 ∧ r__law_is_text sp_signs { nx := fun _ M' => Q .non M', rt := Q } (dstart N__law_is_text ds) M := by
  rintro _ M Q ⟨v, rfl, pv, q⟩
  refine ⟨rfl, ?_⟩
  cases v
  case str x =>
    have sz : x.cps.size ≤ 100000 := by simpa [plain] using pv
    refine ⟨_, rfl, _, rfl, true, rfl, ?_⟩
    refine ⟨_, rfl, ?_⟩
    refine lc_map (fun d => match d with | .str s => .bl (s.cps.toList.all okSign) | _ => .non) (by exact trivial) _ [] ?_ (by unfold DL.signs; simpa using small sz) ?_
    · intro d hd K1 K2 hk
      obtain ⟨c, hc, rfl⟩ := List.mem_map.mp hd
      refine ⟨_, rfl, rfl, c, rfl, ?_⟩
      simpa [okSign] using hk
    · refine ⟨_, x.cps.toList.map okSign, rfl, ?_, ?_⟩
      · show some _ = some _
        unfold DL.signs
        rw [List.nil_append, List.map_map, List.map_map]
        refine congrArg some (List.map_congr_left fun c _ => ?_)
        simp
      · rw [List.all_map]; exact q
  all_goals first | (simp [plain] at pv; done) | (simp [textA] at q; simp [dstart, dRet, dAndV, dOrV, dNotV, dIsi, dSlot, tyD, isiB, dChain, rInt, dCB, DL.rLen, dCons, dNil, seqOf, lstOf, lstIn, mol, dSeq, dIfS, dAsg, dgName, dgTup, dgCons, dgNil, dPar, dC, dB, dNotT, dAndT, dOrT, dOp, rEqD2, DL.rLtD, DL.rInD, DL.rIxD, dCall, dIf, dTup, dLst, dNext, dDrop, r__law_is_text]; exact q)
def TS : List (Str × Int) := [("text", 2), ("sign", 2), ("star", 2), ("cat", 3), ("or", 3)]
/-- sizes -/
def sizeOf? (t : Str) : Option Nat := if t = "text" ∨ t = "sign" ∨ t = "star" then some 2 else if t = "cat" ∨ t = "or" then some 3 else none
theorem lk_size (t : Str) : lkD (.inr t) (TS.map fun kv => Sum.inr kv.1) (TS.map fun kv => .int kv.2) = (sizeOf? t).map fun n => D.int (n : Nat) := by
  unfold sizeOf? TS
  by_cases h1 : t = "text"
  · subst h1; rfl
  by_cases h2 : t = "sign"
  · subst h2; rfl
  by_cases h3 : t = "star"
  · subst h3; rfl
  by_cases h4 : t = "cat"
  · subst h4; rfl
  by_cases h5 : t = "or"
  · subst h5; rfl
  simp [h1, h2, h3, h4, h5, lkD, Ne.symm h1, Ne.symm h2, Ne.symm h3, Ne.symm h4, Ne.symm h5]
theorem nodup_len {α : Type} [BEq α] [LawfulBEq α] : ∀ {ks l : List α}, ks.Nodup → (∀ k ∈ ks, k ∈ l) → ks.length ≤ l.length
  | [], _, _, _ => Nat.zero_le _
  | x :: r, l, nd, sub => by
    obtain ⟨n1, n2⟩ := List.nodup_cons.mp nd
    have hx := sub x List.mem_cons_self
    have ih := nodup_len (l := l.erase x) n2 fun k hk => (List.mem_erase_of_ne fun e => n1 (by rw [← e]; exact hk)).mpr (sub k (List.mem_cons_of_mem _ hk))
    have := List.length_erase_of_mem hx
    have := List.length_pos_of_mem hx
    simp only [List.length_cons]
    omega
theorem le44 {x : Str} (h : textA (.str x) = true) {ks : List Str} (nd : ks.Nodup) (sub : ∀ k ∈ ks, k ∈ PyProof.Rows.signs x) : ks.length ≤ 44 := by
  have h' : ∀ k ∈ ks, k ∈ SIG.cps.toList.map sg := by
    intro k hk
    have := sub k hk
    rw [sg_eq] at this
    obtain ⟨c, hc, rfl⟩ := List.mem_map.mp this
    have hs : okSign c = true := List.all_eq_true.mp h c hc
    exact List.mem_map.mpr ⟨c, of_decide_eq_true hs, rfl⟩
  have l : ks.length ≤ (SIG.cps.toList.map sg).length := nodup_len nd h'
  have : (SIG.cps.toList.map sg).length = 44 := by rw [List.length_map]; decide +kernel
  omega
theorem few_sig {x : Str} (h : textA (.str x) = true) : Few (PyProof.Rows.signs x) := fun ks nd sub => by
  have := le44 h nd sub
  omega
theorem map_sg_nodup : ∀ {ms : List Nat}, ms.Nodup → (ms.map sg).Nodup
  | [], _ => .nil
  | m :: ms, h => by
    obtain ⟨n1, n2⟩ := List.nodup_cons.mp h
    refine List.nodup_cons.mpr ⟨fun z => ?_, map_sg_nodup n2⟩
    obtain ⟨c, hc, e⟩ := List.mem_map.mp z
    exact n1 (sg_inj e ▸ hc)
theorem asc_short {x : Str} (h : textA (.str x) = true) (a : asc x.cps.toList = true) : x.cps.size ≤ 44 := by
  have nd : x.cps.toList.Nodup := (asc_pw a).imp fun h => Nat.ne_of_lt h
  have := le44 h (map_sg_nodup nd) fun k hk => by rw [sg_eq]; exact hk
  rw [List.length_map, Array.length_toList] at this
  exact this
theorem sg_sum : ∀ ms : List Nat, ((ms.map sg).map (·.length)).sum = ms.length
  | [] => rfl
  | m :: ms => by
    rw [List.map_cons, List.map_cons, List.sum_cons, sg_sum ms, List.length_cons]
    show 1 + _ = _
    omega
theorem rd_lnode : ∀ ds M Q, sp_node ds M Q → ds.length = 1 ∧ r__law_is_node sp_ltext { nx := fun _ M' => Q .non M', rt := Q } (dstart N__law_is_node ds) M := by
  rintro _ M Q ⟨v, rfl, gv, q⟩
  refine ⟨rfl, ?_⟩
  by_cases hv : ∃ xs, v = .tup xs
  case neg =>
    have e : nodeB v = false := by
      unfold nodeB
      split <;> first | rfl | exact absurd ⟨_, rfl⟩ hv
    rw [e] at q
    cases v
    case tup xs => exact absurd ⟨xs, rfl⟩ hv
    case ref a => simp [gd] at gv
    all_goals exact ⟨_, rfl, _, rfl, false, rfl, q⟩
  obtain ⟨xs, rfl⟩ := hv
  obtain ⟨gl, ga⟩ := gd_tup.mp gv
  refine ⟨_, rfl, _, rfl, true, rfl, ?_⟩
  refine ⟨_, rfl, xs, rfl, decide ((xs.length : Int) < 2), rfl, ?_⟩
  rcases xs with _ | ⟨x, _ | ⟨a, r⟩⟩
  · exact q
  · have e : nodeB (.tup [x]) = false := by unfold nodeB; split <;> first | rfl | (rename_i e; cases e)
    rw [e] at q
    exact q
  have h2 : ¬ (((x :: a :: r).length : Nat) : Int) < 2 := by simp; omega
  rw [decide_eq_false h2]
  refine ⟨_, rfl, _, _, rfl, ix0, ?_⟩
  by_cases hx : ∃ t, x = .str t
  case neg =>
    have e : nodeB (.tup (x :: a :: r)) = false := by
      unfold nodeB
      split <;> first | rfl | (rename_i e; cases e; exact absurd ⟨_, rfl⟩ hx)
    rw [e] at q
    have gx := ga x List.mem_cons_self
    cases x
    case str t => exact absurd ⟨t, rfl⟩ hx
    case ref a => simp [gd] at gx
    all_goals exact ⟨_, rfl, false, rfl, q⟩
  obtain ⟨t, rfl⟩ := hx
  refine ⟨_, rfl, true, rfl, ?_⟩
  refine ⟨_, rfl, _, _, rfl, ix0, _, rfl, ?_⟩
  refine ⟨(sizeOf? t).isNone, ?_, ?_⟩
  · show D.bl (!(lkD (.inr t) (TS.map fun kv => Sum.inr kv.1) (TS.map fun kv => .int kv.2)).isSome) = _
    rw [lk_size]
    cases sizeOf? t <;> rfl
  have ga1 : gd a = true := ga a (by simp)
  cases hz : sizeOf? t with
  | none =>
    have e : nodeB (.tup (.str t :: a :: r)) = false := by
      unfold sizeOf? at hz
      split at hz
      · cases hz
      · split at hz
        · cases hz
        · rename_i h1 h2
          have h3 : t ∉ LV := fun h => h1 (by simp at h; rcases h with h | h <;> simp [h])
          have h4 : t ∉ PR := fun h => h2 (by simp at h; exact h)
          have h5 : t ≠ "star" := fun h => h1 (by simp [h])
          unfold nodeB
          split
          · rename_i e; cases e; rw [if_neg h3]; exact decide_eq_false h5
          · rename_i e; cases e; exact decide_eq_false h4
          · rfl
    rw [e] at q
    exact q
  | some n =>
    refine ⟨_, rfl, _, rfl, _, rfl, _, rfl, _, _, rfl, ix0, D.int (n : Nat), ?_, ?_⟩
    · show lkD (.inr t) (TS.map fun kv => Sum.inr kv.1) (TS.map fun kv => .int kv.2) = _
      rw [lk_size, hz]
      rfl
    refine ⟨!decide ((((.str t :: a :: r : List DL.D).length : Nat) : Int) = (n : Int)), rfl, ?_⟩
    by_cases hl : (((.str t :: a :: r : List DL.D).length : Nat) : Int) = (n : Int)
    case neg =>
      have e : nodeB (.tup (.str t :: a :: r)) = false := by
        unfold sizeOf? at hz
        unfold nodeB
        split
        · rename_i e; cases e
          split at hz
          · cases hz; simp at hl
          · split at hz
            · rename_i h1 h2
              have h3 : t ∉ LV := fun h => h1 (by simp at h; rcases h with h | h <;> simp [h])
              have h5 : t ≠ "star" := fun h => h1 (by simp [h])
              rw [if_neg h3]; exact decide_eq_false h5
            · cases hz
        · rename_i e; cases e
          split at hz
          · rename_i h1
            refine decide_eq_false fun h => ?_
            simp at h
            rcases h with rfl | rfl <;> exact absurd h1 (by decide +kernel)
          · split at hz
            · cases hz; simp at hl
            · cases hz
        · rfl
      rw [decide_eq_false hl]
      rw [e] at q
      exact q
    rw [decide_eq_true hl]
    refine ⟨_, rfl, _, _, rfl, ix0, decide (t = "text"), rfl, ?_⟩
    by_cases ht : t = "text"
    · subst ht
      cases hz
      have hr : r = [] := by
        have : r.length = 0 := by simp at hl; omega
        exact List.length_eq_zero_iff.mp this
      subst hr
      refine ⟨_, rfl, _, _, rfl, ix1, a, rfl, gd_plain ga1, textA a, rfl, ?_⟩
      have e : nodeB (.tup [.str "text", a]) = textB a 20 := rfl
      rw [e] at q
      cases hta : textA a with
      | false =>
        have : textB a 20 = false := by
          cases a <;> first | rfl | (simp only [textA] at hta; simp [textB, hta])
        rw [this] at q
        exact q
      | true =>
        cases a <;> first | (simp [textA] at hta; done) | skip
        rename_i x
        have sz := (gd_str.mp ga1).1
        have : textB (.str x) 20 = decide ((x.length : Int) ≤ 20) := by
          simp only [textA] at hta; simp [textB, hta]
        rw [this] at q
        exact ⟨_, rfl, _, _, rfl, ix1, small sz, _, _, rfl, rfl, trivial, q⟩
    · rw [decide_eq_false ht]
      refine ⟨_, rfl, _, _, rfl, ix0, decide (t = "sign"), rfl, ?_⟩
      by_cases hs : t = "sign"
      · subst hs
        cases hz
        have hr : r = [] := by
          have : r.length = 0 := by simp at hl; omega
          exact List.length_eq_zero_iff.mp this
        subst hr
        refine ⟨_, rfl, _, _, rfl, ix1, a, rfl, gd_plain ga1, textA a, rfl, ?_⟩
        have e : nodeB (.tup [.str "sign", a]) = signB a := rfl
        rw [e] at q
        cases hta : textA a with
        | false =>
          have : signB a = false := by
            cases a <;> first | rfl | (simp only [textA] at hta; simp [signB, textB, hta])
          rw [this] at q
          exact q
        | true =>
          cases a <;> first | (simp [textA] at hta; done) | skip
          rename_i x
          have sz := (gd_str.mp ga1).1
          refine ⟨_, rfl, _, _, rfl, ix1, !decide (x = ""), rfl, ?_⟩
          by_cases he : x = ""
          · have : signB (.str x) = false := by simp [signB, he]
            rw [this] at q
            rw [decide_eq_true he]
            exact q
          · rw [decide_eq_false he]
            refine ⟨_, rfl, _, rfl, _, _, rfl, ix1, _, .inl ⟨x, rfl, rfl⟩, few_sig hta, fun ys nd mem so => ?_⟩
            refine newTr ⟨ys, rfl, ?_, ?_⟩
            · have l := few_sig hta ys nd fun k hk => (mem k).mp hk
              obtain ⟨ms, rfl⟩ := sgs_of (ys := ys) fun y hy => by
                have := (mem y).mp hy
                rw [sg_eq] at this
                obtain ⟨c, _, e⟩ := List.mem_map.mp this
                exact ⟨c, e.symm⟩
              rw [sg_sum]
              rw [List.length_map] at l ⊢
              have : (Str.ofString "").length = 0 := rfl
              rw [this]
              omega
            · refine ⟨_, rfl, _, _, rfl, ix1, ?_⟩
              show Q (.bl (decide (Txt.join (Str.ofString "") ys = x))) M
              rw [sign_same x nd mem so]
              have : signB (.str x) = asc x.cps.toList := by
                cases ha : asc x.cps.toList with
                | false => simp [signB, ha]
                | true =>
                  have l := asc_short hta ha
                  have hta' : x.cps.toList.all okSign = true := hta
                  have l2 : (x.length : Int) ≤ 44 := by
                    have : x.length = x.cps.size := rfl
                    omega
                  simp only [signB, textB, ha, hta', he, Bool.and_true, Bool.true_and, decide_eq_true l2, decide_false, Bool.not_false]
              rw [← this]
              exact q
      · rw [decide_eq_false hs]
        have e : nodeB (.tup (.str t :: a :: r)) = true := by
          unfold sizeOf? at hz
          split at hz
          · rename_i h1
            cases hz
            have h3 : t = "star" := by
              rcases h1 with h | h | h
              · exact absurd h ht
              · exact absurd h hs
              · exact h
            have hr : r = [] := by
              have : r.length = 0 := by simp at hl; omega
              exact List.length_eq_zero_iff.mp this
            subst hr h3
            rfl
          · split at hz
            · rename_i g1 g2
              cases hz
              have : r.length = 1 := by simp at hl; omega
              obtain ⟨b, rfl⟩ := List.length_eq_one_iff.mp this
              refine decide_eq_true ?_
              simp
              exact g2
            · cases hz
        rw [e] at q
        exact q

/-! ### the law's is_type -/
def sp_lt (N : Nat) : DSp := fun ds M Q => ∃ v n, ds = [v, .int (n : Nat)] ∧ n < N ∧ gd v = true ∧ Q (.int (countT n v : Nat)) M
theorem nat_sum (l : List Nat) : ((l.map fun n : Nat => (n : Int)).sum) = (l.sum : Nat) := by
  induction l with
  | nil => rfl
  | cons a l ih => simp [ih]
theorem rd_lt (N : Nat) : ∀ ds M Q, sp_lt (N + 1) ds M Q → ds.length = 2 ∧ r__law_is_type sp_node (sp_lt N) { nx := fun _ M' => Q .non M', rt := Q } (dstart N__law_is_type ds) M := by
  rintro _ M Q ⟨v, n, rfl, hn, gv, q⟩
  refine ⟨rfl, ?_⟩
  refine ⟨_, rfl, decide ((n : Int) = 0), rfl, ?_⟩
  cases n with
  | zero => exact q
  | succ n =>
    have : ¬ (((n + 1 : Nat) : Int) = 0) := by omega
    rw [decide_eq_false this]
    refine ⟨_, rfl, v, rfl, gv, nodeB v, rfl, ?_⟩
    unfold countT at q
    cases hb : nodeB v with
    | false => rw [hb] at q; exact q
    | true =>
      rw [hb] at q
      obtain ⟨t, r, rfl, r2, _⟩ := node_shape hb
      show dOp (DL.rInD false) (dOp DL.rIxD (dSlot 0) (dC (.int 0))) (dTup (dCons (dC (.str "text")) (dCons (dC (.str "sign")) dNil))) (dstart N__law_is_type _) M _
      refine ⟨_, rfl, _, _, rfl, ix0, small (by simp), ?_⟩
      refine in_texts (neg := false) (ws := LV) ⟨decide (t ∈ LV), rfl, ?_⟩
      have e : partsB (.tup (.str t :: r)) = if t ∈ LV then [] else r := rfl
      rw [e] at q
      by_cases h : t ∈ LV
      · rw [decide_eq_true h]
        rw [if_pos h] at q
        exact q
      · rw [decide_eq_false h]
        rw [if_neg h] at q
        refine ⟨_, rfl, 1, rfl, ?_⟩
        show lcW (dgName 2) dYes _ _ _ _ (DL.cutD (D.str t :: r) (some 1) none) [] M
        rw [cut1, List.tail_cons]
        refine lc_map (fun d => .int (countT n d : Nat)) (by exact trivial) _ [] ?_ (small (by simp; omega)) ?_
        · intro x hx K1 K2 hk
          have gx := (gd_tup.mp gv).2 x (List.mem_cons_of_mem _ hx)
          refine ⟨_, rfl, _, rfl, _, _, rfl, rfl, trivial, x, n, ?_, by omega, gx, hk⟩
          show [x, D.int (((n + 1 : Nat) : Int) - 1)] = _
          rw [show (((n + 1 : Nat) : Int) - 1) = (n : Int) by omega]
        · refine ⟨_, (r.map fun d => ((countT n d : Nat) : Int)), rfl, ?_, ?_⟩
          · show some _ = some _
            rw [List.nil_append, List.map_map]
            rfl
          · show Q (.int (1 + _)) M
            have : (r.map fun d => ((countT n d : Nat) : Int)) = (r.map (countT n)).map fun n : Nat => (n : Int) := by rw [List.map_map]; rfl
            rw [this, nat_sum]
            simpa using q

/-! ### is_right -/
mutual
def wt : DL.D → Nat
  | .str x => x.cps.size
  | .tup xs => wtAll xs
  | .lst xs => wtAll xs
  | _ => 0
def wtAll : List DL.D → Nat
  | [] => 0
  | x :: xs => wt x + 1 + wtAll xs
end
mutual
theorem bulk_gd : ∀ (v : DL.D) (p : PyData), gd v = true → v.py = some p → p.bulk = wt v ∧ p.leavesShort 1921 = true
  | .non, _, _, h => by cases h; exact ⟨rfl, rfl⟩
  | .bl b, _, _, h => by cases h; exact ⟨rfl, rfl⟩
  | .int i, _, g, h => by
    cases h
    refine ⟨rfl, ?_⟩
    have g' : i.natAbs.log2 < 1900 := by simpa [gd] using g
    exact decide_eq_true (int_text_len_1921 (by omega))
  | .str x, _, g, h => by
    cases h
    refine ⟨rfl, ?_⟩
    exact List.all_eq_true.mpr fun c hc => decide_eq_true (by have := (gd_str.mp g).2 c hc; omega)
  | .tup xs, p, g, h => by
    simp only [D.py] at h
    split at h
    · rename_i ps e
      cases h
      obtain ⟨h1, h2⟩ := bulkAll_gd xs ps (gd_tup.mp g).2 e
      exact ⟨by simpa [PyData.bulk, wt] using h1, by simpa [PyData.leavesShort] using h2⟩
    · cases h
  | .lst xs, p, g, h => by
    simp only [D.py] at h
    split at h
    · rename_i ps e
      cases h
      obtain ⟨h1, h2⟩ := bulkAll_gd xs ps (gd_lst.mp g).2 e
      exact ⟨by simpa [PyData.bulk, wt] using h1, by simpa [PyData.leavesShort] using h2⟩
    · cases h
  | .slst xs, _, g, _ => by simp [gd] at g
  | .ref a, _, g, _ => by simp [gd] at g
  | .dct a b, _, g, _ => by simp [gd] at g
theorem bulkAll_gd : ∀ (xs : List DL.D) (ps : List PyData), (∀ x ∈ xs, gd x = true) → pyAll xs = some ps → PyData.bulkAll ps = wtAll xs ∧ PyData.leavesShortAll 1921 ps = true
  | [], _, _, h => by cases h; exact ⟨rfl, rfl⟩
  | x :: xs, ps, g, h => by
    simp only [pyAll] at h
    split at h
    · rename_i p ps' e e'
      cases h
      obtain ⟨h1, h2⟩ := bulk_gd x p (g x List.mem_cons_self) e
      obtain ⟨g1, g2⟩ := bulkAll_gd xs ps' (fun y hy => g y (List.mem_cons_of_mem _ hy)) e'
      exact ⟨by simp [PyData.bulkAll, wtAll, h1, g1], by simp [PyData.leavesShortAll, h2, g2]⟩
    · cases h
end
theorem pyM_gd {v : DL.D} {M : Mp} {p : PyData} (g : gd v = true) (h : v.py = some p) : pyM M v = some p := by
  cases v <;> first | exact h | (simp [gd] at g)
/-- repr of a value that is not too great -/
theorem repr_gd {v : DL.D} (g : gd v = true) (d : dep v ≤ 60) (wv : wt v ≤ 8000) : ∃ s : Str, ∀ (M : Mp) (Q : DK), Q (.str s) M → rReprD [v] M Q := by
  obtain ⟨p, e, h1, h2, h3⟩ := py_gd v g
  obtain ⟨b, l⟩ := bulk_gd v p g e
  refine ⟨p.shown, fun M Q q => ⟨v, p, rfl, pyM_gd g e, h1, by omega, ?_, q⟩⟩
  have := PyData.shown_le_bulk 1921 (by decide) p l
  rw [b] at this
  have m : (1921 + 2) * wt v ≤ (1921 + 2) * 8000 := Nat.mul_le_mul_left _ wv
  rw [sizeLine_eq]
  omega
theorem repr_op {v : DL.D} {s : Str} (hs : ∀ (M : Mp) (Q : DK), Q (.str s) M → rReprD [v] M Q) {t : DTE} {ρ : Rho} {M : Mp} {Q : DK} (ht : ∀ Q' : DK, Q' v M → t ρ M Q') (q : Q (.str s) M) : dCB rReprD (dCons t dNil) ρ M Q :=
  ht _ (hs M Q q)
def sp_type : DSp := fun ds M Q => ∃ v, ds = [v] ∧ gd v = true ∧ dep v ≤ 60 ∧ Q (.bl (decide (countT 30 v ≤ 120))) M
def Fair (v : DL.D) : Prop := gd v = true ∧ dep v ≤ 60 ∧ wt v ≤ 8000
def sp_right : DSp := fun ds M Q => ∃ v, ds = [v] ∧ Fair v ∧ Q (.bl true) M
theorem rd_right : ∀ ds M Q, sp_right ds M Q → ds.length = 1 ∧ r__law_is_right (sp_lt 31) sp_type { nx := fun _ M' => Q .non M', rt := Q } (dstart N__law_is_right ds) M := by
  rintro _ M Q ⟨v, rfl, ⟨gv, dv, wv⟩, q⟩
  refine ⟨rfl, ?_⟩
  obtain ⟨s, hs⟩ := repr_gd gv dv wv
  refine repr_op hs (fun Q' h => ⟨v, rfl, h⟩) ?_
  refine ⟨v, rfl, v, 30, rfl, by omega, gv, _, _, rfl, rfl, trivial, _, _, rfl, ?_⟩
  have e : decide (((countT 30 v : Nat) : Int) ≤ 120) = decide (countT 30 v ≤ 120) := by
    by_cases h : countT 30 v ≤ 120
    · rw [decide_eq_true h, decide_eq_true (by omega)]
    · rw [decide_eq_false h, decide_eq_false (by omega)]
  obtain ⟨s2, hs2⟩ := repr_gd (v := .bl (decide (countT 30 v ≤ 120))) rfl (by simp [dep]) (by simp [wt])
  show dCB rReprD (dCons (dCall sp_type [] (dCons (dSlot 0) dNil)) dNil) _ _ _
  refine repr_op hs2 (fun Q' h => ⟨v, rfl, v, rfl, gv, dv, h⟩) ?_
  show dCB rReprD (dCons (dSlot 2) dNil) _ _ _
  refine repr_op hs2 (fun Q' h => ⟨.bl (decide (((countT 30 v : Nat) : Int) ≤ 120)), rfl, by rw [e]; exact h⟩) ?_
  refine ⟨true, ?_, ?_⟩
  · show D.bl (decide (s2 = s2)) = _
    rw [decide_eq_true rfl]
  show dCB rReprD (dCons (dSlot 0) dNil) _ _ _
  refine repr_op hs (fun Q' h => ⟨v, rfl, h⟩) ?_
  refine ⟨_, rfl, ?_⟩
  show Q (.bl (decide (s = s))) M
  rw [decide_eq_true rfl]
  exact q
end K01

/-! K01d: the draws. -/
namespace K01
open PySem PySem.Spec DL
open L2 (atI ixN)
open PyProof.Rows hiding St signs

theorem ix_ref {M : Mp} {a : Addr} {xs : List DL.D} {i : Int} {d : DL.D} {Q : DK} (h : M a = some (.lst xs)) (e : atI xs i = some d) (q : Q d M) : DL.rIxD (.ref a) (.int i) M Q :=
  ⟨xs, d, by show mol (M a) = _; rw [h]; rfl, e, q⟩
theorem mul_ok {fz : Bool} {i j : Int} {M : Mp} {Q : DK} (hi : i.natAbs < 2 ^ 64) (hj : j.natAbs < 2 ^ 64) (q : Q (.int (i * j)) M) : rMulD fz (.int i) (.int j) M Q := ⟨⟨64, 64, hi, hj, by decide⟩, q⟩
theorem at3_0 {x y z : DL.D} : atI [x, y, z] 0 = some x := L2.atI_nat (j := 0) rfl
theorem at3_1 {x y z : DL.D} : atI [x, y, z] 1 = some y := L2.atI_nat (j := 1) rfl
theorem at3_2 {x y z : DL.D} : atI [x, y, z] 2 = some z := L2.atI_nat (j := 2) rfl
/-- the pot at a: what it holds, drawn from at most c times -/
def Pot (M : Mp) (a : Addr) (c : Nat) : Prop := ∃ own mix cnt : Int, M a = some (.lst [.int own, .int mix, .int cnt]) ∧ 0 ≤ own ∧ 0 ≤ mix ∧ mix < 2305843009213693951 ∧ 0 ≤ cnt ∧ cnt ≤ c
/-- drawn from, nothing else touched -/
def Dr (M : Mp) (a : Addr) (M' : Mp) (c : Nat) : Prop := Pot M' a c ∧ ∀ b, b ≠ a → M' b = M b
theorem Dr.trans {M M1 M2 : Mp} {a : Addr} {c c' : Nat} (h : Dr M a M1 c) (h2 : Dr M1 a M2 c') : Dr M a M2 c' := ⟨h2.1, fun b hb => (h2.2 b hb).trans (h.2 b hb)⟩
theorem Dr.up {M M1 : Mp} {a : Addr} {c c' : Nat} (h : Dr M a M1 c) (hc : c ≤ c') : Dr M a M1 c' := by
  obtain ⟨⟨own, mix, cnt, e, h1, h2, h3, h4, h5⟩, f⟩ := h
  exact ⟨⟨own, mix, cnt, e, h1, h2, h3, h4, by omega⟩, f⟩
theorem Dr.refl {M : Mp} {a : Addr} {c : Nat} (h : Pot M a c) : Dr M a M c := ⟨h, fun _ _ => rfl⟩
theorem Pot.up {M : Mp} {a : Addr} {c c' : Nat} (h : Pot M a c) (hc : c ≤ c') : Pot M a c' := ((Dr.refl h).up hc).1
theorem set0 {x y z v : DL.D} {M : Mp} {a : Addr} (h : M a = some (.lst [x, y, z])) {Q : Mp → Prop} (q : Q (mu M a (.lst [v, y, z]))) : rSetD (.ref a) (.int 0) v M Q :=
  ⟨a, _, 0, 0, rfl, rfl, h, rfl, q⟩
theorem set2 {x y z v : DL.D} {M : Mp} {a : Addr} (h : M a = some (.lst [x, y, z])) {Q : Mp → Prop} (q : Q (mu M a (.lst [x, y, v]))) : rSetD (.ref a) (.int 2) v M Q :=
  ⟨a, _, 2, 2, rfl, rfl, h, rfl, q⟩
theorem primes {m : Int} (h0 : 0 ≤ m) (h5 : m < 5) : ∃ p : Int, atI [D.int 2147483647, .int 2147483629, .int 2147483587, .int 2147483579, .int 2147483563] m = some (.int p) ∧ 0 < p ∧ p < 2147483648 := by
  rcases (show m = 0 ∨ m = 1 ∨ m = 2 ∨ m = 3 ∨ m = 4 by omega) with rfl | rfl | rfl | rfl | rfl
  · exact ⟨_, rfl, by decide, by decide⟩
  · exact ⟨_, rfl, by decide, by decide⟩
  · exact ⟨_, rfl, by decide, by decide⟩
  · exact ⟨_, rfl, by decide, by decide⟩
  · exact ⟨_, rfl, by decide, by decide⟩
def sp_take : DSp := fun ds M Q => ∃ a u c, ds = [.ref a, .int u] ∧ Pot M a c ∧ c ≤ 100000 ∧ 0 < u ∧ u < 1000000 ∧ ∀ d M', 0 ≤ d → d < u → Dr M a M' (c + 1) → Q (.int d) M'
theorem rd_take : ∀ ds M Q, sp_take ds M Q → ds.length = 2 ∧ r__law_take { nx := fun _ M' => Q .non M', rt := Q } (dstart N__law_take ds) M := by
  rintro _ M Q ⟨a, u, c, rfl, ⟨own, mix, cnt, e, h1, h2, h3, h4, h5⟩, hc, hu, hu2, q⟩
  refine ⟨rfl, ?_⟩
  unfold r__law_take
  have hix : ∀ {M : Mp} {a : Addr} {xs : List DL.D} {i : Int} {d : DL.D} {Q : DK}, M a = some (.lst xs) → atI xs i = some d → Q d M → DL.rIxD (.ref a) (.int i) M Q := ix_ref
  have hil : ∀ {M : Mp} {xs : List DL.D} {i : Int} {d : DL.D} {Q : DK}, atI xs i = some d → Q d M → DL.rIxD (.lst xs) (.int i) M Q := fun h q => ⟨_, _, rfl, h, q⟩
  have hmul : ∀ {i j : Int} {M : Mp} {Q : DK}, i.natAbs < 2 ^ 64 → j.natAbs < 2 ^ 64 → Q (.int (i * j)) M → rMulD true (.int i) (.int j) M Q := mul_ok
  have hadd : ∀ {i j : Int} {M : Mp} {Q : DK}, Q (.int (i + j)) M → rAddD true (.int i) (.int j) M Q := fun q => q
  have hint : ∀ {i : Int} {M : Mp} {Q : DK}, Q (.int i) M → rIntD [.int i] M Q := fun q => q
  have hs0 : ∀ {x y z v : DL.D} {M : Mp} {a : Addr}, M a = some (.lst [x, y, z]) → ∀ {Q : Mp → Prop}, Q (mu M a (.lst [v, y, z])) → rSetD (.ref a) (.int 0) v M Q := set0
  have hs2 : ∀ {x y z v : DL.D} {M : Mp} {a : Addr}, M a = some (.lst [x, y, z]) → ∀ {Q : Mp → Prop}, Q (mu M a (.lst [x, y, v])) → rSetD (.ref a) (.int 2) v M Q := set2
  generalize DL.rIxD = R at hix hil ⊢
  generalize rMulD true = Rm at hmul ⊢
  generalize rAddD true = Ra at hadd ⊢
  generalize rIntD = Ri at hint ⊢
  generalize rSetD = Rs at hs0 hs2 ⊢
  refine ⟨_, rfl, hix e at3_0 ⟨_, _, rfl, rfl, trivial, _, rfl, ?_⟩⟩
  by_cases ho : 0 < own
  · rw [decide_eq_true ho]
    refine ⟨_, rfl, hix e at3_0 (hint ⟨_, rfl, _, _, rfl, rfl, hu, ?_⟩)⟩
    refine ⟨_, rfl, hix e at3_0 ⟨_, rfl, _, _, rfl, rfl, ⟨hu, by omega⟩, ?_⟩⟩
    refine ⟨_, rfl, hs0 e ⟨_, rfl, ?_⟩⟩
    refine q _ _ (Int.emod_nonneg _ (by omega)) (Int.emod_lt_of_pos _ hu) ⟨⟨_, mix, cnt, mu_same, Int.ediv_nonneg h1 (by omega), h2, h3, h4, by omega⟩, fun b hb => mu_ne hb⟩
  · rw [decide_eq_false ho]
    refine ⟨_, rfl, hix e at3_2 (hadd ⟨_, rfl, hs2 e ?_⟩)⟩
    have e2 : mu M a (.lst [.int own, .int mix, .int (cnt + 1)]) a = some (.lst [.int own, .int mix, .int (cnt + 1)]) := mu_same
    refine ⟨small (by simp), ?_⟩
    refine ⟨_, rfl, hix e2 at3_2 (hint ⟨_, _, rfl, rfl, (by decide : (0 : Int) < 5), ?_⟩)⟩
    obtain ⟨p, hp, p0, p1⟩ := primes (m := (cnt + 1) % 5) (Int.emod_nonneg _ (by decide)) (Int.emod_lt_of_pos _ (by decide))
    refine hil hp ?_
    have sq : (cnt + 1) * (cnt + 1) ≤ 100001 * 100001 := Int.mul_le_mul (by omega) (by omega) (by omega) (by decide)
    have sq0 : 0 ≤ (cnt + 1) * (cnt + 1) := Int.mul_nonneg (by omega) (by omega)
    have as1 : 98244 * (cnt + 1) * (cnt + 1) = 98244 * ((cnt + 1) * (cnt + 1)) := Int.mul_assoc _ _ _
    refine ⟨_, rfl, hix e2 at3_1 ⟨_, rfl, hix e2 at3_2 (hmul (by decide) (by omega) ⟨_, rfl, hix e2 at3_2 (hmul (by omega) (by omega) (hadd (hadd (hint ?_))))⟩)⟩⟩
    refine ⟨_, _, rfl, rfl, .inl ⟨by decide, by decide, ?_⟩, hint ?_⟩
    · rw [as1]
      omega
    refine ⟨_, rfl, _, _, rfl, rfl, p0, ?_⟩
    have b0 := Int.emod_nonneg ((mix + 98244 * (cnt + 1) * (cnt + 1) + 50) ^ (3 : Int).toNat) (b := p) (by omega)
    have b1 := Int.emod_lt_of_pos ((mix + 98244 * (cnt + 1) * (cnt + 1) + 50) ^ (3 : Int).toNat) p0
    refine ⟨_, rfl, _, rfl, hint ⟨_, _, rfl, rfl, (by decide : (0 : Int) < 10009), ?_⟩⟩
    refine ⟨_, rfl, hix e2 at3_2 (hmul (by decide) (by omega) (hadd (hmul (by omega) ?_ (hint ⟨_, _, rfl, rfl, (by decide : (0 : Int) < 2305843009213693907), ?_⟩))))⟩
    · omega
    · refine ⟨_, rfl, _, _, rfl, rfl, ⟨(by decide : (0 : Int) < 129), (by decide : (129 : Int).natAbs < 2 ^ 64)⟩, hint ⟨_, rfl, _, _, rfl, rfl, hu, ?_⟩⟩
      refine q _ _ (Int.emod_nonneg _ (by omega)) (Int.emod_lt_of_pos _ hu) ⟨⟨own, mix, cnt + 1, mu_same, h1, h2, h3, by omega, by omega⟩, fun b hb => mu_ne hb⟩
end K01

/-! K01e: what is drawn. -/
namespace K01
open PySem PySem.Spec DL
open L2 (atI ixN)
open PyProof.Rows hiding St signs

theorem at_in {α : Type} {xs : List α} {d : Int} (h0 : 0 ≤ d) (h1 : d < xs.length) : ∃ y ∈ xs, atI xs d = some y := by
  obtain ⟨n, rfl⟩ := Int.eq_ofNat_of_zero_le h0
  have hn : n < xs.length := by omega
  exact ⟨xs[n], List.getElem_mem hn, L2.atI_nat (List.getElem?_eq_getElem hn)⟩
def sp_of : DSp := fun ds M Q => ∃ a o c, ds = [.ref a, o] ∧ Pot M a c ∧ c ≤ 100000 ∧
  ((∃ xs, o = .lst xs ∧ 0 < xs.length ∧ xs.length < 1000000 ∧ ∀ d ∈ xs, ∀ M', Dr M a M' (c + 1) → Q d M') ∨
   ∃ x : Str, o = .str x ∧ 0 < x.cps.size ∧ x.cps.size ≤ 100000 ∧ ∀ ch ∈ x.cps.toList, ∀ M', Dr M a M' (c + 1) → Q (.str (sg ch)) M')
theorem rd_of : ∀ ds M Q, sp_of ds M Q → ds.length = 2 ∧ r__law_of sp_take { nx := fun _ M' => Q .non M', rt := Q } (dstart N__law_of ds) M := by
  rintro _ M Q ⟨a, o, c, rfl, p, hc, h⟩
  refine ⟨rfl, ?_⟩
  rcases h with ⟨xs, rfl, l0, l1, q⟩ | ⟨x, rfl, l0, l1, q⟩
  · refine ⟨_, rfl, _, rfl, _, rfl, xs, rfl, a, _, c, rfl, p, hc, by omega, by omega, fun d M' h0 h1 dr => ?_⟩
    obtain ⟨y, hy, e⟩ := at_in h0 h1
    exact ⟨xs, y, rfl, e, q y hy M' dr⟩
  · have sz : x.length = x.cps.size := rfl
    refine ⟨_, rfl, _, rfl, _, rfl, small l1, a, _, c, rfl, p, hc, by omega, by omega, fun d M' h0 h1 dr => ?_⟩
    obtain ⟨y, hy, e⟩ := at_in (xs := x.cps.toList) h0 (by rw [Array.length_toList]; omega)
    exact ⟨small l1, y, e, q y hy M' dr⟩
theorem Pot.ne {M : Mp} {a b : Addr} {c : Nat} (p : Pot M a c) (h : M b = none) : b ≠ a := by
  obtain ⟨_, _, _, e, _⟩ := p
  intro q
  rw [q, e] at h
  cases h
theorem Pot.at {M M' : Mp} {a : Addr} {c : Nat} (p : Pot M a c) (h : M' a = M a) : Pot M' a c := by
  obtain ⟨own, mix, cnt, e, r⟩ := p
  exact ⟨own, mix, cnt, by rw [h]; exact e, r⟩
theorem erase_map {α β : Type} (f : α → β) : ∀ (l : List α) (k : Nat), (l.map f).eraseIdx k = (l.eraseIdx k).map f
  | [], _ => rfl
  | _ :: _, 0 => rfl
  | x :: l, k + 1 => congrArg (f x :: ·) (erase_map f l k)
def sp_some1 : DSp := fun ds M Q => ∃ (a : Addr) (xs : List Str) (m c : Nat), ds = [.ref a, .lst (xs.map D.str), .int (m : Nat)] ∧ Pot M a c ∧ c + m ≤ 100000 ∧ m ≤ xs.length ∧ xs.length ≤ 1000 ∧
  ∀ (ys : List Str) M1 M2, ys.length = m → (∀ y ∈ ys, y ∈ xs) → Dr M a M2 (c + m) → SubM M2 M1 → Q (.lst (ys.map D.str)) M1
theorem rd_some : ∀ ds M Q, sp_some1 ds M Q → ds.length = 3 ∧ r__law_some sp_take { nx := fun _ M' => Q .non M', rt := Q } (dstart N__law_some ds) M := by
  rintro _ M Q ⟨a, xs, m, c, rfl, p, hc, hm, hx, q⟩
  refine ⟨rfl, ?_⟩
  refine ⟨_, rfl, _, _, rfl, rfl, ?_⟩
  intro r hr
  refine ⟨small (by simp), ?_⟩
  intro f hf
  have nra := p.ne hr
  have nfr : f ≠ r := by
    intro e
    rw [e, mu_same] at hf
    cases hf
  have hf0 : M f = none := by rw [mu_ne nfr] at hf; exact hf
  have nfa := p.ne hf0
  refine ⟨_, _, rfl, ?_⟩
  refine ⟨_, rfl, (m : Int), rfl, by omega, by omega, ?_⟩
  have lr : (rgD 0 (m : Int).toNat).length = m := by unfold rgD; simp
  refine for_inv (fun n ρ M' => ∃ (x3 : Option DL.D) (rs ys : List Str), ρ = [some (.ref a), some (.lst (xs.map D.str)), some (.int (m : Nat)), x3, some (.ref r), some (.ref f)] ∧ M' r = some (.lst (rs.map D.str)) ∧ M' f = some (.lst (ys.map D.str)) ∧
      Pot M' a (c + n) ∧ (∀ b, b ≠ a → b ≠ r → b ≠ f → M' b = M b) ∧ ys.length = n ∧ rs.length + n = xs.length ∧ (∀ y ∈ ys, y ∈ xs) ∧ (∀ y ∈ rs, y ∈ xs)) (fun _ _ _ _ => trivial) _ 0 _ _ ?_ ?_ ?_
  · refine ⟨none, xs, [], rfl, ?_, mu_same, (p.at ?_), ?_, rfl, by simp, by simp, fun y h => h⟩
    · rw [mu_ne (Ne.symm nfr)]; exact mu_same
    · rw [mu_ne (Ne.symm nfa), mu_ne (Ne.symm nra)]
    · intro b h1 h2 h3
      rw [mu_ne h3, mu_ne h2]
  · rintro x hx2 n ρ M' ⟨x3, rs, ys, rfl, er, ef, p', off, ly, lrs, iy, ir⟩ hn N hN
    have hn' : n < m := by rw [lr] at hn; omega
    have sf : (lstOf M' (D.ref f)).isSome = true := by show (mol (M' f)).isSome = true; rw [ef]; rfl
    have sr : lstOf M' (D.ref r) = some (rs.map D.str) := by show mol (M' r) = _; rw [er]; rfl
    refine ⟨_, rfl, sf, ?_⟩
    refine ⟨_, rfl, by rw [sr]; rfl, ?_⟩
    refine ⟨_, rfl, _, rfl, rs.map D.str, sr, a, _, c + n, rfl, p', by omega, by simp; omega, by simp; omega, fun d M2 h0 h1 dr => ?_⟩
    obtain ⟨k, rfl⟩ := Int.eq_ofNat_of_zero_le h0
    rw [List.length_map] at h1
    have hk : k < rs.length := by omega
    have er2 : M2 r = some (.lst (rs.map D.str)) := by rw [dr.2 r nra]; exact er
    have ef2 : M2 f = some (.lst (ys.map D.str)) := by rw [dr.2 f nfa]; exact ef
    refine ⟨r, rs.map D.str, _, k, .str rs[k], rfl, rfl, er2, ?_, by omega, by omega, ?_, ?_⟩
    · unfold L2.ixN
      rw [if_pos h0, if_pos (by rw [List.length_map]; omega)]
      rfl
    · rw [List.getElem?_map, List.getElem?_eq_getElem hk]; rfl
    · refine ⟨f, .str rs[k], ys.map D.str, rfl, rfl, ?_, ?_, ?_⟩
      · rw [mu_ne nfr]; exact ef2
      · rw [List.length_map]; exact Nat.lt_of_le_of_lt (show ys.length ≤ 1000 by omega) (by rw [sizeLine_eq]; omega)
      · refine hN _ _ ⟨_, rs.eraseIdx k, ys ++ [rs[k]], rfl, ?_, ?_, ?_, ?_, ?_, ?_, ?_, ?_⟩
        · rw [mu_ne (Ne.symm nfr), mu_same, erase_map]
        · rw [mu_same]; simp
        · refine (dr.1.up (by omega)).at ?_
          rw [mu_ne (Ne.symm nfa), mu_ne (Ne.symm nra)]
        · intro b h1 h2 h3
          rw [mu_ne h3, mu_ne h2, dr.2 b h1]; exact off b h1 h2 h3
        · simp [ly]
        · rw [List.length_eraseIdx, if_pos hk]; omega
        · intro y hy
          rcases List.mem_append.mp hy with h | h
          · exact iy y h
          · rw [List.mem_singleton.mp h]; exact ir _ (List.getElem_mem hk)
        · intro y hy; exact ir y (List.mem_of_mem_eraseIdx hy)
  · rintro ρ' M' ⟨x3, rs, ys, rfl, er, ef, p', off, ly, lrs, iy, ir⟩
    rw [lr, Nat.zero_add] at p' ly
    refine ⟨_, rfl, f, ys.map D.str, rfl, ef, ?_⟩
    have mdne : ∀ b, b ≠ f → md M' f b = M' b := fun b h => by unfold md; rw [if_neg h]
    have mdf : md M' f f = none := by unfold md; rw [if_pos rfl]
    refine q ys _ (fun b => if b = r then none else md M' f b) ly iy ⟨p'.at ?_, fun b hb => ?_⟩ fun b o e => ?_
    · show (if a = r then none else md M' f a) = _
      rw [if_neg (Ne.symm nra), mdne a (Ne.symm nfa)]
    · show (if b = r then none else md M' f b) = _
      by_cases h1 : b = r
      · rw [if_pos h1, h1, hr]
      · rw [if_neg h1]
        by_cases h2 : b = f
        · rw [h2, mdf, hf0]
        · rw [mdne b h2]; exact off b hb h1 h2
    · have e' : (if b = r then none else md M' f b) = some o := e
      by_cases h1 : b = r
      · rw [if_pos h1] at e'; cases e'
      · rw [if_neg h1] at e'; exact e'
def sp_some : DSp := fun ds M Q => ∃ (a : Addr) (xs : List Str) (m c : Nat), ds = [.ref a, .lst (xs.map D.str), .int (m : Nat)] ∧ Pot M a c ∧ c + m ≤ 100000 ∧ m ≤ xs.length ∧ xs.length ≤ 1000 ∧
  ∀ (ys : List Str) M2, ys.length = m → (∀ y ∈ ys, y ∈ xs) → Dr M a M2 (c + m) → Q (.lst (ys.map D.str)) M2
theorem wk_some : ∀ ds M Q, sp_some ds M Q → sp_some1 ds M fun d M1 => ∃ M2, SubM M2 M1 ∧ Q d M2 := by
  rintro _ M Q ⟨a, xs, m, c, rfl, p, hc, hm, hx, q⟩
  exact ⟨a, xs, m, c, rfl, p, hc, hm, hx, fun ys M1 M2 l i d s => ⟨M2, s, q ys M2 l i d⟩⟩
theorem wk_type : ∀ ds M Q, sp_type ds M Q → sp_type1 ds M fun d M1 => ∃ M2, SubM M2 M1 ∧ Q d M2 := by
  rintro _ M Q ⟨v, rfl, g, d, q⟩
  exact ⟨v, rfl, g, d, fun M' s => ⟨M, s, q⟩⟩

theorem len_pos_sig : SIG.cps.toList.length = 44 := by decide +kernel
theorem sig_small : ∀ c ∈ SIG.cps.toList, c < 128 := by decide +kernel
theorem ok_small {c : Nat} (h : okSign c = true) : c < 128 := sig_small c (of_decide_eq_true h)
/-- a text of few signs -/
def Fs (n : Nat) (x : Str) : Prop := x.cps.size ≤ n ∧ ∀ c ∈ x.cps.toList, okSign c = true
theorem join_sg {ys : List Str} (h : ∀ y ∈ ys, ∃ c, okSign c = true ∧ y = sg c) : Fs ys.length (Txt.join (Str.ofString "") ys) ∧ (Txt.join (Str.ofString "") ys).cps.size = ys.length ∧ (ys.map (·.length)).sum = ys.length := by
  obtain ⟨ms, rfl⟩ := sgs_of (ys := ys) fun y hy => let ⟨c, _, e⟩ := h y hy; ⟨c, e⟩
  rw [gl_sg, sg_sum, List.length_map]
  refine ⟨⟨by simp, fun c hc => ?_⟩, by simp, rfl⟩
  obtain ⟨c', h1, e⟩ := h (sg c) (List.mem_map.mpr ⟨c, by simpa using hc, rfl⟩)
  rw [sg_inj e]; exact h1
def sp_few : DSp := fun ds M Q => ∃ (a : Addr) (c : Nat), ds = [.ref a] ∧ Pot M a c ∧ c + 4 ≤ 100000 ∧ ∀ (x : Str) M2, 0 < x.cps.size → Fs 3 x → Dr M a M2 (c + 4) → Q (.str x) M2
theorem rd_few : ∀ ds M Q, sp_few ds M Q → ds.length = 1 ∧ r__law_few sp_some sp_of sp_signs { nx := fun _ M' => Q .non M', rt := Q } (dstart N__law_few ds) M := by
  rintro _ M Q ⟨a, c, rfl, p, hc, q⟩
  refine ⟨rfl, ?_⟩
  refine ⟨_, rfl, _, rfl, rfl, SIG, rfl, small (by decide +kernel), ?_⟩
  refine newTr ⟨_, rfl, small (by simp), newTr ?_⟩
  refine ⟨a, _, c, rfl, p, by omega, .inl ⟨_, rfl, by simp, by simp, fun d hd M1 d1 => ?_⟩⟩
  have pool : DL.signs SIG = (SIG.cps.toList.map sg).map D.str := by unfold DL.signs; rw [List.map_map]; rfl
  have poolLen : (SIG.cps.toList.map sg).length = 44 := by rw [List.length_map]; exact len_pos_sig
  have go : ∀ m : Nat, 0 < m → m ≤ 3 → sp_some ([D.ref a, .lst (DL.signs SIG), .int (m : Nat)] ++ []) M1 fun z M2 => DL.dNil (dstart N__law_few [D.ref a]) M2 fun ds M3 => rSortD true (z :: ds) M3 fun y M4 =>
      ∃ ss : List Str, seqOf M4 y = some (ss.map D.str) ∧ (ss.map (·.length)).sum + ss.length * (Str.ofString "").length ≤ 16777216 ∧ Q (.str (Txt.join (Str.ofString "") ss)) M4 := by
    intro m m0 m3
    refine ⟨a, SIG.cps.toList.map sg, m, c + 1, by rw [pool]; rfl, d1.1, by omega, by omega, by omega, fun ys M2 ly iy d2 => ?_⟩
    refine ⟨_, ys, rfl, rfl, by omega, fun zs pm so => newTr ⟨zs, rfl, ?_, ?_⟩⟩
    all_goals
      have hz : ∀ z ∈ zs, ∃ c, okSign c = true ∧ z = sg c := by
        intro z hz
        obtain ⟨c, h1, e⟩ := List.mem_map.mp (iy z (pm.mem_iff.mp hz))
        exact ⟨c, decide_eq_true h1, e.symm⟩
      have lz : zs.length = m := by rw [pm.length_eq, ly]
      obtain ⟨f1, f2, f3⟩ := join_sg hz
    · rw [f3]
      have : (Str.ofString "").length = 0 := rfl
      rw [this]
      omega
    · refine q _ M2 (by omega) ⟨by have := f1.1; omega, f1.2⟩ ((d1.trans d2).up (by omega))
  simp at hd
  rcases hd with rfl | rfl
  · exact go 2 (by omega) (by omega)
  · exact go 3 (by omega) (by omega)
def sp_leafd : DSp := fun ds M Q => ∃ (a : Addr) (x : Str) (c : Nat), ds = [.ref a, .str x] ∧ Pot M a c ∧ c + 5 ≤ 100000 ∧ 0 < x.cps.size ∧ Fs 100 x ∧ ∀ (t y : Str) M2, t ∈ LV → Fs 3 y → Dr M a M2 (c + 5) → Q (.tup [.str t, .str y]) M2
/-- the draws of a leaf's signs, one by one -/
theorem draws_signs {a : Addr} {x : Str} {M1 : Mp} {c : Nat} {G : Mp → Prop} (hG : ∀ M, G M) {ρ : Rho} (hr : ∃ z, ρ = [some (.ref a), some (.str x), z]) {k : List DL.D → Mp → Prop} {xs : List DL.D} (p : Pot M1 a c) (hc : c + xs.length ≤ 100000) (hx : 0 < x.cps.size) (fx : Fs 100 x) (l3 : xs.length ≤ 3)
    (h : ∀ (ys : List Str) M2, ys.length = xs.length → (∀ y ∈ ys, ∃ c, okSign c = true ∧ y = sg c) → Dr M1 a M2 (c + xs.length) → k (ys.map D.str) M2) :
    lcW (dgName 2) dYes (dCall sp_of [] (dCons (dSlot 0) (dCons (dSlot 1) dNil))) G ρ k xs [] M1 := by
  obtain ⟨z, rfl⟩ := hr
  refine lc_inv (fun n M => Dr M1 a M (c + n)) (fun d => ∃ c, okSign c = true ∧ d = .str (sg c)) (fun _ _ _ => hG _) xs [] M1 (Dr.refl p) (fun d hd => nomatch hd) ?_ (small (by simp; omega)) ?_
  · intro d hd n M i hn K1 K2 hk
    simp at hn
    refine ⟨_, rfl, _, rfl, a, _, c + n, rfl, i.1, by omega, .inr ⟨x, rfl, hx, by have := fx.1; omega, fun ch hch M' dr => ?_⟩⟩
    exact hk _ _ ⟨ch, fx.2 ch hch, rfl⟩ (i.trans dr)
  · intro ds M' l P i
    have e : ∃ ys : List Str, ds = ys.map D.str ∧ ∀ y ∈ ys, ∃ c, okSign c = true ∧ y = sg c := by
      clear i l
      induction ds with
      | nil => exact ⟨[], rfl, fun _ h => nomatch h⟩
      | cons d ds ih =>
        obtain ⟨ys, rfl, h⟩ := ih fun d hd => P d (List.mem_cons_of_mem _ hd)
        obtain ⟨c, h1, rfl⟩ := P _ List.mem_cons_self
        exact ⟨sg c :: ys, rfl, fun y hy => (List.mem_cons.mp hy).elim (fun e => ⟨c, h1, e⟩) (h y)⟩
    obtain ⟨ys, rfl, hy⟩ := e
    rw [List.length_map] at l i
    simp at l
    rw [l] at i
    exact h ys M' l hy i
theorem rd_leafd : ∀ ds M Q, sp_leafd ds M Q → ds.length = 2 ∧ r__law_leaf sp_take sp_of { nx := fun _ M' => Q .non M', rt := Q } (dstart N__law_leaf ds) M := by
  rintro _ M Q ⟨a, x, c, rfl, p, hc, hx, fx, q⟩
  refine ⟨rfl, ?_⟩
  have jl : (Str.ofString "").length = 0 := rfl
  refine ⟨_, rfl, a, 3, c, rfl, p, by omega, by omega, by omega, fun d M1 h0 h1 d1 => ?_⟩
  refine ⟨decide (d = 0), rfl, ?_⟩
  by_cases hd : d = 0
  · rw [decide_eq_true hd]
    refine ⟨_, rfl, ?_⟩
    refine ⟨_, rfl, a, 3, c + 1, rfl, d1.1, by omega, by omega, by omega, fun e M2 e0 e1 d2 => ?_⟩
    refine ⟨1 + e, rfl, by omega, by omega, ?_⟩
    have lr : (rgD 0 (1 + e).toNat).length = (1 + e).toNat := by unfold rgD; simp
    refine draws_signs (fun _ => trivial) ⟨none, rfl⟩ d2.1 (by omega) hx fx (by omega) fun ys M3 ly hy d3 => newTr ⟨ys, .inr rfl, ?_, fun zs nd mem so => newTr ⟨zs, rfl, ?_, small (by simp), ?_⟩⟩
    · intro ks nd sub
      have := nodup_len nd sub
      omega
    all_goals
      have hz : ∀ z ∈ zs, ∃ c, okSign c = true ∧ z = sg c := fun z hz => hy z ((mem z).mp hz)
      have lz : zs.length ≤ ys.length := nodup_len nd fun z hz => (mem z).mp hz
      obtain ⟨f1, f2, f3⟩ := join_sg hz
    · rw [f3, jl]; omega
    · exact q _ _ M3 (by simp) ⟨by have := f1.1; omega, f1.2⟩ (((d1.trans d2).trans d3).up (by omega))
  · rw [decide_eq_false hd]
    refine ⟨_, rfl, _, rfl, small (by simp), newTr ⟨a, _, c + 1, rfl, d1.1, by omega, .inl ⟨_, rfl, by simp, by simp, fun d hd M2 d2 => ?_⟩⟩⟩
    have go : ∀ m : Nat, m ≤ 3 → (∃ j : Int, D.int (m : Nat) = .int j ∧ -(2 ^ 62) ≤ j ∧ j < 2 ^ 62 ∧ lcW (dgName 2) dYes (dCall sp_of [] (dCons (dSlot 0) (dCons (dSlot 1) dNil))) (fun _ => True) (dwipe (dstart N__law_leaf [D.ref a, .str x]) [2])
        (fun ds M3 => newL true ds M3 fun y M4 => ∃ ss : List Str, seqOf M4 y = some (ss.map D.str) ∧ (ss.map (·.length)).sum + ss.length * (Str.ofString "").length ≤ 16777216 ∧ ([D.str "text", .str (Txt.join (Str.ofString "") ss)] : List DL.D).length ≤ sizeLine ∧ Q (.tup [.str "text", .str (Txt.join (Str.ofString "") ss)]) M4) (rgD 0 j.toNat) [] M2) := by
      intro m hm
      have lr : (rgD 0 ((m : Nat) : Int).toNat).length = m := by unfold rgD; simp
      refine ⟨_, rfl, by omega, by omega, ?_⟩
      refine draws_signs (fun _ => trivial) ⟨none, rfl⟩ d2.1 (by omega) hx fx (by omega) fun ys M3 ly hy d3 => newTr ?_
      obtain ⟨f1, f2, f3⟩ := join_sg hy
      refine ⟨ys, rfl, ?_, small (by simp), ?_⟩
      · rw [f3, jl]; omega
      · exact q _ _ M3 (by simp) ⟨by have := f1.1; omega, f1.2⟩ (((d1.trans d2).trans d3).up (by omega))
    simp at hd
    rcases hd with rfl | rfl | rfl | rfl
    · exact go 0 (by omega)
    · exact go 1 (by omega)
    · exact go 2 (by omega)
    · exact go 3 (by omega)
end K01

/-! K01f: odd and bent values. -/
namespace K01
open PySem PySem.Spec DL
open L2 (atI ixN)
open PyProof.Rows hiding St signs

def fairB (v : DL.D) : Bool := gd v && decide (dep v ≤ 5) && decide (wt v ≤ 1000)
theorem fairB_iff {v : DL.D} : fairB v = true ↔ gd v = true ∧ dep v ≤ 5 ∧ wt v ≤ 1000 := by
  unfold fairB
  simp only [Bool.and_eq_true, decide_eq_true_eq, and_assoc]
def oddL : List DL.D := [.non, .bl true, .bl false, .int 0, .int 1, .int (-1), .int 2, .int 44, .str "", .str "a", .str "A", .str "text", .str "copy", .tup [], .lst [], .tup [.int 0], .tup [.tup []], .lst [.int 0], .tup [.str "a"],
  .tup [.str "text", .str "a"], .tup [.str "copy", .tup [.str "text", .str "a"]], .tup [.non], .lst [.str "a"], .str (repS "a" 401), .str "/", .tup [.str "none"]]
theorem odd_fair : ∀ d ∈ oddL, fairB d = true := by decide +kernel
def sp_odd : DSp := fun ds M Q => ∃ (a : Addr) (c : Nat), ds = [.ref a] ∧ Pot M a c ∧ c + 1 ≤ 100000 ∧ ∀ v M2, gd v = true → dep v ≤ 5 → wt v ≤ 1000 → Dr M a M2 (c + 1) → Q v M2
theorem rd_odd : ∀ ds M Q, sp_odd ds M Q → ds.length = 1 ∧ r__law_odd sp_of { nx := fun _ M' => Q .non M', rt := Q } (dstart N__law_odd ds) M := by
  rintro _ M Q ⟨a, c, rfl, p, hc, q⟩
  refine ⟨rfl, ?_⟩
  refine ⟨1, rfl, small (by simp), small (by simp), newTr ⟨small (by simp), small (by simp), small (by simp), small (by simp), newTr ⟨small (by simp), small (by simp), newTr ?_⟩⟩⟩
  refine ⟨_, rfl, small (by simp), small (by simp), small (by simp), small (by simp), small (by simp), newTr ⟨by decide, by decide, by decide, small (by simp), small (by simp), newTr ?_⟩⟩
  refine ⟨_, _, rfl, rfl, small (by simp), newTr ?_⟩
  refine ⟨_, rfl, _, rfl, a, _, c, rfl, p, by omega, .inl ⟨_, rfl, by simp, by simp, fun d hd M' dr => ?_⟩⟩
  obtain ⟨h1, h2, h3⟩ := fairB_iff.mp (odd_fair d hd)
  exact q d M' h1 h2 h3 dr

mutual
def tree : DL.D → Bool
  | .str _ => true
  | .tup xs => treeAll xs
  | _ => false
def treeAll : List DL.D → Bool
  | [] => true
  | x :: xs => tree x && treeAll xs
end
theorem treeAll_iff : ∀ {xs : List DL.D}, treeAll xs = true ↔ ∀ x ∈ xs, tree x = true
  | [] => by simp [treeAll]
  | x :: xs => by simp [treeAll, treeAll_iff (xs := xs)]
theorem tree_tup {xs : List DL.D} : tree (.tup xs) = true ↔ ∀ x ∈ xs, tree x = true := by
  rw [tree, treeAll_iff]
theorem wtAll_append (xs ys : List DL.D) : wtAll (xs ++ ys) = wtAll xs + wtAll ys := by
  induction xs with
  | nil => simp [wtAll]
  | cons x xs ih => simp only [List.cons_append, wtAll, ih]; omega
theorem wtAll_take (xs : List DL.D) (n : Nat) : wtAll (xs.take n) + wtAll (xs.drop n) = wtAll xs := by
  rw [← wtAll_append, List.take_append_drop]
theorem wtAll_len (xs : List DL.D) : xs.length ≤ wtAll xs := by
  induction xs with
  | nil => simp
  | cons x xs ih => simp only [List.length_cons, wtAll]; omega
theorem wtAll_rev (xs : List DL.D) : wtAll xs.reverse = wtAll xs := by
  induction xs with
  | nil => rfl
  | cons x xs ih => rw [List.reverse_cons, wtAll_append, ih]; simp only [wtAll]; omega
theorem wtAll_cut (xs : List DL.D) (lo hi : Option Int) : wtAll (DL.cutD xs lo hi) ≤ wtAll xs := by
  unfold DL.cutD
  have h1 := wtAll_take xs (HT.sIx xs.length 0 lo)
  have h2 := wtAll_take (xs.drop (HT.sIx xs.length 0 lo)) (HT.sIx xs.length xs.length hi - HT.sIx xs.length 0 lo)
  omega
theorem cut_mem {xs : List DL.D} {lo hi : Option Int} {y : DL.D} (h : y ∈ DL.cutD xs lo hi) : y ∈ xs := by
  unfold DL.cutD at h
  exact List.mem_of_mem_drop (List.mem_of_mem_take h)
theorem wt_mem {xs : List DL.D} {y : DL.D} (h : y ∈ xs) : wt y + 1 ≤ wtAll xs := by
  induction xs with
  | nil => cases h
  | cons x xs ih =>
    simp only [wtAll]
    rcases List.mem_cons.mp h with rfl | h
    · omega
    · have := ih h; omega
/-- a tuple of some items of a fair one -/
theorem some_items {xs ys : List DL.D} (g : gd (.tup xs) = true) (w : wtAll xs ≤ 3000) (m : ∀ y ∈ ys, y ∈ xs) (l : wtAll ys ≤ 2 * wtAll xs) : gd (.tup ys) = true ∧ dep (.tup ys) ≤ dep (.tup xs) + 1 ∧ wt (.tup ys) ≤ 2 * wt (.tup xs) + 10 := by
  refine ⟨gd_tup.mpr ⟨by have := wtAll_len ys; omega, fun y hy => (gd_tup.mp g).2 y (m y hy)⟩, ?_, ?_⟩
  · have : depAll ys ≤ depAll xs := depAll_le.mpr fun y hy => depAll_le.mp (Nat.le_refl _) y (m y hy)
    simp only [dep]
    omega
  · simp only [wt]
    omega
theorem cut_to (xs : List DL.D) (k : Nat) : DL.cutD xs none (some (k : Int)) = xs.take k := by
  unfold DL.cutD
  rw [HT.sIx_none, HT.sIx_nat, List.drop_zero, Nat.sub_zero]
  by_cases h : k ≤ xs.length
  · rw [Nat.min_eq_left h]
  · rw [Nat.min_eq_right (by omega), List.take_length, List.take_of_length_le (by omega)]
theorem cut_from (xs : List DL.D) (k : Nat) : DL.cutD xs (some (k : Int)) none = xs.drop k := by
  unfold DL.cutD
  rw [HT.sIx_none, HT.sIx_nat]
  by_cases h : k ≤ xs.length
  · rw [Nat.min_eq_left h]
    exact List.take_of_length_le (by rw [List.length_drop]; omega)
  · rw [Nat.min_eq_right (by omega), Nat.sub_self, List.take_zero, List.drop_of_length_le (by omega)]
theorem ne_unit {M : Mp} {xs : List DL.D} {Q : DK} (g : gd (.tup xs) = true) (d : dep (.tup xs) ≤ 60) (q : Q (.bl (!xs.isEmpty)) M) : rEqD2 true (.tup xs) (.tup []) M Q := by
  obtain ⟨ps, e, h1, h2, h3⟩ := pyAll_gd xs (gd_tup.mp g).2
  refine ⟨.tuple ps, .tuple [], ?_, rfl, ?_, by decide, ?_⟩
  · show (match pyAll xs with | some ps => some (PyData.tuple ps) | none => none) = _
    rw [e]
  · unfold SeqAt.shaped
    simp only [PyData.canLay0, PyData.depth, h2, h3, Bool.true_and, decide_eq_true_eq]
    simp only [dep] at d
    omega
  · have : PyData.eqv (.tuple ps) (.tuple []) = xs.isEmpty := by
      cases xs with
      | nil => simp [pyAll] at e; subst e; rfl
      | cons x xs =>
        simp only [pyAll] at e
        split at e
        · cases e; rfl
        · cases e
    rw [if_pos rfl, this]
    exact q
theorem up_small {x : Str} (h : ∀ c ∈ x.cps.toList, c < 128) : (Txt.upper x).cps.size = x.cps.size ∧ ∀ c ∈ (Txt.upper x).cps.toList, c < 128 := by
  have e : x = SX.S x.cps.toList := by cases x; rfl
  have h2 : x.cps.toList.all (· < 128) = true := List.all_eq_true.mpr fun c hc => decide_eq_true (h c hc)
  rw [e, SX.upper_S h2]
  refine ⟨by simp [SX.S], fun c hc => ?_⟩
  have hc' : c ∈ x.cps.toList.map PyProof.Rows.up1 := hc
  obtain ⟨d, hd, rfl⟩ := List.mem_map.mp hc'
  have := h d hd
  unfold PyProof.Rows.up1
  split <;> omega
theorem gd_app {x y : Str} (gx : gd (.str x) = true) (gy : gd (.str y) = true) (l : x.cps.size + y.cps.size ≤ 100000) : gd (.str (x ++ y)) = true ∧ (x ++ y).cps.size = x.cps.size + y.cps.size := by
  have e : (x ++ y).cps.size = x.cps.size + y.cps.size := by
    rw [← Array.length_toList, app_list, List.length_append, Array.length_toList, Array.length_toList]
  refine ⟨gd_str.mpr ⟨by omega, fun c hc => ?_⟩, e⟩
  rw [app_list] at hc
  exact (List.mem_append.mp hc).elim ((gd_str.mp gx).2 c) ((gd_str.mp gy).2 c)
theorem gd_cut {x : Str} (gx : gd (.str x) = true) (lo hi : Option Int) : gd (.str (L2.cutS x lo hi)) = true ∧ (L2.cutS x lo hi).cps.size ≤ x.cps.size := by
  have l := L2.cutS_length x lo hi
  have l2 : (L2.cutS x lo hi).cps.size ≤ x.cps.size := l
  refine ⟨gd_str.mpr ⟨Nat.le_trans l2 (gd_str.mp gx).1, fun c hc => (gd_str.mp gx).2 c ?_⟩, l2⟩
  unfold L2.cutS at hc
  exact List.mem_of_mem_drop (List.mem_of_mem_take hc)
def sp_bent (N : Nat) : DSp := fun ds M Q => ∃ (a : Addr) (v : DL.D) (c : Nat), ds = [.ref a, v] ∧ Pot M a c ∧ tree v = true ∧ gd v = true ∧ dep v < N ∧ dep v ≤ 50 ∧ c + (3 * N + 5) ≤ 100000 ∧ wt v ≤ 3000 ∧
  ∀ v' M2, gd v' = true → dep v' ≤ dep v + 1 → wt v' ≤ 2 * wt v + 10 → Dr M a M2 (c + (3 * N + 5)) → Q v' M2

theorem add_tups {fz : Bool} {xs ys : List DL.D} {M : Mp} {Q : DK} (l : xs.length + ys.length ≤ 100000) (q : Q (.tup (xs ++ ys)) M) : rAddD fz (.tup xs) (.tup ys) M Q := ⟨small l, q⟩
theorem add_strs {fz : Bool} {x y : Str} {M : Mp} {Q : DK} (l : x.cps.size + y.cps.size ≤ 100000) (q : Q (.str (x ++ y)) M) : rAddD fz (.str x) (.str y) M Q := ⟨small l, q⟩
theorem rd_bent (N : Nat) : ∀ ds M Q, sp_bent (N + 1) ds M Q → ds.length = 2 ∧ r__law_bent sp_take (sp_bent N) sp_of sp_odd { nx := fun _ M' => Q .non M', rt := Q } (dstart N__law_bent ds) M := by
  rintro _ M Q ⟨a, v, c, rfl, p, tv, gv, dN, d50, hc, w3, q⟩
  refine ⟨rfl, ?_⟩
  cases v
  case tup xs =>
    obtain ⟨gl, ga⟩ := gd_tup.mp gv
    have tx := tree_tup.mp tv
    have wx : wtAll xs ≤ 3000 := w3
    have lx := wtAll_len xs
    -- what is left when the tuple is taken whole
    have whole : ∀ M1 c1, c1 ≤ c + 1 → Dr M a M1 c1 → ∀ D : DEnds, D.rt = Q → dIfS (dB (dIsi "tuple" (dSlot 1))) (dRet (dCall sp_of [] (dCons (dSlot 0) (dCons (dLst true (dCons (dCB (rListD true) (dCons (dSlot 1) dNil)) (dCons (dSl true (dSlot 1) (dPart (dC (.int 1))) dNoPart) (dCons (dSl true (dSlot 1) dNoPart (dPart (dNeg (dC (.int 1))))) (dCons (dOp (rAddD true) (dSlot 1) (dSl true (dSlot 1) (dPart (dNeg (dC (.int 1)))) dNoPart)) (dCons (dRevS true (dSlot 1)) (dCons (dTup dNil) (dCons (dC .non) dNil)))))))) dNil)))) dNext D [some (.ref a), some (.tup xs), none, none] M1 := by
      rintro M1 c1 h1 d1 ⟨_, _, _, _⟩ rfl
      refine ⟨_, rfl, _, rfl, true, rfl, ?_⟩
      refine ⟨_, rfl, ?_⟩
      refine ⟨_, rfl, _, xs, rfl, rfl, newTr ?_⟩
      refine ⟨_, rfl, 1, rfl, ?_⟩
      refine ⟨_, rfl, 1, rfl, -1, rfl, ?_⟩
      refine ⟨_, rfl, _, rfl, 1, rfl, -1, rfl, ?_⟩
      have l2 : (DL.cutD xs (some (-1)) none).length ≤ 3000 := by
        have := wtAll_len (DL.cutD xs (some (-1)) none)
        have := wtAll_cut xs (some (-1)) none
        omega
      refine ⟨small (n := xs.length + (DL.cutD xs (some (-1)) none).length) (by omega), ?_⟩
      refine ⟨_, rfl, ?_⟩
      refine ⟨small (by simp), small (by simp), newTr ?_⟩
      refine ⟨a, _, c1, rfl, d1.1, by omega, .inl ⟨_, rfl, by simp, by simp, fun d hd M2 d2 => ?_⟩⟩
      have dr : Dr M a M2 (c + (3 * (N + 1) + 5)) := (d1.trans d2).up (by omega)
      simp at hd
      rcases hd with rfl | rfl | rfl | rfl | rfl | rfl | rfl
      · obtain ⟨h1, h2, h3⟩ := some_items gv wx (ys := xs) (fun y h => h) (by omega)
        exact q _ _ (gd_lst.mpr (gd_tup.mp h1)) h2 h3 dr
      · obtain ⟨h1, h2, h3⟩ := some_items gv wx (ys := DL.cutD xs (some 1) none) (fun y h => cut_mem h) (by have := wtAll_cut xs (some 1) none; omega)
        exact q _ _ h1 h2 h3 dr
      · obtain ⟨h1, h2, h3⟩ := some_items gv wx (ys := DL.cutD xs none (some (-1))) (fun y h => cut_mem h) (by have := wtAll_cut xs none (some (-1)); omega)
        exact q _ _ h1 h2 h3 dr
      · obtain ⟨h1, h2, h3⟩ := some_items gv wx (ys := xs ++ DL.cutD xs (some (-1)) none) (fun y h => (List.mem_append.mp h).elim id cut_mem) (by rw [wtAll_append]; have := wtAll_cut xs (some (-1)) none; omega)
        exact q _ _ h1 h2 h3 dr
      · obtain ⟨h1, h2, h3⟩ := some_items gv wx (ys := xs.reverse) (fun y h => List.mem_reverse.mp h) (by rw [wtAll_rev]; omega)
        exact q _ _ h1 h2 h3 dr
      · obtain ⟨h1, h2, h3⟩ := some_items gv wx (ys := []) (fun y h => nomatch h) (by simp [wtAll])
        exact q _ _ h1 h2 h3 dr
      · exact q _ _ rfl (by simp [dep]) (by simp [wt]) dr
    refine ⟨_, rfl, _, rfl, true, rfl, ?_⟩
    refine ⟨_, rfl, small (by simp), ne_unit gv (by omega) ⟨_, rfl, ?_⟩⟩
    cases xs with
    | nil => exact whole M c (by omega) (Dr.refl p) _ rfl
    | cons x xs =>
      refine ⟨_, rfl, a, 5, c, rfl, p, by omega, by omega, by omega, fun d M1 h0 h1 d1 => ?_⟩
      refine ⟨_, _, rfl, rfl, trivial, decide (0 < d), rfl, ?_⟩
      by_cases hd : 0 < d
      · rw [decide_eq_true hd]
        refine ⟨_, rfl, _, rfl, _, rfl, a, _, c + 1, rfl, d1.1, by omega, by simp, by omega, fun at_ M2 e0 e1 d2 => ?_⟩
        obtain ⟨k, rfl⟩ := Int.eq_ofNat_of_zero_le e0
        have hk : k < (x :: xs).length := by omega
        have hy : (x :: xs)[k] ∈ x :: xs := List.getElem_mem hk
        have ee : atI (x :: xs) (k : Int) = some (x :: xs)[k] := L2.atI_nat (List.getElem?_eq_getElem hk)
        generalize hyk : (x :: xs)[k] = y at hy ee
        have wy := wt_mem hy
        have dy : dep y ≤ depAll (x :: xs) := depAll_le.mp (Nat.le_refl _) y hy
        have dv : dep (.tup (x :: xs)) = depAll (x :: xs) + 1 := rfl
        have wv : wt (.tup (x :: xs)) = wtAll (x :: xs) := rfl
        refine ⟨_, rfl, _, rfl, _, rfl, ?_⟩
        refine ⟨_, rfl, _, rfl, _, rfl, x :: xs, y, rfl, ee, a, y, c + 2, rfl, d2.1, tx y hy, ga y hy, by omega, by omega, by omega, by omega, fun y' M3 g3 dp3 w3 d3 => ?_⟩
        refine ⟨small (by simp), ?_⟩
        have t1 := List.length_take_le k (x :: xs)
        have t2 : ((x :: xs).drop (k + 1)).length ≤ (x :: xs).length := by rw [List.length_drop]; omega
        show rAddD true (.tup (DL.cutD (x :: xs) none (some (k : Int)))) (.tup [y']) M3 _
        rw [cut_to]
        refine add_tups ?_ ?_
        · have : [y'].length = 1 := rfl
          omega
        refine ⟨_, rfl, _, rfl, _, rfl, ?_⟩
        show rAddD true (.tup ((x :: xs).take k ++ [y'])) (.tup (DL.cutD (x :: xs) (some (((k + 1 : Nat)) : Int)) none)) M3 Q
        rw [cut_from]
        refine add_tups ?_ ?_
        · rw [List.length_append]
          have : [y'].length = 1 := rfl
          omega
        have mem : ∀ z ∈ (x :: xs).take k ++ [y'] ++ (x :: xs).drop (k + 1), z ∈ x :: xs ∨ z = y' := by
          intro z hz
          rcases List.mem_append.mp hz with h | h
          · rcases List.mem_append.mp h with h | h
            · exact .inl (List.mem_of_mem_take h)
            · exact .inr (List.mem_singleton.mp h)
          · exact .inl (List.mem_of_mem_drop h)
        refine q _ _ (gd_tup.mpr ⟨?_, ?_⟩) ?_ ?_ (((d1.trans d2).trans d3).up (by omega))
        · rw [List.length_append, List.length_append]
          have : [y'].length = 1 := rfl
          omega
        · intro z hz
          rcases mem z hz with h | h
          · exact ga z h
          · rw [h]; exact g3
        · have : depAll ((x :: xs).take k ++ [y'] ++ (x :: xs).drop (k + 1)) ≤ depAll (x :: xs) + 1 := depAll_le.mpr fun z hz => by
            rcases mem z hz with h | h
            · have := depAll_le.mp (Nat.le_refl _) z h
              omega
            · rw [h]; omega
          rw [dv]
          simp only [dep]
          omega
        · have h1 := wtAll_take (x :: xs) k
          have h2 : (x :: xs).drop k = y :: (x :: xs).drop (k + 1) := by rw [← hyk]; exact List.drop_eq_getElem_cons hk
          have h3 : wtAll ((x :: xs).drop k) = wt y + 1 + wtAll ((x :: xs).drop (k + 1)) := by rw [h2]; rfl
          have h4 : wtAll [y'] = wt y' + 1 := by simp [wtAll]
          rw [wv]
          simp only [wt]
          rw [wtAll_append, wtAll_append, h4]
          omega
      · rw [decide_eq_false hd]
        exact whole M1 (c + 1) (by omega) d1 _ rfl
  case str x =>
    obtain ⟨sx, cx⟩ := gd_str.mp gv
    have wx : x.cps.size ≤ 3000 := w3
    have dz : dep (.str x) = 0 := rfl
    have wz : wt (.str x) = x.cps.size := rfl
    refine ⟨_, rfl, _, rfl, false, rfl, ?_⟩
    refine ⟨_, rfl, _, rfl, false, rfl, ?_⟩
    refine ⟨_, rfl, _, rfl, false, rfl, ?_⟩
    refine ⟨_, rfl, _, rfl, false, rfl, ?_⟩
    refine ⟨_, rfl, _, rfl, true, rfl, ?_⟩
    have one : ∀ y : Str, y.cps.size = 1 → x.cps.size + y.cps.size ≤ 100000 := fun y h => by omega
    refine ⟨_, rfl, ?_⟩
    refine ⟨small (one "a" rfl), ?_⟩
    refine ⟨_, rfl, 1, rfl, -1, rfl, small sx, ?_⟩
    refine ⟨_, rfl, x, rfl, ?_, ?_⟩
    · show x.cps.size ≤ _
      omega
    refine ⟨_, rfl, small (by simp), newTr ⟨_, rfl, ?_⟩⟩
    refine ⟨small (n := (Str.ofString "b").cps.size + x.cps.size) (by have : (Str.ofString "b").cps.size = 1 := rfl; omega), ?_⟩
    refine ⟨_, rfl, ?_⟩
    refine ⟨small (one "/" rfl), ?_⟩
    refine ⟨small (by simp), newTr ?_⟩
    refine ⟨_, rfl, _, rfl, a, _, c, rfl, p, by omega, .inl ⟨_, rfl, by simp, by simp, fun d hd M2 d2 => ?_⟩⟩
    have dr : Dr M a M2 (c + (3 * (N + 1) + 5)) := d2.up (by omega)
    have lit : ∀ y : Str, gd (.str y) = true → y.cps.size ≤ 1 → Q (.str y) M2 := fun y g l => q _ _ g (by simp [dep]) (by simp only [wt]; omega) dr
    have app : ∀ y z : Str, gd (.str y) = true → gd (.str z) = true → y.cps.size + z.cps.size = x.cps.size + 1 → Q (.str (y ++ z)) M2 := fun y z g1 g2 l => by
      obtain ⟨h1, h2⟩ := gd_app g1 g2 (by omega)
      exact q _ _ h1 (by simp [dep]) (by simp only [wt]; omega) dr
    simp at hd
    rcases hd with rfl | rfl | rfl | rfl | rfl | rfl | rfl | rfl | rfl | rfl
    · exact app x _ gv rfl rfl
    · obtain ⟨h1, h2⟩ := gd_cut gv none (some (-1))
      exact q _ _ h1 (by simp [dep]) (by simp only [wt]; omega) dr
    · obtain ⟨h1, h2⟩ := up_small cx
      exact q _ _ (gd_str.mpr ⟨by omega, h2⟩) (by simp [dep]) (by simp only [wt]; omega) dr
    · exact q _ _ (gd_lst.mpr ⟨by simp, fun y hy => by rw [List.mem_singleton.mp hy]; exact gv⟩) (by simp [dep, depAll]) (by simp only [wt, wtAll]; omega) dr
    · exact lit _ rfl (by decide)
    · exact q _ _ rfl (by simp [dep]) (by simp [wt]) dr
    · exact q _ _ rfl (by simp [dep]) (by simp [wt]) dr
    · exact lit _ rfl (by decide)
    · exact app _ x rfl gv (by have : (Str.ofString "b").cps.size = 1 := rfl; omega)
    · exact app x _ gv rfl rfl
  all_goals simp [tree] at tv
end K01

/-! K01g: drawn types, rows, stars, types at the bounds. -/
namespace K01
open PySem PySem.Spec DL
open L2 (atI ixN)
open PyProof.Rows hiding St signs

/-- plain, of a depth, of a weight -/
structure Sm (d w : Nat) (v : DL.D) : Prop where
  g : gd v = true
  d : dep v ≤ d
  w : wt v ≤ w
theorem Sm.up {d w d' w' : Nat} {v : DL.D} (h : Sm d w v) (hd : d ≤ d') (hw : w ≤ w') : Sm d' w' v := ⟨h.g, Nat.le_trans h.d hd, Nat.le_trans h.w hw⟩
theorem sm_all {d : Nat} {xs : List DL.D} (h : ∀ x ∈ xs, ∃ w, Sm d w x) (l : xs.length ≤ 100000) : Sm (d + 1) (wtAll xs) (.tup xs) := by
  refine ⟨gd_tup.mpr ⟨l, fun x hx => let ⟨w, s⟩ := h x hx; s.g⟩, ?_, by simp only [wt]; exact Nat.le_refl _⟩
  have : depAll xs ≤ d := depAll_le.mpr fun x hx => let ⟨w, s⟩ := h x hx; s.d
  simp only [dep]
  omega
theorem sm_lst {d : Nat} {xs : List DL.D} (h : ∀ x ∈ xs, ∃ w, Sm d w x) (l : xs.length ≤ 100000) : Sm (d + 1) (wtAll xs) (.lst xs) := by
  obtain ⟨g, d, w⟩ := sm_all h l
  exact ⟨gd_lst.mpr (gd_tup.mp g), d, w⟩
theorem sm_str {x : Str} {w : Nat} (h : x.cps.size ≤ w) (hw : w ≤ 100000) (c : ∀ c ∈ x.cps.toList, c < 128) : Sm 0 w (.str x) :=
  ⟨gd_str.mpr ⟨by omega, c⟩, by simp [dep], by simp only [wt]; exact h⟩
theorem sm_2 {d w : Nat} {t : Str} {a : DL.D} (ht : gd (.str t) = true) (h : Sm d w a) : Sm (d + 1) (t.cps.size + w + 2) (.tup [.str t, a]) := by
  have st : Sm d t.cps.size (.str t) := ⟨ht, by simp [dep], by simp only [wt]; exact Nat.le_refl _⟩
  refine (sm_all (d := d) (xs := [.str t, a]) ?_ (by simp)).up (Nat.le_refl _) ?_
  · intro x hx
    simp at hx
    rcases hx with rfl | rfl
    · exact ⟨_, st⟩
    · exact ⟨_, h⟩
  · have := h.w
    simp only [wtAll, wt]
    omega
theorem sm_3 {d w1 w2 : Nat} {t : Str} {a b : DL.D} (ht : gd (.str t) = true) (h : Sm d w1 a) (h2 : Sm d w2 b) : Sm (d + 1) (t.cps.size + w1 + w2 + 3) (.tup [.str t, a, b]) := by
  have st : Sm d t.cps.size (.str t) := ⟨ht, by simp [dep], by simp only [wt]; exact Nat.le_refl _⟩
  refine (sm_all (d := d) (xs := [.str t, a, b]) ?_ (by simp)).up (Nat.le_refl _) ?_
  · intro x hx
    simp at hx
    rcases hx with rfl | rfl | rfl
    · exact ⟨_, st⟩
    · exact ⟨_, h⟩
    · exact ⟨_, h2⟩
  · have := h.w
    have := h2.w
    simp only [wtAll, wt]
    omega
theorem Fs.gd {n : Nat} {x : Str} (h : Fs n x) (hn : n ≤ 100000) : gd (.str x) = true := gd_str.mpr ⟨by have := h.1; omega, fun c hc => ok_small (h.2 c hc)⟩
/-- a drawn type -/
def Dn (n : Nat) (v : DL.D) : Prop := (∃ t r, v = .tup (.str t :: r)) ∧ tree v = true ∧ Sm n (16 * 2 ^ n - 6) v
theorem leaf_sm {t y : Str} (ht : t ∈ LV) (fy : Fs 3 y) : Sm 1 9 (.tup [.str t, .str y]) := by
  have st : Sm 0 3 (.str y) := sm_str fy.1 (by omega) fun c hc => ok_small (fy.2 c hc)
  have gt : gd (.str t) = true ∧ t.cps.size = 4 := by
    simp at ht
    rcases ht with rfl | rfl <;> exact ⟨by decide, by decide⟩
  have := sm_2 gt.1 st
  rw [gt.2] at this
  exact this
theorem dn_leaf {n : Nat} {t y : Str} (hn : 1 ≤ n) (ht : t ∈ LV) (fy : Fs 3 y) : Dn n (.tup [.str t, .str y]) := by
  have : 2 ^ 1 ≤ 2 ^ n := Nat.pow_le_pow_right (by omega) hn
  exact ⟨⟨_, _, rfl⟩, rfl, (leaf_sm ht fy).up hn (by omega)⟩
def sp_drawn (N : Nat) : DSp := fun ds M Q => ∃ (a : Addr) (x : Str) (n c : Nat), ds = [.ref a, .str x, .int (n : Nat)] ∧ 1 ≤ n ∧ n < N ∧ Pot M a c ∧ c + (12 * 2 ^ n - 1) ≤ 100000 ∧ 0 < x.cps.size ∧ Fs 100 x ∧
  ∀ v M2, Dn n v → Dr M a M2 (c + (12 * 2 ^ n - 1)) → Q v M2
theorem two_words {d : Int} (h0 : 0 ≤ d) (h1 : d < 2) : ∃ t : Str, t ∈ PR ∧ atI [D.str "cat", .str "or"] d = some (.str t) := by
  rcases (show d = 0 ∨ d = 1 by omega) with rfl | rfl
  · exact ⟨"cat", by simp, rfl⟩
  · exact ⟨"or", by simp, rfl⟩
theorem rd_drawn (N : Nat) : ∀ ds M Q, sp_drawn (N + 1) ds M Q → ds.length = 3 ∧ r__law_type_drawn sp_take sp_leafd (sp_drawn N) { nx := fun _ M' => Q .non M', rt := Q } (dstart N__law_type_drawn ds) M := by
  rintro _ M Q ⟨a, x, n, c, rfl, n1, nN, p, hc, hx, fx, q⟩
  refine ⟨rfl, ?_⟩
  obtain ⟨m, rfl⟩ : ∃ m, n = m + 1 := ⟨n - 1, by omega⟩
  have pw : 2 ^ (m + 1) = 2 * 2 ^ m := by rw [Nat.pow_succ]; omega
  have p1 : 1 ≤ 2 ^ m := Nat.one_le_two_pow
  rw [pw] at hc
  refine ⟨_, rfl, a, 7, c, rfl, p, by omega, by omega, by omega, fun d M1 h0 h1 d1 => ?_⟩
  have leafgo : sp_leafd [.ref a, .str x] M1 Q := ⟨a, x, c + 1, rfl, d1.1, by omega, hx, fx, fun t y M2 ht fy d2 => q _ _ (dn_leaf n1 ht fy) ((d1.trans d2).up (by rw [pw]; omega))⟩
  have arg : ∀ m : Nat, [D.ref a, .str x, .int (((m + 1 : Nat) : Int) - 1)] ++ [] = [D.ref a, .str x, .int (m : Nat)] := fun m => by
    rw [show (((m + 1 : Nat) : Int) - 1) = (m : Int) by omega]; rfl
  refine ⟨_, rfl, decide (((m + 1 : Nat) : Int) = 1), rfl, ?_⟩
  by_cases hm : ((m + 1 : Nat) : Int) = 1
  · rw [decide_eq_true hm]
    exact ⟨_, rfl, _, rfl, leafgo⟩
  rw [decide_eq_false hm]
  refine ⟨_, rfl, decide (d < 2), rfl, ?_⟩
  by_cases h2 : d < 2
  · rw [decide_eq_true h2]
    exact ⟨_, rfl, _, rfl, leafgo⟩
  rw [decide_eq_false h2]
  refine ⟨_, rfl, decide (d = 2), rfl, ?_⟩
  by_cases h3 : d = 2
  · rw [decide_eq_true h3]
    refine ⟨_, rfl, _, rfl, _, rfl, _, _, rfl, rfl, trivial, a, x, m, c + 1, arg m, by omega, by omega, d1.1, by omega, hx, fx, fun v M2 ⟨_, tv, sv⟩ d2 => ⟨small (by simp), ?_⟩⟩
    refine q _ _ ⟨⟨_, _, rfl⟩, by rw [tree, treeAll, treeAll, treeAll, tv]; rfl, (sm_2 (t := "star") rfl sv).up (Nat.le_refl _) ?_⟩ ((d1.trans d2).up (by rw [pw]; omega))
    have : (Str.ofString "star").cps.size = 4 := rfl
    rw [pw]
    omega
  · rw [decide_eq_false h3]
    obtain ⟨t, ht, et⟩ := two_words (d := d % 2) (Int.emod_nonneg _ (by decide)) (Int.emod_lt_of_pos _ (by decide))
    refine ⟨small (by simp), newTr ⟨_, rfl, _, _, rfl, rfl, (by decide : (0 : Int) < 2), _, _, rfl, et, ?_⟩⟩
    refine ⟨_, rfl, _, rfl, _, rfl, _, _, rfl, rfl, trivial, a, x, m, c + 1, arg m, by omega, by omega, d1.1, by omega, hx, fx, fun v M2 ⟨_, tv, sv⟩ d2 => ?_⟩
    refine ⟨_, rfl, _, rfl, _, rfl, _, _, rfl, rfl, trivial, a, x, m, c + 1 + (12 * 2 ^ m - 1), arg m, by omega, by omega, d2.1, by omega, hx, fx, fun v2 M3 ⟨_, tv2, sv2⟩ d3 => ⟨small (by simp), ?_⟩⟩
    have gt : gd (.str t) = true ∧ t.cps.size ≤ 3 := by
      simp at ht
      rcases ht with rfl | rfl <;> exact ⟨by decide, by decide⟩
    refine q _ _ ⟨⟨_, _, rfl⟩, by rw [tree, treeAll, treeAll, treeAll, treeAll, tv, tv2]; rfl, (sm_3 gt.1 sv sv2).up (Nat.le_refl _) ?_⟩ (((d1.trans d2).trans d3).up (by rw [pw]; omega))
    have := gt.2
    rw [pw]
    omega
/-! ### stars -/
def sp_stars : DSp := fun ds M Q => ∃ (k : Nat) (v : DL.D) (d w : Nat), ds = [.int (k : Nat), v] ∧ k ≤ 31 ∧ Sm d w v ∧ ∀ u, Sm (d + k) (w + 6 * k) u → Q u M
theorem rd_stars : ∀ ds M Q, sp_stars ds M Q → ds.length = 2 ∧ r__law_stars { nx := fun _ M' => Q .non M', rt := Q } (dstart N__law_stars ds) M := by
  rintro _ M Q ⟨k, v, d, w, rfl, hk, sv, q⟩
  refine ⟨rfl, ?_⟩
  refine ⟨_, rfl, (k : Int), rfl, by omega, by omega, ?_⟩
  have lr : (rgD 0 (k : Int).toNat).length = k := by unfold rgD; simp
  refine for_inv (fun n ρ M' => ∃ u x2, ρ = [some (.int (k : Nat)), some u, x2] ∧ M' = M ∧ Sm (d + n) (w + 6 * n) u) (fun _ _ _ _ => trivial) _ 0 _ _ ⟨v, none, rfl, rfl, sv⟩ ?_ ?_
  · rintro x hx n ρ M' ⟨u, x2, rfl, rfl, su⟩ hn N hN
    refine ⟨_, rfl, small (by simp), hN _ _ ⟨_, _, rfl, rfl, ?_⟩⟩
    have := sm_2 (t := "star") rfl su
    have e : (Str.ofString "star").cps.size = 4 := rfl
    exact this.up (by omega) (by omega)
  · rintro ρ' M' ⟨u, x2, rfl, rfl, su⟩
    rw [lr, Nat.zero_add] at su
    exact ⟨_, rfl, q u su⟩
end K01

/-! K01h: rows; types at the bounds. -/
namespace K01
open PySem PySem.Spec DL
open L2 (atI ixN)
open PyProof.Rows hiding St signs

/-! ### rows -/
def pairUp : List DL.D → List DL.D
  | a :: b :: r => .tup [.str "cat", a, b] :: pairUp r
  | _ => []
def restOf : List DL.D → List DL.D
  | _ :: _ :: r => restOf r
  | l => l
def tot (l : List DL.D) : Nat := (l.map fun r => wt r + 6).sum
theorem pair_zip : ∀ l : List DL.D, (pairs (ev l) (ev l.tail)).map (fun d => match d with | .tup [a, b] => D.tup [.str "cat", a, b] | _ => .non) = pairUp l
  | [] => rfl
  | [_] => by simp [ev, pairs, pairUp]
  | a :: b :: r => by
    have ih := pair_zip r
    have e : ev ((a :: b :: r).tail) = b :: ev r.tail := by cases r <;> rfl
    rw [e]
    show List.map _ (pairs (a :: ev r) (b :: ev r.tail)) = _
    unfold pairs at ih ⊢
    rw [List.zip_cons_cons, List.map_cons, List.map_cons, ih]
    rfl
theorem rest_drop : ∀ l : List DL.D, l.drop (l.length - l.length % 2) = restOf l
  | [] => rfl
  | [_] => rfl
  | a :: b :: r => by
    have ih := rest_drop r
    have h : (a :: b :: r).length - (a :: b :: r).length % 2 = (r.length - r.length % 2) + 2 := by
      simp only [List.length_cons]
      omega
    rw [h]
    show (a :: b :: r).drop ((r.length - r.length % 2) + 1 + 1) = restOf r
    rw [List.drop_succ_cons, List.drop_succ_cons, ih]
theorem tot_pair : ∀ l : List DL.D, tot (pairUp l ++ restOf l) = tot l
  | [] => rfl
  | [_] => rfl
  | a :: b :: r => by
    have ih := tot_pair r
    show tot (.tup [.str "cat", a, b] :: (pairUp r ++ restOf r)) = tot (a :: b :: r)
    have e : ∀ (x : DL.D) (l : List DL.D), tot (x :: l) = wt x + 6 + tot l := fun x l => by simp [tot]
    rw [e, e, e, ih]
    have w : wt (.tup [.str "cat", a, b]) = wt a + wt b + 6 := by
      have : (Str.ofString "cat").cps.size = 3 := rfl
      simp only [wt, wtAll]
      omega
    rw [w]
    omega
theorem len_pair : ∀ l : List DL.D, (pairUp l ++ restOf l).length = (l.length + 1) / 2
  | [] => rfl
  | [_] => by simp [pairUp, restOf]
  | a :: b :: r => by
    have ih := len_pair r
    show (pairUp r ++ restOf r).length + 1 = _
    rw [ih]
    simp only [List.length_cons]
    omega
theorem mem_pair {d : Nat} : ∀ l : List DL.D, (∀ x ∈ l, gd x = true ∧ dep x ≤ d) → ∀ x ∈ pairUp l ++ restOf l, gd x = true ∧ dep x ≤ d + 1
  | [], _, x, h => by simp [pairUp, restOf] at h
  | [a], g, x, h => by
    simp [pairUp, restOf] at h
    subst h
    have := g x (by simp)
    exact ⟨this.1, by omega⟩
  | a :: b :: r, g, x, h => by
    have h' : x ∈ D.tup [.str "cat", a, b] :: (pairUp r ++ restOf r) := h
    rcases List.mem_cons.mp h' with rfl | h'
    · obtain ⟨g1, d1⟩ := g a (by simp)
      obtain ⟨g2, d2⟩ := g b (by simp)
      have := sm_3 (t := "cat") (d := d) rfl ⟨g1, d1, Nat.le_refl _⟩ ⟨g2, d2, Nat.le_refl _⟩
      exact ⟨this.g, this.d⟩
    · exact mem_pair r (fun y hy => g y (List.mem_cons_of_mem _ (List.mem_cons_of_mem _ hy))) x h'
theorem tot_mem {x : DL.D} : ∀ {l : List DL.D}, x ∈ l → wt x + 6 ≤ tot l
  | y :: l, h => by
    have e : tot (y :: l) = wt y + 6 + tot l := by simp [tot]
    rcases List.mem_cons.mp h with rfl | h
    · omega
    · have := tot_mem h; omega
def sp_row : DSp := fun ds M Q => ∃ (m : Nat) (v : DL.D) (d w : Nat), ds = [.int (m : Nat), v] ∧ 1 ≤ m ∧ m ≤ 61 ∧ Sm d w v ∧ ∀ u, Sm (d + 6) (61 * (w + 6)) u → Q u M
theorem rd_row : ∀ ds M Q, sp_row ds M Q → ds.length = 2 ∧ r__law_row { nx := fun _ M' => Q .non M', rt := Q } (dstart N__law_row ds) M := by
  rintro _ M Q ⟨m, v, d, w, rfl, m1, m61, sv, q⟩
  refine ⟨rfl, ?_⟩
  refine ⟨_, rfl, small (by simp), newTr ⟨_, rfl, [v], rfl, by omega, by omega, ?_, newTr ?_⟩⟩
  · exact small (by simp; omega)
  have e0 : (List.replicate ((m : Nat) : Int).toNat [v]).flatten = List.replicate m v := by
    rw [Int.toNat_natCast]
    generalize m = k
    induction k with
    | zero => rfl
    | succ k ih => rw [List.replicate_succ, List.flatten_cons, ih, List.replicate_succ]; rfl
  rw [e0]
  have t0 : tot (List.replicate m v) ≤ 61 * (w + 6) := by
    have h1 : tot (List.replicate m v) = m * (wt v + 6) := by simp [tot]
    rw [h1]
    have := sv.w
    exact Nat.mul_le_mul m61 (by omega)
  refine ⟨fun k ρ M' => ∃ rows i x3 x4 x5, ρ = [some (.int (m : Nat)), some v, some (.lst rows), x3, x4, x5] ∧ M' = M ∧ k = rows.length ∧ 1 ≤ rows.length ∧ rows.length ≤ 61 ∧ i ≤ 6 ∧ (rows.length - 1) * 2 ^ i ≤ m - 1 ∧
      (∀ r ∈ rows, gd r = true ∧ dep r ≤ d + i) ∧ tot rows ≤ 61 * (w + 6),
    ⟨m, List.replicate m v, 0, none, none, none, rfl, rfl, by simp, by simpa using m1, by simpa using m61, by omega, by simp, fun r hr => by rw [List.eq_of_mem_replicate hr]; exact ⟨sv.g, sv.d⟩, t0⟩, ?_⟩
  rintro k ρ M' ⟨rows, i, x3, x4, x5, rfl, rfl, rfl, l1, l61, i6, lp, all, tt⟩
  refine ⟨_, rfl, rows, rfl, _, _, rfl, rfl, trivial, decide ((1 : Int) < (rows.length : Int)), rfl, ?_⟩
  by_cases hl : (1 : Int) < (rows.length : Int)
  case neg =>
    rw [decide_eq_false hl]
    have e1 : rows.length = 1 := by omega
    obtain ⟨r, rfl⟩ := List.length_eq_one_iff.mp e1
    obtain ⟨g1, d1⟩ := all r (by simp)
    have := tot_mem (x := r) (l := [r]) (by simp)
    exact ⟨_, rfl, [r], r, rfl, ix0, q r ⟨g1, by omega, by omega⟩⟩
  rw [decide_eq_true hl]
  have i5 : i ≤ 5 := by
    apply Decidable.byContradiction
    intro h
    have e6 : i = 6 := by omega
    rw [e6] at lp
    omega
  refine ⟨fun ρ' M'' => ∃ m', m' < rows.length ∧ ∃ rows i x3 x4 x5, ρ' = [some (.int (m : Nat)), some v, some (.lst rows), x3, x4, x5] ∧ M'' = M' ∧ m' = rows.length ∧ 1 ≤ rows.length ∧ rows.length ≤ 61 ∧ i ≤ 6 ∧ (rows.length - 1) * 2 ^ i ≤ m - 1 ∧
      (∀ r ∈ rows, gd r = true ∧ dep r ≤ d + i) ∧ tot rows ≤ 61 * (w + 6), fun ρ' M' h => h, ?_⟩
  refine ⟨_, rfl, rows, rfl, newTr ⟨_, rfl, rows, rfl, newTr ⟨_, _, rfl, rfl, ?_⟩⟩⟩
  have pl : (pairs (ev rows) (ev rows.tail)).length ≤ 100 := by
    unfold pairs
    rw [List.length_map, List.length_zip, ev_length]
    omega
  refine lc_map (fun d => match d with | .tup [a, b] => D.tup [.str "cat", a, b] | _ => .non) ⟨rfl, rfl⟩ _ [] ?_ (small (by simpa using by omega)) ?_
  · intro z hz K1 K2 hk
    unfold pairs at hz
    obtain ⟨⟨a, b⟩, _, rfl⟩ := List.mem_map.mp hz
    exact ⟨_, rfl, rfl, _, _, rfl, _, _, rfl, rfl, _, rfl, _, rfl, small (by simp), hk⟩
  · rw [List.nil_append, pair_zip]
    refine newTr ⟨_, rfl, _, rfl, _, rfl, rows, rfl, _, rfl, rows, rfl, _, _, rfl, rfl, (by decide : (0 : Int) < 2), _, _, rfl, rfl, trivial, _, rfl, rows, rfl, newTr ?_⟩
    have ec : DL.cutD rows (some ((rows.length : Int) - (rows.length : Int) % 2)) none = restOf rows := by
      have : ((rows.length : Int) - (rows.length : Int) % 2) = ((rows.length - rows.length % 2 : Nat) : Int) := by omega
      rw [this, cut_from, rest_drop]
    rw [ec]
    have ln := len_pair rows
    rw [List.length_append] at ln
    refine ⟨_, _, rfl, rfl, small (by omega), newTr ?_⟩
    refine ⟨_, ?_, pairUp rows ++ restOf rows, i + 1, _, _, _, rfl, rfl, rfl, ?_, ?_, by omega, ?_, ?_, ?_⟩
    · rw [len_pair]; omega
    · rw [len_pair]; omega
    · rw [len_pair]; omega
    · rw [len_pair, Nat.pow_succ]
      have h1 : ((rows.length + 1) / 2 - 1) * 2 ≤ rows.length - 1 := by omega
      calc ((rows.length + 1) / 2 - 1) * (2 ^ i * 2) = (((rows.length + 1) / 2 - 1) * 2) * 2 ^ i := by rw [Nat.mul_comm (2 ^ i) 2, Nat.mul_assoc]
        _ ≤ (rows.length - 1) * 2 ^ i := Nat.mul_le_mul_right _ h1
        _ ≤ m - 1 := lp
    · intro r hr
      have := mem_pair rows all r hr
      exact ⟨this.1, by omega⟩
    · rw [tot_pair]; exact tt
end K01

/-! K01i: the pots, the types at the bounds, the law. -/
namespace K01
open PySem PySem.Spec DL
open L2 (atI ixN)
open PyProof.Rows hiding St signs

abbrev Bd : DL.D → Prop := Sm 40 2000
theorem bd_2 {t : Str} {a : DL.D} (ht : gd (.str t) = true) (hz : t.cps.size ≤ 10) (h : Sm 39 1900 a) : Bd (.tup [.str t, a]) := (sm_2 ht h).up (by omega) (by omega)
theorem bd_3 {t : Str} {a b : DL.D} (ht : gd (.str t) = true) (hz : t.cps.size ≤ 10) (h : Sm 39 900 a) (h2 : Sm 39 900 b) : Bd (.tup [.str t, a, b]) := (sm_3 ht h h2).up (by omega) (by omega)
theorem last_in {l : List Nat} (h : l ≠ []) : ∃ c ∈ l, atI l (-1) = some c := by
  rcases List.eq_nil_or_concat l with rfl | ⟨l', c, rfl⟩
  · exact absurd rfl h
  · rw [List.concat_eq_append]
    exact ⟨c, by simp, L2.atI_last l' c⟩
theorem rep_sm {c : Nat} (hc : c < 128) (n : Nat) (hn : n ≤ 100) : Sm 0 100 (.str (repS (sg c) (n : Nat))) := by
  have e : (repS (sg c) (n : Nat)).cps.toList = List.replicate n c := by
    unfold repS sg
    rw [Int.toNat_natCast]
    show (List.replicate n [c]).flatten = _
    induction n with
    | zero => rfl
    | succ n ih => rw [List.replicate_succ, List.flatten_cons, ih (by omega), List.replicate_succ]; rfl
  refine sm_str ?_ (by omega) fun d hd => ?_
  · rw [← Array.length_toList, e, List.length_replicate]; exact hn
  · rw [e] at hd
    rw [List.eq_of_mem_replicate hd]; exact hc
def sp_bounds : DSp := fun ds M Q => ∃ (a : Addr) (x : Str) (c : Nat), ds = [.ref a, .str x] ∧ Pot M a c ∧ c + 5 ≤ 100000 ∧ 0 < x.cps.size ∧ Fs 3 x ∧
  ∀ vs M2, vs.length ≤ 60 → (∀ v ∈ vs, Bd v) → Dr M a M2 (c + 5) → Q (.lst vs) M2
theorem rd_bounds : ∀ ds M Q, sp_bounds ds M Q → ds.length = 2 ∧ r__law_bounds sp_leafd sp_row sp_stars sp_signs { nx := fun _ M' => Q .non M', rt := Q } (dstart N__law_bounds ds) M := by
  rintro _ M Q ⟨a, x, c, rfl, p, hc, hx, fx, q⟩
  refine ⟨rfl, ?_⟩
  have f100 : Fs 100 x := ⟨by have := fx.1; omega, fx.2⟩
  have sx : x.length ≤ sizeLine := small (by have := fx.1; have : x.length = x.cps.size := rfl; omega)
  have gx := fx.gd (by omega)
  refine ⟨_, rfl, _, rfl, a, x, c, rfl, p, by omega, hx, f100, fun t y M1 ht fy d1 => ?_⟩
  have sl := leaf_sm ht fy
  generalize D.tup [.str t, .str y] = lf at sl
  obtain ⟨c0, hc0, e0⟩ := at_in (xs := x.cps.toList) (d := 0) (by omega) (by rw [Array.length_toList]; omega)
  obtain ⟨c9, hc9, e9⟩ := last_in (l := x.cps.toList) (by intro h; have := congrArg List.length h; rw [Array.length_toList] at this; have h2 : x.cps.size = 0 := this; omega)
  have k0 := ok_small (fx.2 c0 hc0)
  have k9 := ok_small (fx.2 c9 hc9)
  refine ⟨_, rfl, 60, lf, 1, 9, rfl, by omega, by omega, sl, fun row sr => ?_⟩
  refine ⟨_, rfl, _, rfl, 61, lf, 1, 9, rfl, by omega, by omega, sl, fun row2 sr2 => ⟨_, rfl, small (by simp), _, rfl, small (by simp), small (by simp), small (by simp), newTr ?_⟩⟩
  refine ⟨_, rfl, _, rfl, 29, lf, 1, 9, rfl, by omega, sl, fun u1 s1 => ⟨_, rfl, 30, lf, 1, 9, rfl, by omega, sl, fun u2 s2 => ⟨_, rfl, 31, lf, 1, 9, rfl, by omega, sl, fun u3 s3 => ?_⟩⟩⟩
  have one : (sg c0).length ≤ 1024 := by show 1 ≤ 1024; omega
  refine ⟨_, rfl, sx, c0, e0, by decide, by decide, one, small (by simp), small (by simp), newTr ⟨_, _, rfl, rfl, small (by simp), newTr ?_⟩⟩
  refine ⟨_, rfl, _, rfl, sx, c0, e0, by decide, by decide, one, small (by simp), rfl, small (by simp), _, rfl, sx, small (by simp), small (by simp), newTr ⟨_, _, rfl, rfl, small (by simp), newTr ?_⟩⟩
  refine ⟨_, rfl, _, rfl, _, rfl, 1, rfl, sx, c9, e9, ?_⟩
  have lg : ∀ y : Str, (y.cps.size ≤ 3) → y.length + (sg c9).length ≤ sizeLine := fun y h => small (n := y.cps.size + 1) (by omega)
  refine ⟨lg x fx.1, small (by simp), small (by simp), small (by simp), small (by simp), small (by simp), small (by simp), newTr ⟨_, _, rfl, rfl, small (by simp), newTr ?_⟩⟩
  refine ⟨_, rfl, _, rfl, small (by simp), _, rfl, small (by simp), _, rfl, _, rfl, small (by simp), _, rfl, _, rfl, _, rfl, small (by simp), small (by simp), small (by simp), newTr ⟨_, _, rfl, rfl, small (by simp), newTr ?_⟩⟩
  refine ⟨_, rfl, _, rfl, small (by simp), small (by simp), newTr ⟨_, rfl, small (by simp), small (by simp), small (by simp), newTr ⟨_, _, rfl, rfl, small (by simp), newTr ?_⟩⟩⟩
  refine q _ M1 (by simp) ?_ d1
  have w : ∀ t : Str, gd (.str t) = true → t.cps.size ≤ 10 → Sm 39 900 (.str t) := fun t h1 h2 => ⟨h1, by simp [dep], by simp only [wt]; omega⟩
  have w3 : ∀ t : Str, gd (.str t) = true → t.cps.size ≤ 10 → Sm 39 1900 (.str t) := fun t h1 h2 => (w t h1 h2).up (by omega) (by omega)
  have l1 : Sm 39 1900 lf := sl.up (by omega) (by omega)
  have l9 : Sm 39 900 lf := sl.up (by omega) (by omega)
  have r1 : Sm 39 1900 row := sr.up (by omega) (by omega)
  have r20 := rep_sm k0 20 (by omega)
  have r21 := rep_sm k0 21 (by omega)
  have xr : Sm 39 1900 (.str (revT x)) := by
    refine (sm_str (w := 3) ?_ (by omega) fun d hd => ?_).up (by omega) (by omega)
    · show x.cps.toList.reverse.toArray.size ≤ 3
      rw [List.size_toArray, List.length_reverse, Array.length_toList]; exact fx.1
    · exact ok_small (fx.2 d (List.mem_reverse.mp hd))
  have xl : Sm 39 1900 (.str (x ++ sg c9)) := by
    have g9 : gd (.str (sg c9)) = true := by
      refine gd_str.mpr ⟨?_, fun c hc => ?_⟩
      · show 1 ≤ 100000
        omega
      · have e : c = c9 := by simpa [sg] using hc
        rw [e]; exact k9
    obtain ⟨h1, h2⟩ := gd_app gx g9 (by have := fx.1; have : (sg c9).cps.size = 1 := rfl; omega)
    refine ⟨h1, by simp [dep], ?_⟩
    have := fx.1
    have : (sg c9).cps.size = 1 := rfl
    simp only [wt]
    omega
  have sst : Sm 39 1900 (.tup [.str "star", row]) := (sm_2 (t := "star") rfl sr).up (by omega) (by have : (Str.ofString "star").cps.size = 4 := rfl; omega)
  have sgs : Sm 39 1900 (.str SIG) := ⟨by decide +kernel, by simp [dep], by
    have e : SIG.cps.size = 44 := (by decide +kernel)
    simp only [wt]
    omega⟩
  intro v hv
  simp only [List.mem_append, List.mem_cons, List.not_mem_nil, or_false, or_assoc] at hv
  rcases hv with rfl | rfl | rfl | rfl | rfl | rfl | rfl | rfl | rfl | rfl | rfl | rfl | rfl | rfl | rfl | rfl | rfl | rfl | rfl | rfl | rfl | rfl | rfl | rfl | rfl
  · exact sr.up (by omega) (by omega)
  · exact sr2.up (by omega) (by omega)
  · exact bd_2 (t := "star") rfl (by decide) r1
  · exact bd_2 (t := "star") rfl (by decide) sst
  · exact s1.up (by omega) (by omega)
  · exact s2.up (by omega) (by omega)
  · exact s3.up (by omega) (by omega)
  · exact bd_2 (t := "text") rfl (by decide) (r20.up (by omega) (by omega))
  · exact bd_2 (t := "text") rfl (by decide) (r21.up (by omega) (by omega))
  · exact bd_2 (t := "sign") rfl (by decide) sgs
  · exact bd_2 (t := "sign") rfl (by decide) xr
  · exact bd_2 (t := "sign") rfl (by decide) xl
  · exact bd_2 (t := "sign") rfl (by decide) (w3 "" rfl (by decide))
  · exact bd_2 (t := "text") rfl (by decide) (w3 "" rfl (by decide))
  · exact bd_2 (t := "text") rfl (by decide) (w3 "A" rfl (by decide))
  · exact bd_2 (t := "sign") rfl (by decide) (w3 "A" rfl (by decide))
  · exact bd_2 (t := "cat") rfl (by decide) l1
  · exact bd_2 (t := "or") rfl (by decide) l1
  · exact bd_3 (t := "star") rfl (by decide) l9 l9
  · refine (sm_all (d := 39) (xs := [.str "cat", lf, lf, lf]) ?_ (by simp)).up (by omega) ?_
    · intro z hz
      simp at hz
      rcases hz with rfl | rfl
      · exact ⟨_, w "cat" rfl (by decide)⟩
      · exact ⟨_, l9⟩
    · have := sl.w
      have : (Str.ofString "cat").cps.size = 3 := rfl
      simp only [wtAll, wt]
      omega
  · exact ⟨rfl, by decide, by decide⟩
  · exact bd_2 (t := "keep") rfl (by decide) l1
  · exact ⟨rfl, by decide, by decide⟩
  · exact bd_3 (t := "cat") rfl (by decide) l9 ⟨rfl, by simp [dep], by simp [wt]⟩
  · exact ⟨rfl, by decide, by decide⟩
end K01

/-! K01j: all is right; the pots; the law. -/
namespace K01
open PySem PySem.Spec DL
open L2 (atI ixN)
open PyProof.Rows hiding St signs

theorem fair_of {d w : Nat} {v : DL.D} (h : Sm d w v) (hd : d ≤ 60) (hw : w ≤ 8000) : Fair v := ⟨h.g, Nat.le_trans h.d hd, Nat.le_trans h.w hw⟩
/-- many Trues -/
theorem trues : ∀ {xs : List DL.D}, (∀ d ∈ xs, d = .bl true) → ∃ bs : List Bool, some xs = some (bs.map D.bl) ∧ bs.all id = true
  | [], _ => ⟨[], rfl, rfl⟩
  | x :: xs, h => by
    obtain ⟨bs, e1, e2⟩ := trues (xs := xs) fun d hd => h d (List.mem_cons_of_mem _ hd)
    refine ⟨true :: bs, ?_, by simpa using e2⟩
    rw [List.map_cons, ← Option.some.inj e1, h x List.mem_cons_self]
def sp_lright : DSp := fun ds M Q => ∃ (a : Addr) (c : Nat), ds = [.ref a] ∧ Pot M a c ∧ c ≤ 1000 ∧ ∀ M', Q (.bl true) M'
theorem rd_lright : ∀ ds M Q, sp_lright ds M Q → ds.length = 1 ∧ r__law_right sp_few (sp_drawn 5) sp_bounds sp_odd sp_right sp_parts (sp_bent 5) { nx := fun _ M' => Q .non M', rt := Q } (dstart N__law_right ds) M := by
  rintro _ M Q ⟨a, c, rfl, p, hc, q⟩
  refine ⟨rfl, ?_⟩
  refine ⟨_, rfl, a, c, rfl, p, by omega, fun x M1 hx fx d1 => ?_⟩
  have f100 : Fs 100 x := ⟨by have := fx.1; omega, fx.2⟩
  refine ⟨_, rfl, _, rfl, a, x, 4, c + 4, rfl, by omega, by omega, d1.1, by omega, hx, f100, fun v M2 ⟨⟨t, r, ev⟩, tv, sv⟩ d2 => ?_⟩
  have sv2 : Sm 4 250 v := sv.up (by omega) (by decide)
  subst ev
  refine ⟨_, rfl, _, rfl, a, x, c + 4 + (12 * 2 ^ 4 - 1), rfl, d2.1, by omega, hx, fx, fun vs M3 lv av d3 => ?_⟩
  refine ⟨_, rfl, _, rfl, a, c + 4 + (12 * 2 ^ 4 - 1) + 5, rfl, d3.1, by omega, fun o1 M4 g1 e1 w1 d4 => ?_⟩
  refine ⟨_, rfl, a, c + 4 + (12 * 2 ^ 4 - 1) + 5 + 1, rfl, d4.1, by omega, fun o2 M5 g2 e2 w2 d5 => ?_⟩
  refine ⟨small (by simp), newTr ⟨_, _, rfl, rfl, small (by simp; omega), newTr ?_⟩⟩
  have fv : Fair (.tup (.str t :: r)) := fair_of sv2 (by omega) (by omega)
  refine lc_map (fun _ => .bl true) trivial _ [] ?_ (small (by simp; omega)) ?_
  · intro d hd K1 K2 hk
    refine ⟨_, rfl, d, rfl, ?_, hk⟩
    rcases List.mem_append.mp hd with h | h
    · exact fair_of (av d h) (by omega) (by omega)
    · simp at h
      rcases h with rfl | rfl | rfl
      · exact fv
      · exact ⟨g1, by omega, by omega⟩
      · exact ⟨g2, by omega, by omega⟩
  rw [List.nil_append]
  obtain ⟨bs, b1, b2⟩ := trues (xs := (vs ++ [D.tup (.str t :: r), o1, o2]).map fun _ => D.bl true) (by intro d hd; obtain ⟨_, _, e⟩ := List.mem_map.mp hd; exact e.symm)
  refine newTr ⟨_, bs, rfl, b1, true, by rw [b2], ?_⟩
  -- due
  have gv := sv2.g
  obtain ⟨gl, ga⟩ := gd_tup.mp gv
  have lr : r.length ≤ 100000 := by simp at gl; omega
  have due : ∀ Q' : DK, Q' (.tup (partsB (.tup (.str t :: r)))) M5 → dIf (dB (dOp (DL.rInD false) (dOp DL.rIxD (dSlot 2) (dC (.int 0))) (dTup (dCons (dC (.str "text")) (dCons (dC (.str "sign")) dNil))))) (dTup dNil) (dSl true (dSlot 2) (dPart (dC (.int 1))) dNoPart)
      [some (.ref a), some (.str x), some (.tup (.str t :: r)), none, none, none] M5 Q' := by
    intro Q' q'
    refine ⟨_, rfl, _, _, rfl, ix0, small (by simp), ?_⟩
    refine in_texts (neg := false) (ws := LV) ⟨decide (t ∈ LV), rfl, ?_⟩
    have e : partsB (.tup (.str t :: r)) = if t ∈ LV then [] else r := rfl
    rw [e] at q'
    by_cases h : t ∈ LV
    · rw [decide_eq_true h]
      rw [if_pos h] at q'
      exact ⟨small (by simp), q'⟩
    · rw [decide_eq_false h]
      rw [if_neg h] at q'
      refine ⟨_, rfl, 1, rfl, ?_⟩
      show Q' (.tup (DL.cutD (D.str t :: r) (some 1) none)) M5
      rw [cut1]
      exact q'
  refine due _ ?_
  have sp : Fair (.tup (partsB (.tup (.str t :: r)))) := by
    have mem : ∀ y ∈ partsB (.tup (.str t :: r)), y ∈ D.str t :: r := fun y hy => by
      obtain ⟨t', r', e, h⟩ := parts_mem hy
      cases e
      exact List.mem_cons_of_mem _ h
    have l : wtAll (partsB (.tup (.str t :: r))) ≤ wtAll (D.str t :: r) := by
      show wtAll (if t ∈ LV then [] else r) ≤ _
      split
      · simp [wtAll]
      · simp only [wtAll]; omega
    have wv : wtAll (D.str t :: r) ≤ 250 := sv2.w
    obtain ⟨h1, h2, h3⟩ := some_items gv (by omega) mem (by omega)
    have dv := sv2.d
    have wv2 := sv2.w
    exact ⟨h1, by omega, by omega⟩
  obtain ⟨s, hs⟩ := repr_gd sp.1 sp.2.1 sp.2.2
  show dCB rReprD (dCons (dCall sp_parts [] (dCons (dSlot 2) dNil)) dNil) _ _ _
  refine repr_op hs (fun Q' h => ⟨_, rfl, t, r, rfl, lr, h⟩) ?_
  show dCB rReprD (dCons (dSlot 3) dNil) _ _ _
  refine repr_op hs (fun Q' h => ⟨_, rfl, h⟩) ?_
  refine ⟨false, ?_, ?_⟩
  · show D.bl (!decide (s = s)) = _
    rw [decide_eq_true rfl]
    rfl
  -- the bent ones
  refine ⟨12, rfl, by omega, by omega, ?_⟩
  have l12 : (rgD 0 (12 : Int).toNat).length = 12 := by unfold rgD; simp
  refine lc_inv (fun n M' => Dr M5 a M' (c + 300 + 20 * n)) (fun d => d = .bl true) (fun _ _ _ => trivial) _ [] M5 ((Dr.refl d5.1).up (by show _ ≤ c + 300 + 20 * 0; omega)) (fun d hd => nomatch hd) ?_ (small (by rw [l12]; simp)) ?_
  · intro d hd n M' i hn K1 K2 hk
    rw [l12] at hn
    simp at hn
    refine ⟨_, rfl, _, rfl, a, _, c + 300 + 20 * n, rfl, i.1, tv, gv, by have := sv2.d; omega, by have := sv2.d; omega, by omega, by have := sv2.w; omega, fun v' M6 g6 e6 w6 d6 => ?_⟩
    refine ⟨v', rfl, ⟨g6, by have := sv2.d; omega, by have := sv2.w; omega⟩, hk _ _ rfl ((i.trans d6).up (by omega))⟩
  · intro ds M' l pd i
    obtain ⟨bs, b1, b2⟩ := trues pd
    refine newTr ⟨_, bs, rfl, b1, ?_⟩
    show Q (.bl (bs.all id)) M'
    rw [b2]
    exact q M'
/-! ### pots and cells -/
def sp_cells : DSp := fun ds M Q => ∃ ns : List Int, ds = [.slst (ns.map D.int), .int 3] ∧ ns.length ≤ 100000 ∧ ∀ n : Nat, n ≤ 3 → Q (.lst (rgD 0 n)) M
theorem rd_cells : ∀ ds M Q, sp_cells ds M Q → ds.length = 2 ∧ r__law_cells { nx := fun _ M' => Q .non M', rt := Q } (dstart N__law_cells ds) M := by
  rintro _ M Q ⟨ns, rfl, ln, q⟩
  refine ⟨rfl, ?_⟩
  refine ⟨_, rfl, _, rfl, _, rfl, _, _, rfl, _, _, rfl, _, rfl, ?_, ?_, newTr (q _ ?_)⟩
  all_goals
    rw [List.length_map]
    split <;> split <;> omega
def sp_pot : DSp := fun ds M Q => ∃ (ns : List Int) (k : Nat), ds = [.slst (ns.map D.int), .int (k : Nat)] ∧ ns.length ≤ 100000 ∧ k ≤ 10 ∧ ∀ a M', M a = none → Pot M' a 0 → Q (.ref a) M'
theorem pot_cell {ns : List Int} {k : Nat} (ln : ns.length ≤ 100000) (hk : k ≤ 10) {M : Mp} (Q : DK) (q : ∀ cell : Int, Q (.int cell) M) :
    dIf (dB (dOp DL.rLtD (dSlot 1) (dCB DL.rLen (dCons (dSlot 0) dNil)))) (dOp DL.rIxD (dSlot 0) (dSlot 1)) (dOp (rAddD true) (dOp (rAddD true) (dOp (rInt (fun _ j => 0 < j) fun i j => .int (i % j)) (dCB rSumD (dCons (dSl true (dSlot 0) dNoPart (dPart (dC (.int 1)))) dNil)) (dC (.int 1000003))) (dOp (rMulD true) (dC (.int 7038)) (dSlot 1))) (dC (.int 3064)))
      [some (.slst (ns.map D.int)), some (.int (k : Nat)), none, none, none] M Q := by
  refine ⟨_, rfl, _, rfl, _, rfl, decide ((k : Int) < ((ns.map D.int).length : Int)), rfl, ?_⟩
  by_cases h : (k : Int) < ((ns.map D.int).length : Int)
  · rw [decide_eq_true h]
    obtain ⟨y, hy, e⟩ := at_in (xs := ns.map D.int) (d := (k : Int)) (by omega) h
    obtain ⟨cell, _, rfl⟩ := List.mem_map.mp hy
    exact ⟨_, rfl, _, rfl, _, _, rfl, e, q cell⟩
  · rw [decide_eq_false h]
    refine ⟨_, rfl, 1, rfl, _, rfl, newTr ⟨_, ns.take 1, rfl, ?_, _, _, rfl, rfl, (by decide : (0 : Int) < 1000003), _, rfl, mul_ok (by decide) (by omega) (q _)⟩⟩
    show some (DL.cutD (ns.map D.int) none (some ((1 : Nat) : Int))) = _
    rw [cut_to, List.map_take]

def PW : Int := ((10 : Int) ^ (60 : Int).toNat) ^ (5 : Int).toNat
theorem PW_pos : 0 < PW := by decide +kernel
theorem PW_lt : PW < 2 ^ 1000 := by decide +kernel
theorem bits60 : 0 ≤ (5 : Int) ∧ (Builtin.Int.intBits ((10 : Int) ^ (60 : Int).toNat) : Int) * 5 ≤ 2 ^ 27 := by decide +kernel
theorem rd_pot : ∀ ds M Q, sp_pot ds M Q → ds.length = 2 ∧ r__law_pot { nx := fun _ M' => Q .non M', rt := Q } (dstart N__law_pot ds) M := by
  rintro _ M Q ⟨ns, k, rfl, ln, hk, q⟩
  refine ⟨rfl, ?_⟩
  refine pot_cell ln hk _ fun cell => ?_
  have hmul : ∀ {i j : Int} {M : Mp} {Q : DK}, i.natAbs < 2 ^ 64 → j.natAbs < 2 ^ 64 → Q (.int (i * j)) M → rMulD true (.int i) (.int j) M Q := mul_ok
  have hmulW : ∀ {i j : Int} {M : Mp} {Q : DK}, i.natAbs < 2 ^ 1000 → j.natAbs < 2 ^ 64 → Q (.int (i * j)) M → rMulD true (.int i) (.int j) M Q := fun h1 h2 q => ⟨⟨1000, 64, h1, h2, by decide⟩, q⟩
  have hadd : ∀ {i j : Int} {M : Mp} {Q : DK}, Q (.int (i + j)) M → rAddD true (.int i) (.int j) M Q := fun q => q
  have hint : ∀ {i : Int} {M : Mp} {Q : DK}, Q (.int i) M → rIntD [.int i] M Q := fun q => q
  have hbl : ∀ {b : Bool} {M : Mp} {Q : DK}, Q (.int (if b = true then 1 else 0)) M → rIntD [.bl b] M Q := fun q => q
  have habs : ∀ {i : Int} {M : Mp} {Q : DK}, Q (.int (if i < 0 then -i else i)) M → rAbsD [.int i] M Q := fun q => ⟨_, rfl, q⟩
  have hp1 : ∀ {M : Mp} {Q : DK}, Q (.int ((10 : Int) ^ (60 : Int).toNat)) M → rPowD (.int 10) (.int 60) M Q := fun q => ⟨_, _, rfl, rfl, .inl ⟨by decide, by decide, by decide⟩, q⟩
  have hp2 : ∀ {M : Mp} {Q : DK}, Q (.int PW) M → rPowD (.int ((10 : Int) ^ (60 : Int).toNat)) (.int 5) M Q := fun q => ⟨_, _, rfl, rfl, .inr bits60, q⟩
  have hp3 : ∀ {M : Mp} {Q : DK}, Q (.int ((10 : Int) ^ (18 : Int).toNat)) M → rPowD (.int 10) (.int 18) M Q := fun q => ⟨_, _, rfl, rfl, .inl ⟨by decide, by decide, by decide⟩, q⟩
  have own : ∀ b : Bool, 0 ≤ ((if cell < 0 then -cell else cell) % PW) * (if b = true then 1 else 0) := fun b => by
    refine Int.mul_nonneg (Int.emod_nonneg _ (by have := PW_pos; omega)) ?_
    cases b <;> decide
  have own2 : ((if cell < 0 then -cell else cell) % PW).natAbs < 2 ^ 1000 := by
    have h0 := Int.emod_nonneg (if cell < 0 then -cell else cell) (b := PW) (by have := PW_pos; omega)
    have h1 := Int.emod_lt_of_pos (if cell < 0 then -cell else cell) PW_pos
    have h2 := PW_lt
    generalize (if cell < 0 then -cell else cell) % PW = z at h0 h1
    have h3 : z < 2 ^ 1000 := Int.lt_trans h1 h2
    have h4 : ((z.natAbs : Nat) : Int) = z := Int.natAbs_of_nonneg h0
    have h5 : ((z.natAbs : Nat) : Int) < ((2 ^ 1000 : Nat) : Int) := by rw [h4]; exact h3
    exact Int.ofNat_lt.mp h5
  have one : ∀ b : Bool, (if b = true then (1 : Int) else 0).natAbs < 2 ^ 64 := fun b => by cases b <;> decide
  have PWp := PW_pos
  generalize PW = W at hp2 own own2 PWp
  generalize rMulD true = Rm at hmul hmulW ⊢
  generalize rAddD true = Ra at hadd ⊢
  generalize rIntD = Ri at hint hbl ⊢
  generalize rAbsD = Rb at habs ⊢
  generalize rPowD = Rp at hp1 hp2 hp3 ⊢
  refine ⟨_, rfl, habs (hint (hp1 (hp2 ⟨_, _, rfl, rfl, PWp, _, rfl, habs (hp3 ⟨_, _, rfl, rfl, trivial, hbl (hmulW own2 (one _) ?_)⟩)⟩)))⟩
  refine ⟨_, rfl, hint ⟨_, _, rfl, rfl, (by decide : (0 : Int) < 2305843009213693951), ?_⟩⟩
  have s0 := Int.emod_nonneg cell (b := 2305843009213693951) (by decide)
  have s1 := Int.emod_lt_of_pos cell (b := 2305843009213693951) (by decide)
  refine ⟨_, rfl, _, rfl, hmul (by omega) (by decide) ⟨_, rfl, hmul (by decide) (by omega) ⟨_, rfl, hmul (by omega) (by omega) (hadd (hadd (hint ⟨_, _, rfl, rfl, (by decide : (0 : Int) < 2305843009213693921), small (by simp), ?_⟩)))⟩⟩⟩
  intro a ha
  refine q a _ ha ⟨_, _, 0, mu_same, own _, Int.emod_nonneg _ (by decide), ?_, by decide, by decide⟩
  have := Int.emod_lt_of_pos (cell % 2305843009213693951 * 77419 + 8652 * (k : Int) * (k : Int) + 108) (b := 2305843009213693921) (by decide)
  omega
def sp_law : DSp := fun ds M Q => ∃ ns : List Int, ds = [.slst (ns.map D.int)] ∧ ns.length ≤ 63 ∧ ∀ M', Q (.bl true) M'
theorem rd_law : ∀ ds M Q, sp_law ds M Q → ds.length = 1 ∧ r_law sp_cells sp_lright sp_pot { nx := fun _ M' => Q .non M', rt := Q } (dstart N_law ds) M := by
  rintro _ M Q ⟨ns, rfl, ln, q⟩
  refine ⟨rfl, ?_⟩
  refine ⟨_, rfl, ns, rfl, by omega, fun n hn => ?_⟩
  have lr : (rgD 0 n).length = n := by unfold rgD; simp
  refine lc_inv (fun _ _ => True) (fun d => d = .bl true) (fun _ _ _ => trivial) _ [] M trivial (fun d hd => nomatch hd) ?_ (small (by rw [lr]; simp; omega)) ?_
  · intro d hd m M' _ hm K1 K2 hk
    unfold rgD at hd
    obtain ⟨i, hi, rfl⟩ := List.mem_map.mp hd
    have hi' := List.mem_range.mp hi
    refine ⟨_, rfl, _, rfl, ns, i, by simp, by omega, by omega, fun a M2 ha pa => ?_⟩
    exact ⟨a, 0, rfl, pa, by omega, fun M3 => hk _ _ rfl trivial⟩
  · intro ds M' l pd _
    obtain ⟨bs, b1, b2⟩ := trues pd
    refine newTr ⟨_, bs, rfl, b1, ?_⟩
    show Q (.bl (bs.all id)) M'
    rw [b2]
    exact q M'
end K01

/-! K01k: the defs together; the end. -/
namespace K01
open PySem PySem.Spec L2 DL
open PyProof.Rows hiding St

section
variable {P : Program} {w : World} {K : PySem.W.Frag} {mg : Str → Option Value} {base : Heap}
theorem all_law (T : Txt K mg) {f : Addr} {oc : Value} {od : Option Addr} {dV kV doc pm : Value} {an : Option Addr} {cd ct : Value} {osl : Array (Option Value)}
    (lk : K.lookup f = some ⟨oc, od, .func (PySem.W.fnOf "law" "law" (L2.defArgs st_law) (L2.defBody st_law) (L2.defScope st_law) dV kV doc pm an cd ct), osl⟩) (hcd : PySem.W.codeIn K cd "law" = true) :
    GnOk P w K mg base CX0 51 f (PySem.W.fnOf "law" "law" (L2.defArgs st_law) (L2.defBody st_law) (L2.defScope st_law) dV kV doc pm an cd ct) ["script"] (lift K sp_law) := by
  have t1 := c_is_tuple (P := P) (w := w) (base := base) (k := 0) T rd_tuple
  have t2 := c_is_word (P := P) (w := w) (base := base) (k := 0) T rd_word
  have t3 := c_is_text (P := P) (w := w) (base := base) (k := 0) T rd_text
  have t4 := c_is_leaf (k := 1) T t3 rd_leaf
  have t5 := c_is_node (k := 2) T (t1.mono (by decide)) (t2.mono (by decide)) t4 rd_node
  have t6 := c_parts_of (P := P) (w := w) (base := base) (k := 0) T rd_parts
  have t7 := (c_is_type (k := 3) T t5 (t6.mono (by decide)) rd_type).weak wk_type
  have u1 := c__law_take (P := P) (w := w) (base := base) (k := 0) T rd_take
  have u2 := c__law_of (k := 1) T u1 rd_of
  have u3 := (c__law_some (k := 1) T u1 rd_some).weak wk_some
  have u4 := c__law_signs (P := P) (w := w) (base := base) (k := 0) T rd_signs
  have u5 := c__law_few (k := 2) T u3 u2 (u4.mono (by decide)) rd_few
  have u6 := c__law_leaf (k := 2) T (u1.mono (by decide)) u2 rd_leafd
  have u7 := c__law_odd (k := 2) T u2 rd_odd
  have v1 := c__law_is_text (k := 1) T u4 rd_ltext
  have v2 := c__law_is_node (k := 2) T v1 rd_lnode
  have lt : ∀ N : Nat, Cal P w K mg base (N + 3) "_law_is_type" [] (sp_lt N) := by
    intro N
    induction N with
    | zero => exact (Cal.none T.h__law_is_type fun ds M Q h => by obtain ⟨_, n, _, h, _⟩ := h; omega).mono (by decide)
    | succ N ih => exact c__law_is_type (k := N + 3) T (v2.mono (by omega)) ih (rd_lt N)
  have dr : ∀ N : Nat, Cal P w K mg base (N + 3) "_law_type_drawn" [] (sp_drawn N) := by
    intro N
    induction N with
    | zero => exact (Cal.none T.h__law_type_drawn fun ds M Q h => by obtain ⟨_, _, n, _, _, h1, h2, _⟩ := h; omega).mono (by decide)
    | succ N ih => exact c__law_type_drawn (k := N + 3) T (u1.mono (by omega)) (u6.mono (by omega)) ih (rd_drawn N)
  have be : ∀ N : Nat, Cal P w K mg base (N + 3) "_law_bent" [] (sp_bent N) := by
    intro N
    induction N with
    | zero => exact (Cal.none T.h__law_bent fun ds M Q h => by obtain ⟨_, _, _, _, _, _, _, h, _⟩ := h; omega).mono (by decide)
    | succ N ih => exact c__law_bent (k := N + 3) T (u1.mono (by omega)) ih (u2.mono (by omega)) (u7.mono (by omega)) (rd_bent N)
  have w1 := c__law_row (P := P) (w := w) (base := base) (k := 0) T rd_row
  have w2 := c__law_stars (P := P) (w := w) (base := base) (k := 0) T rd_stars
  have w3 := c__law_bounds (k := 3) T u6 (w1.mono (by decide)) (w2.mono (by decide)) (u4.mono (by decide)) rd_bounds
  have w4 := c__law_is_right (k := 34) T (lt 31) (t7.mono (by decide)) rd_right
  have w5 := c__law_right (k := 40) T (u5.mono (by decide)) ((dr 5).mono (by decide)) (w3.mono (by decide)) (u7.mono (by decide)) (w4.mono (by decide)) (t6.mono (by decide)) ((be 5).mono (by decide)) rd_lright
  have w6 := c__law_pot (P := P) (w := w) (base := base) (k := 0) T rd_pot
  have w7 := c__law_cells (P := P) (w := w) (base := base) (k := 0) T rd_cells
  exact c_law (k := 50) T (w7.mono (by decide)) (w5.mono (by decide)) (w6.mono (by decide)) lk hcd rd_law
end
theorem txt_mk {K : PySem.W.Frag} {h : Heap} {mg : Str → Option Value} (X : K.In h) (G : h.Ns mainGlobals mg) {T_LEAVES : Addr} {od_LEAVES : Option Addr} {its_LEAVES : Array Value} {n_LEAVES : Nat} {sl_LEAVES : Array (Option Value)} {t_MOST_DEEP : Tok} {t_MOST_LEAF : Tok} {t_MOST_NODES : Tok} {t_PAIR : Tok} {T_PAIRS : Addr} {od_PAIRS : Option Addr} {its_PAIRS : Array Value} {n_PAIRS : Nat} {sl_PAIRS : Array (Option Value)} {t_SIGNS : Tok} {t_TEXT : Tok} {t_TRIPLE : Tok} {T_WORDS : Addr} {od_WORDS : Option Addr} {its_WORDS : Array Value} {n_WORDS : Nat} {sl_WORDS : Array (Option Value)}
    (z_abs : PySem.W.nsIn K mainGlobals "abs" = some none)
    (z_all : PySem.W.nsIn K mainGlobals "all" = some none)
    (z_bool : PySem.W.nsIn K mainGlobals "bool" = some none)
    (z_int : PySem.W.nsIn K mainGlobals "int" = some none)
    (z_isinstance : PySem.W.nsIn K mainGlobals "isinstance" = some none)
    (z_len : PySem.W.nsIn K mainGlobals "len" = some none)
    (z_list : PySem.W.nsIn K mainGlobals "list" = some none)
    (z_max : PySem.W.nsIn K mainGlobals "max" = some none)
    (z_min : PySem.W.nsIn K mainGlobals "min" = some none)
    (z_range : PySem.W.nsIn K mainGlobals "range" = some none)
    (z_repr : PySem.W.nsIn K mainGlobals "repr" = some none)
    (z_set : PySem.W.nsIn K mainGlobals "set" = some none)
    (z_sorted : PySem.W.nsIn K mainGlobals "sorted" = some none)
    (z_str : PySem.W.nsIn K mainGlobals "str" = some none)
    (z_sum : PySem.W.nsIn K mainGlobals "sum" = some none)
    (z_tuple : PySem.W.nsIn K mainGlobals "tuple" = some none)
    (z_zip : PySem.W.nsIn K mainGlobals "zip" = some none)
    (a_LEAVES : PySem.W.nsIn K mainGlobals "LEAVES" = some (some (.ref T_LEAVES))) (l_LEAVES : K.lookup T_LEAVES = some ⟨.type "tuple", od_LEAVES, .seq its_LEAVES n_LEAVES, sl_LEAVES⟩) (v_LEAVESx : Vals ((["text", "sign"] : List Str).map L2.V.str) its_LEAVES.toList)
    (a_MOST_DEEP : PySem.W.nsIn K mainGlobals "MOST_DEEP" = some (some (.int 30 t_MOST_DEEP)))
    (a_MOST_LEAF : PySem.W.nsIn K mainGlobals "MOST_LEAF" = some (some (.int 20 t_MOST_LEAF)))
    (a_MOST_NODES : PySem.W.nsIn K mainGlobals "MOST_NODES" = some (some (.int 120 t_MOST_NODES)))
    (a_PAIR : PySem.W.nsIn K mainGlobals "PAIR" = some (some (.int 2 t_PAIR)))
    (a_PAIRS : PySem.W.nsIn K mainGlobals "PAIRS" = some (some (.ref T_PAIRS))) (l_PAIRS : K.lookup T_PAIRS = some ⟨.type "tuple", od_PAIRS, .seq its_PAIRS n_PAIRS, sl_PAIRS⟩) (v_PAIRSx : Vals ((["cat", "or"] : List Str).map L2.V.str) its_PAIRS.toList)
    (a_SIGNS : PySem.W.nsIn K mainGlobals "SIGNS" = some (some (.str "\x0a ,-.0123456789:;=abcdefghijklmnopqrstuvwxyz" t_SIGNS)))
    (a_TEXT : PySem.W.nsIn K mainGlobals "TEXT" = some (some (.str "text" t_TEXT)))
    (a_TRIPLE : PySem.W.nsIn K mainGlobals "TRIPLE" = some (some (.int 3 t_TRIPLE)))
    (a_WORDS : PySem.W.nsIn K mainGlobals "WORDS" = some (some (.ref T_WORDS))) (l_WORDS : K.lookup T_WORDS = some ⟨.type "tuple", od_WORDS, .seq its_WORDS n_WORDS, sl_WORDS⟩) (v_WORDSx : Vals ((["text", "sign", "cat", "or", "star"] : List Str).map L2.V.str) its_WORDS.toList)
    (d_is_tuple : Dfn K "is_tuple" st_is_tuple)
    (d_is_word : Dfn K "is_word" st_is_word)
    (d_is_text : DfnT K "is_text" st_is_text)
    (d_is_leaf : Dfn K "is_leaf" st_is_leaf)
    (d_is_node : Dfn K "is_node" st_is_node)
    (d_parts_of : Dfn K "parts_of" st_parts_of)
    (d_is_type : Dfn K "is_type" st_is_type)
    (d__law_pot : Dfn K "_law_pot" st__law_pot)
    (d__law_take : Dfn K "_law_take" st__law_take)
    (d__law_of : Dfn K "_law_of" st__law_of)
    (d__law_cells : Dfn K "_law_cells" st__law_cells)
    (d__law_some : Dfn K "_law_some" st__law_some)
    (d__law_odd : Dfn K "_law_odd" st__law_odd)
    (d__law_bent : Dfn K "_law_bent" st__law_bent)
    (d__law_signs : Dfn K "_law_signs" st__law_signs)
    (d__law_few : Dfn K "_law_few" st__law_few)
    (d__law_leaf : Dfn K "_law_leaf" st__law_leaf)
    (d__law_type_drawn : Dfn K "_law_type_drawn" st__law_type_drawn)
    (d__law_is_text : Dfn K "_law_is_text" st__law_is_text)
    (d__law_is_node : Dfn K "_law_is_node" st__law_is_node)
    (d__law_is_type : Dfn K "_law_is_type" st__law_is_type)
    (d__law_row : Dfn K "_law_row" st__law_row)
    (d__law_stars : Dfn K "_law_stars" st__law_stars)
    (d__law_bounds : Dfn K "_law_bounds" st__law_bounds)
    (d__law_is_right : Dfn K "_law_is_right" st__law_is_right)
    (d__law_right : Dfn K "_law_right" st__law_right) : Txt K mg where
  m_abs := PySem.W.mg_none_of X G z_abs
  m_all := PySem.W.mg_none_of X G z_all
  m_bool := PySem.W.mg_none_of X G z_bool
  m_int := PySem.W.mg_none_of X G z_int
  m_isinstance := PySem.W.mg_none_of X G z_isinstance
  m_len := PySem.W.mg_none_of X G z_len
  m_list := PySem.W.mg_none_of X G z_list
  m_max := PySem.W.mg_none_of X G z_max
  m_min := PySem.W.mg_none_of X G z_min
  m_range := PySem.W.mg_none_of X G z_range
  m_repr := PySem.W.mg_none_of X G z_repr
  m_set := PySem.W.mg_none_of X G z_set
  m_sorted := PySem.W.mg_none_of X G z_sorted
  m_str := PySem.W.mg_none_of X G z_str
  m_sum := PySem.W.mg_none_of X G z_sum
  m_tuple := PySem.W.mg_none_of X G z_tuple
  m_zip := PySem.W.mg_none_of X G z_zip
  g_LEAVES := glob_texts (ws := ["text", "sign"]) X G a_LEAVES l_LEAVES v_LEAVESx (K01.small (by decide))
  g_MOST_DEEP := glob_int X G a_MOST_DEEP
  g_MOST_LEAF := glob_int X G a_MOST_LEAF
  g_MOST_NODES := glob_int X G a_MOST_NODES
  g_PAIR := glob_int X G a_PAIR
  g_PAIRS := glob_texts (ws := ["cat", "or"]) X G a_PAIRS l_PAIRS v_PAIRSx (K01.small (by decide))
  g_SIGNS := glob_str X G a_SIGNS
  g_TEXT := glob_str X G a_TEXT
  g_TRIPLE := glob_int X G a_TRIPLE
  g_WORDS := glob_texts (ws := ["text", "sign", "cat", "or", "star"]) X G a_WORDS l_WORDS v_WORDSx (K01.small (by decide))
  h_is_tuple := has_of X G d_is_tuple fun _ _ _ _ _ _ us hl => match us, hl with | [_, _, _], _ => rfl
  h_is_word := has_of X G d_is_word fun _ _ _ _ _ _ us hl => match us, hl with | [_, _], _ => rfl
  h_is_text := hasT_of X G d_is_text fun _ _ _ _ _ _ _ us its hl hi => match us, hl, its, hi with | [_, _], _, [_], _ => ⟨_, rfl, rfl⟩
  h_is_leaf := has_of X G d_is_leaf fun _ _ _ _ _ _ us hl => match us, hl with | [_], _ => rfl
  h_is_node := has_of X G d_is_node fun _ _ _ _ _ _ us hl => match us, hl with | [_], _ => rfl
  h_parts_of := has_of X G d_parts_of fun _ _ _ _ _ _ us hl => match us, hl with | [_], _ => rfl
  h_is_type := has_of X G d_is_type fun _ _ _ _ _ _ us hl => match us, hl with | [_], _ => rfl
  h__law_pot := has_of X G d__law_pot fun _ _ _ _ _ _ us hl => match us, hl with | [_, _], _ => rfl
  h__law_take := has_of X G d__law_take fun _ _ _ _ _ _ us hl => match us, hl with | [_, _], _ => rfl
  h__law_of := has_of X G d__law_of fun _ _ _ _ _ _ us hl => match us, hl with | [_, _], _ => rfl
  h__law_cells := has_of X G d__law_cells fun _ _ _ _ _ _ us hl => match us, hl with | [_, _], _ => rfl
  h__law_some := has_of X G d__law_some fun _ _ _ _ _ _ us hl => match us, hl with | [_, _, _], _ => rfl
  h__law_odd := has_of X G d__law_odd fun _ _ _ _ _ _ us hl => match us, hl with | [_], _ => rfl
  h__law_bent := has_of X G d__law_bent fun _ _ _ _ _ _ us hl => match us, hl with | [_, _], _ => rfl
  h__law_signs := has_of X G d__law_signs fun _ _ _ _ _ _ us hl => match us, hl with | [], _ => rfl
  h__law_few := has_of X G d__law_few fun _ _ _ _ _ _ us hl => match us, hl with | [_], _ => rfl
  h__law_leaf := has_of X G d__law_leaf fun _ _ _ _ _ _ us hl => match us, hl with | [_, _], _ => rfl
  h__law_type_drawn := has_of X G d__law_type_drawn fun _ _ _ _ _ _ us hl => match us, hl with | [_, _, _], _ => rfl
  h__law_is_text := has_of X G d__law_is_text fun _ _ _ _ _ _ us hl => match us, hl with | [_], _ => rfl
  h__law_is_node := has_of X G d__law_is_node fun _ _ _ _ _ _ us hl => match us, hl with | [_], _ => rfl
  h__law_is_type := has_of X G d__law_is_type fun _ _ _ _ _ _ us hl => match us, hl with | [_, _], _ => rfl
  h__law_row := has_of X G d__law_row fun _ _ _ _ _ _ us hl => match us, hl with | [_, _], _ => rfl
  h__law_stars := has_of X G d__law_stars fun _ _ _ _ _ _ us hl => match us, hl with | [_, _], _ => rfl
  h__law_bounds := has_of X G d__law_bounds fun _ _ _ _ _ _ us hl => match us, hl with | [_, _], _ => rfl
  h__law_is_right := has_of X G d__law_is_right fun _ _ _ _ _ _ us hl => match us, hl with | [_], _ => rfl
  h__law_right := has_of X G d__law_right fun _ _ _ _ _ _ us hl => match us, hl with | [_], _ => rfl
theorem law_mk {l : PySem.W.OpenLaw} {w : World} {K : PySem.W.Frag} {h : Heap} {mg : Str → Option Value} {fa : Addr} (X : K.In h) (G : h.Ns mainGlobals mg) (hfa : mg "law" = some (.ref fa)) (T : Txt K mg) (D : Dfn K "law" st_law) :
    ∃ fd : FuncData, (∀ (s : Shared) (v : Value), BindsTo s fd ⟨[v], []⟩ [("script", v)]) ∧ ∀ base : Heap, K.In base → base.Ns mainGlobals mg → GnOk l.prog w K mg base CX0 51 fa fd ["script"] (lift K sp_law) := by
  obtain ⟨f, oc, od, kV, doc, pm, an, cd, ct, osl, a, lk, hcd, k⟩ := D
  have e := hfa.symm.trans (PySem.W.mg_of X G a)
  cases e
  exact ⟨PySem.W.fnOf "law" "law" (L2.defArgs st_law) (L2.defBody st_law) (L2.defScope st_law) .none kV doc pm an cd ct, fun s v => .of_eq rfl, fun base _ _ => all_law T lk hcd⟩
theorem due {K : PySem.W.Frag} {H : L2.Hp} {a : Addr} {ns : List Int} (hl : ns.length ≤ 63) (hS : L2.SqL K H a (ns.map L2.V.int)) : lift K sp_law [.ref a] H (fun v _ => v = .bl true) fun _ _ _ => False := by
  refine ⟨[.slst (ns.map D.int)], H, fun _ => none, fun d _ => d = .bl true, .cons (.slst hS (of_ints ns)) .nil, ⟨L2.Same.refl H, fun a m e => nomatch e⟩, ⟨ns, rfl, hl, fun _ => rfl⟩, ?_⟩
  rintro v d F M H' s rp rfl
  cases rp
  rfl
theorem walk {l : PySem.W.OpenLaw} {q : Program} {loose : List Str} {XP : (Str → Option Value) → Heap → Prop} {YP : World → Heap → Prop} {d : DefRec} {K : Params → PySem.W.Frag} (hn : l.most = some 63) (hdf : d.params.defaults = [])
    (hY : ∀ (w : World) (h : Heap), YP w h → (K w.params).In h)
    (F : ∀ (w : World) (mg : Str → Option Value) (fa : Addr) (h : Heap), (K w.params).In h → h.Ns mainGlobals mg → mg d.name = some (.ref fa) → mg "law" = some (.ref fa) ∧ Txt (K w.params) mg ∧ Dfn (K w.params) "law" st_law) :
    PySem.W.WalkO q loose XP YP l.row.toRowW d [] (fun f vs => PySem.call f vs) :=
  gwalk_of (n := 63) (k := 51) (x := "script") (sp := fun w => lift (K w.params) sp_law) hn (by decide) hdf ⟨rfl, by decide, by decide⟩ hY
    (fun w mg fa h X G m => let ⟨a, t, e⟩ := F w mg fa h X G m; law_mk X G a t e) fun w H a ns hl hS => due hl hS
end K01
open PySem PySem.W PyProof.Rows
set_option maxRecDepth 100000 in
set_option maxHeartbeats 0 in
theorem PySem.Challenge.cw_eithermended_k01_types_and_what_is_none_holds : PySem.Challenge.rw_eithermended_k01_types_and_what_is_none.Holds := by
  w_on; o_law; k_head; (case hw => w_witness2)
  k_fill
  refine K01.walk (l := PySem.Challenge.rw_eithermended_k01_types_and_what_is_none) rfl rfl (fun w h Y => PySem.W.kIn_of Y) ?F
  case F =>
    intro w mg fa h KX G hmg
    refine ⟨hmg, ?T, ?D⟩
    (case D => (refine' DL.dfn_mk ?a ?l ?c ?k; (case a => k_is); (case l => k_is); (case c => k_is); (case k => k_is)))
    refine' K01.txt_mk KX G ?z_abs ?z_all ?z_bool ?z_int ?z_isinstance ?z_len ?z_list ?z_max ?z_min ?z_range ?z_repr ?z_set ?z_sorted ?z_str ?z_sum ?z_tuple ?z_zip ?a_LEAVES ?l_LEAVES ?v_LEAVESx ?a_MOST_DEEP ?a_MOST_LEAF ?a_MOST_NODES ?a_PAIR ?a_PAIRS ?l_PAIRS ?v_PAIRSx ?a_SIGNS ?a_TEXT ?a_TRIPLE ?a_WORDS ?l_WORDS ?v_WORDSx ?d_is_tuple ?d_is_word ?d_is_text ?d_is_leaf ?d_is_node ?d_parts_of ?d_is_type ?d__law_pot ?d__law_take ?d__law_of ?d__law_cells ?d__law_some ?d__law_odd ?d__law_bent ?d__law_signs ?d__law_few ?d__law_leaf ?d__law_type_drawn ?d__law_is_text ?d__law_is_node ?d__law_is_type ?d__law_row ?d__law_stars ?d__law_bounds ?d__law_is_right ?d__law_right
    (case z_abs => k_is)
    (case z_all => k_is)
    (case z_bool => k_is)
    (case z_int => k_is)
    (case z_isinstance => k_is)
    (case z_len => k_is)
    (case z_list => k_is)
    (case z_max => k_is)
    (case z_min => k_is)
    (case z_range => k_is)
    (case z_repr => k_is)
    (case z_set => k_is)
    (case z_sorted => k_is)
    (case z_str => k_is)
    (case z_sum => k_is)
    (case z_tuple => k_is)
    (case z_zip => k_is)
    (case a_LEAVES => k_is)
    (case l_LEAVES => k_is)
    (case v_LEAVESx => exact .cons ⟨_, rfl⟩ (.cons ⟨_, rfl⟩ .nil))
    (case a_MOST_DEEP => k_is)
    (case a_MOST_LEAF => k_is)
    (case a_MOST_NODES => k_is)
    (case a_PAIR => k_is)
    (case a_PAIRS => k_is)
    (case l_PAIRS => k_is)
    (case v_PAIRSx => exact .cons ⟨_, rfl⟩ (.cons ⟨_, rfl⟩ .nil))
    (case a_SIGNS => k_is)
    (case a_TEXT => k_is)
    (case a_TRIPLE => k_is)
    (case a_WORDS => k_is)
    (case l_WORDS => k_is)
    (case v_WORDSx => exact .cons ⟨_, rfl⟩ (.cons ⟨_, rfl⟩ (.cons ⟨_, rfl⟩ (.cons ⟨_, rfl⟩ (.cons ⟨_, rfl⟩ .nil)))))
    (case d_is_tuple => (refine' DL.dfn_mk ?a ?l ?c ?k; (case a => k_is); (case l => k_is); (case c => k_is); (case k => k_is)))
    (case d_is_word => (refine' DL.dfn_mk ?a ?l ?c ?k; (case a => k_is); (case l => k_is); (case c => k_is); (case k => k_is)))
    (case d_is_text => (refine' DL.dfnT_mk ?a ?l ?c ?k ?t; (case a => k_is); (case l => k_is); (case c => k_is); (case k => k_is); (case t => k_is)))
    (case d_is_leaf => (refine' DL.dfn_mk ?a ?l ?c ?k; (case a => k_is); (case l => k_is); (case c => k_is); (case k => k_is)))
    (case d_is_node => (refine' DL.dfn_mk ?a ?l ?c ?k; (case a => k_is); (case l => k_is); (case c => k_is); (case k => k_is)))
    (case d_parts_of => (refine' DL.dfn_mk ?a ?l ?c ?k; (case a => k_is); (case l => k_is); (case c => k_is); (case k => k_is)))
    (case d_is_type => (refine' DL.dfn_mk ?a ?l ?c ?k; (case a => k_is); (case l => k_is); (case c => k_is); (case k => k_is)))
    (case d__law_pot => (refine' DL.dfn_mk ?a ?l ?c ?k; (case a => k_is); (case l => k_is); (case c => k_is); (case k => k_is)))
    (case d__law_take => (refine' DL.dfn_mk ?a ?l ?c ?k; (case a => k_is); (case l => k_is); (case c => k_is); (case k => k_is)))
    (case d__law_of => (refine' DL.dfn_mk ?a ?l ?c ?k; (case a => k_is); (case l => k_is); (case c => k_is); (case k => k_is)))
    (case d__law_cells => (refine' DL.dfn_mk ?a ?l ?c ?k; (case a => k_is); (case l => k_is); (case c => k_is); (case k => k_is)))
    (case d__law_some => (refine' DL.dfn_mk ?a ?l ?c ?k; (case a => k_is); (case l => k_is); (case c => k_is); (case k => k_is)))
    (case d__law_odd => (refine' DL.dfn_mk ?a ?l ?c ?k; (case a => k_is); (case l => k_is); (case c => k_is); (case k => k_is)))
    (case d__law_bent => (refine' DL.dfn_mk ?a ?l ?c ?k; (case a => k_is); (case l => k_is); (case c => k_is); (case k => k_is)))
    (case d__law_signs => (refine' DL.dfn_mk ?a ?l ?c ?k; (case a => k_is); (case l => k_is); (case c => k_is); (case k => k_is)))
    (case d__law_few => (refine' DL.dfn_mk ?a ?l ?c ?k; (case a => k_is); (case l => k_is); (case c => k_is); (case k => k_is)))
    (case d__law_leaf => (refine' DL.dfn_mk ?a ?l ?c ?k; (case a => k_is); (case l => k_is); (case c => k_is); (case k => k_is)))
    (case d__law_type_drawn => (refine' DL.dfn_mk ?a ?l ?c ?k; (case a => k_is); (case l => k_is); (case c => k_is); (case k => k_is)))
    (case d__law_is_text => (refine' DL.dfn_mk ?a ?l ?c ?k; (case a => k_is); (case l => k_is); (case c => k_is); (case k => k_is)))
    (case d__law_is_node => (refine' DL.dfn_mk ?a ?l ?c ?k; (case a => k_is); (case l => k_is); (case c => k_is); (case k => k_is)))
    (case d__law_is_type => (refine' DL.dfn_mk ?a ?l ?c ?k; (case a => k_is); (case l => k_is); (case c => k_is); (case k => k_is)))
    (case d__law_row => (refine' DL.dfn_mk ?a ?l ?c ?k; (case a => k_is); (case l => k_is); (case c => k_is); (case k => k_is)))
    (case d__law_stars => (refine' DL.dfn_mk ?a ?l ?c ?k; (case a => k_is); (case l => k_is); (case c => k_is); (case k => k_is)))
    (case d__law_bounds => (refine' DL.dfn_mk ?a ?l ?c ?k; (case a => k_is); (case l => k_is); (case c => k_is); (case k => k_is)))
    (case d__law_is_right => (refine' DL.dfn_mk ?a ?l ?c ?k; (case a => k_is); (case l => k_is); (case c => k_is); (case k => k_is)))
    (case d__law_right => (refine' DL.dfn_mk ?a ?l ?c ?k; (case a => k_is); (case l => k_is); (case c => k_is); (case k => k_is)))

